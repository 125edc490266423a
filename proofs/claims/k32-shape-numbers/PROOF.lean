import PyProof.Rows.All
import Wide.All
import OpenK.AllK
import Wide.FinOn
import HandS.ForMost
import HandS.Flow
import HandS.IsInst
import HandS.Wide
import HandS.Walk
import PyProof.Rows.IntBool
import HandS.Property
import HandS.Star
import HandS.OwnEq
import HandS.SetFor
import KE.GoesEnum
import KE.GoesMore
import HandS.Strs
import HandS.Deep
import HandS.TupAny
import KE.KRevSl
import KE.KOpsOwn
import HandS.ForExc
import HandS.FStr
import HandS.ExcField
import HandS.ExcIs
import HandS.ExcSuper
import KE.KExcSuper
import KE.KExcIs
import HandS.OwnIter
import HandS.IterNext
import HandS.Text
import HandS.Zip
import HandS.HotCalls
import PyProof.ReprRoads
import HandS.Ends
import PyProof.AutoSeq1
import PySem.Challenge.RW_drawnanew_k32_shape_numbers
set_option Elab.async false
set_option linter.all false
set_option maxRecDepth 100000
set_option maxHeartbeats 4000000
/-! XBase: readings that compute, over the hand layer; the heap cut into a part that only grows and cells that change. -/
namespace XL
open PySem PySem.Spec PyProof.Rows L2
abbrev St := L2.St

/-! ### a reading may be exchanged for a stronger one -/
theorem pe_str {X : Cx} {e : Expr} {t t' : TE} (h : PE X e t) (k : ∀ σ H Q, t' σ H Q → t σ H Q) : PE X e t' := ⟨fun pins s σ H Q I q => h.run pins s σ H Q I (k σ H Q q)⟩
theorem pt_str {X : Cx} {e : Expr} {t t' : TT} (h : PT X e t) (k : ∀ σ H Q, t' σ H Q → t σ H Q) : PT X e t' := ⟨fun pins s σ H Q I q => h.run pins s σ H Q I (k σ H Q q)⟩
theorem ps_str {X : Cx} {e : Stmt} {t t' : TS} (h : PS X e t) (k : ∀ D σ H, t' D σ H → t D σ H) : PS X e t' := ⟨fun pins s σ H D I q => h.run pins s σ H D I (k D σ H q)⟩
theorem or_str {X : Cx} {f : Value → Value → Sem Value} {r r' : R2} (h : OpR X f r) (k : ∀ x y H Q, r' x y H Q → r x y H Q) : OpR X f r' := fun pins s σ H x y v u Q I rx ry q => h pins s σ H x y v u Q I rx ry (k x y H Q q)
theorem cr_str {X : Cx} {f : Value} {r r' : List V → Hp → VK → Prop} (h : CallR X f r) (k : ∀ xs H Q, r' xs H Q → r xs H Q) : CallR X f r' := fun pins s σ H xs us Q I rx q => h pins s σ H xs us Q I rx (k xs H Q q)
theorem OpR.or {X : Cx} {f : Value → Value → Sem Value} {r r' : R2} (h : OpR X f r) (h' : OpR X f r') : OpR X f (fun x y H Q => r x y H Q ∨ r' x y H Q) := by
  intro pins s σ H x y v u Q I rx ry q
  rcases q with q | q
  · exact h pins s σ H x y v u Q I rx ry q
  · exact h' pins s σ H x y v u Q I rx ry q

/-! ### names -/
def nth : St → Nat → Option V
  | [], _ => none
  | x :: _, 0 => x
  | _ :: r, n + 1 => nth r n
theorem nth_get : ∀ {σ : St} {i : Nat} {v : V}, nth σ i = some v → σ[i]? = some (some v)
  | [], _, _, h => nomatch h
  | _ :: _, 0, _, h => congrArg some h
  | _ :: r, n + 1, _, h => by
    rw [List.getElem?_cons_succ]
    exact nth_get (σ := r) h
def xVar (i : Nat) : TE := fun σ H Q => match nth σ i with
  | some v => Q v H
  | none => False
section
variable {X : Cx} {a b c : Expr} {ta tb tc : TE} {pos : Pos} {tA tB' : TT} {rest : List Expr}
theorem xv (i : Nat) {x : Str} {pos : Pos} (hN : X.N[i]? = some x := by rfl) (hv : Vis X.env.scope x := by first | exact Or.inl rfl | exact Or.inr (Or.inl rfl) | exact Or.inr (Or.inr rfl)) (hd : (x == ("__debug__" : Str)) = false := by decide)
    (hcd : (x == ("__classdict__" : Str)) = false := by decide) : PE X (.Name x pos) (xVar i) := pe_str (pe_var hN hv hd hcd) fun σ H Q h => by
  unfold xVar at h
  cases e : nth σ i with
  | none => rw [e] at h; exact h.elim
  | some v => rw [e] at h; exact ⟨v, nth_get e, h⟩

/-! ### arithmetic -/
theorem op_mul_ib : OpR X (binaryOp .Mult) (fun x y H Q => ∃ i k, x = .int i ∧ y = .bl k ∧ Q (.int (i * b2i k)) H) := by
  intro pins s σ H x y v u Q I rx ry h
  obtain ⟨i, k, rfl, rfl, q⟩ := h
  obtain ⟨t, rfl⟩ := rx
  cases ry
  refine PySem.IntBool.mul_int_bool ?_
  have e : (if k = true then (1 : Int) else 0) = b2i k := by cases k <;> rfl
  rw [e]
  exact ⟨.int (i * b2i k), H, I.tok _, ⟨_, rfl⟩, q⟩
def yAdd : R2 := fun x y H Q => match x, y with
  | .int i, .int j => Q (.int (i + j)) H
  | .int i, .bl k => Q (.int (i + b2i k)) H
  | .str a, .str b => a.length + b.length ≤ sizeLine ∧ ∀ r : Str, r = a ++ b → Q (.str r) H
  | .ref l, .ref b => rCat (.ref l) (.ref b) H Q
  | _, _ => False
theorem op_addY : OpR X (binaryOp .Add) yAdd := by
  refine or_str (OpR.or (op_add (X := X)) (OpR.or (op_add_ib (X := X)) (OpR.or (op_add_str (X := X)) (op_cat (X := X))))) fun x y H Q h => ?_
  unfold yAdd at h
  split at h
  · exact .inl ⟨_, _, rfl, rfl, h⟩
  · exact .inr (.inl ⟨_, _, rfl, rfl, h⟩)
  · exact .inr (.inr (.inl ⟨_, _, rfl, rfl, h.1, h.2 _ rfl⟩))
  · exact .inr (.inr (.inr h))
  · exact h.elim
def ySub : R2 := fun x y H Q => match x, y with
  | .int i, .int j => Q (.int (i - j)) H
  | _, _ => False
theorem op_subY : OpR X (binaryOp .Sub) ySub := by
  refine or_str (op_sub (X := X)) fun x y H Q h => ?_
  unfold ySub at h
  split at h
  · exact ⟨_, _, rfl, rfl, h⟩
  · exact h.elim
def yMul : R2 := fun x y H Q => match x, y with
  | .int i, .int j => CMul i j ∧ Q (.int (i * j)) H
  | .int i, .bl k => Q (.int (i * b2i k)) H
  | .ref l, .int k => rRep (.ref l) (.int k) H Q
  | _, _ => False
theorem op_mulY : OpR X (binaryOp .Mult) yMul := by
  refine or_str (OpR.or (op_mul (X := X)) (OpR.or (op_mul_ib (X := X)) (op_rep (X := X)))) fun x y H Q h => ?_
  unfold yMul at h
  split at h
  · exact .inl ⟨_, _, rfl, rfl, h.1, h.2⟩
  · exact .inr (.inl ⟨_, _, rfl, rfl, h⟩)
  · exact .inr (.inr h)
  · exact h.elim
def yMod : R2 := fun x y H Q => match x, y with
  | .int i, .int j => 0 < j ∧ ∀ r : Int, r = i % j → 0 ≤ r → r < j → Q (.int r) H
  | _, _ => False
theorem op_modY : OpR X (binaryOp .Mod) yMod := by
  refine or_str (op_mod (X := X)) fun x y H Q h => ?_
  unfold yMod at h
  split at h
  · exact ⟨_, _, rfl, rfl, h.1, h.2 _ rfl (Int.emod_nonneg _ (by have := h.1; omega)) (Int.emod_lt_of_pos _ h.1)⟩
  · exact h.elim
def yDiv : R2 := fun x y H Q => match x, y with
  | .int i, .int j => (0 < j ∧ j < 1073741824) ∧ ∀ r : Int, r = i / j → (0 ≤ i → 0 ≤ r) → Q (.int r) H
  | _, _ => False
theorem op_divY : OpR X (binaryOp .FloorDiv) yDiv := by
  refine or_str (op_fdiv (X := X)) fun x y H Q h => ?_
  unfold yDiv at h
  split at h
  · exact ⟨_, _, rfl, rfl, h.1, h.2 _ rfl (fun h0 => Int.ediv_nonneg h0 (by have := h.1.1; omega))⟩
  · exact h.elim
def yPow : R2 := fun x y H Q => match x, y with
  | .int i, .int j => CPow i j ∧ ∀ r : Int, r = i ^ j.toNat → Q (.int r) H
  | _, _ => False
theorem op_powY : OpR X (binaryOp .Pow) yPow := by
  refine or_str (op_pow (X := X)) fun x y H Q h => ?_
  unfold yPow at h
  split at h
  · exact ⟨_, _, rfl, rfl, h.1, h.2 _ rfl⟩
  · exact h.elim

/-! ### comparisons -/
def yCmp (p : Int → Int → Bool) : R2 := fun x y H Q => match x, y with
  | .int i, .int j => Q (.bl (p i j)) H
  | _, _ => False
theorem yCmp_rI {p : Int → Int → Bool} {x y : V} {H : Hp} {Q : VK} (h : yCmp p x y H Q) : rI0 (fun i j => .bl (p i j)) x y H Q := by
  unfold yCmp at h
  split at h
  · exact ⟨_, _, rfl, rfl, h⟩
  · exact h.elim
theorem op_ltY : OpR X (compareOp .Lt) (yCmp fun i j => decide (i < j)) := or_str (op_lt (X := X)) fun _ _ _ _ h => yCmp_rI h
theorem op_leY : OpR X (compareOp .LtE) (yCmp fun i j => decide (i ≤ j)) := or_str (op_le (X := X)) fun _ _ _ _ h => yCmp_rI h
theorem op_gtY : OpR X (compareOp .Gt) (yCmp fun i j => decide (j < i)) := or_str (op_gt (X := X)) fun _ _ _ _ h => yCmp_rI h
theorem op_geY : OpR X (compareOp .GtE) (yCmp fun i j => decide (j ≤ i)) := or_str (op_ge (X := X)) fun _ _ _ _ h => yCmp_rI h
def yEq (K : PySem.W.Frag) : R2 := fun x y H Q => match x, y with
  | .int i, .int j => Q (.bl (decide (i = j))) H
  | .str i, .str j => Q (.bl (decide (i = j))) H
  | .bl i, .bl j => Q (.bl (decide (i = j))) H
  | .ref a, .ref b => rEqD K (.ref a) (.ref b) H Q
  | x, y => scal x y = true ∧ Q (.bl (decide (x = y))) H
def yNe (K : PySem.W.Frag) : R2 := fun x y H Q => match x, y with
  | .int i, .int j => Q (.bl (!decide (i = j))) H
  | .str i, .str j => Q (.bl (!decide (i = j))) H
  | .bl i, .bl j => Q (.bl (!decide (i = j))) H
  | .ref a, .ref b => rNeD K (.ref a) (.ref b) H Q
  | x, y => scal x y = true ∧ Q (.bl (!decide (x = y))) H
theorem deci {i j : Int} : decide (V.int i = V.int j) = decide (i = j) := by by_cases h : i = j <;> simp [h]
theorem decs {i j : Str} : decide (V.str i = V.str j) = decide (i = j) := by by_cases h : i = j <;> simp [h]
theorem decb {i j : Bool} : decide (V.bl i = V.bl j) = decide (i = j) := by by_cases h : i = j <;> simp [h]
theorem op_eqY (hu : X.A.units + 64 < cLine) : OpR X (compareOp .Eq) (yEq X.K) := by
  refine or_str (OpR.or (op_eq (X := X)) (op_eqD hu)) fun x y H Q h => ?_
  unfold yEq at h
  split at h
  · exact .inl ⟨rfl, by rw [deci]; exact h⟩
  · exact .inl ⟨rfl, by rw [decs]; exact h⟩
  · exact .inl ⟨rfl, by rw [decb]; exact h⟩
  · exact .inr h
  · exact .inl h
theorem op_neY (hu : X.A.units + 64 < cLine) : OpR X (compareOp .NotEq) (yNe X.K) := by
  refine or_str (OpR.or (op_ne (X := X)) (op_neD hu)) fun x y H Q h => ?_
  unfold yNe at h
  split at h
  · exact .inl ⟨rfl, by rw [deci]; exact h⟩
  · exact .inl ⟨rfl, by rw [decs]; exact h⟩
  · exact .inl ⟨rfl, by rw [decb]; exact h⟩
  · exact .inr h
  · exact .inl h

/-! ### tests -/
/-- a bool as a test -/
def xB (t : TE) : TT := fun σ H Q => t σ H fun x H1 => match x with
  | .bl c => Q c H1
  | _ => False
theorem pe_mono {X : Cx} {e : Expr} {t : TE} (_h : PE X e t) : True := trivial
theorem xt_cmp {op : CmpOp} {r : R2} (ho : OpR X (compareOp op) r) (ha : PE X a ta) (hb : PE X b tb) (hm : behindInMarks op b = false) : PT X (.Compare a [op] [b] pos) (xB (tOp r ta tb)) := by
  refine ⟨fun pins s σ H Q I h => ?_⟩
  refine wpAny_isTrue_Compare1 (thn (ha.run pins s σ H _ I h) fun v s1 ⟨x, H1, I1, r1, q1⟩ => thn (hb.run pins s1 σ H1 _ I1 q1) fun u s2 ⟨y, H2, I2, r2, q2⟩ =>
    thn (ho pins s2 σ H2 x y v u _ I2 r1 r2 q2) fun c s3 ⟨z, H3, I3, r3, q3⟩ => ?_) hm
  cases z with
  | bl k =>
    cases r3
    exact wpAny_truthy_bool ⟨H3, I3, q3⟩
  | _ => exact False.elim q3
theorem xt_val {e : Expr} {t : TE} (h : PE X e t) (he : ∀ whole, isTrue e X.env whole = (do let v ← whole; standAt e.pos; holding [v] (truthy v)) := by intro _; rfl) : PT X e (xB t) := by
  refine ⟨fun pins s σ H Q I hw => ?_⟩
  refine isTrue_plain (thn (h.run pins s σ H _ I hw) fun v s1 ⟨x, H1, I1, r1, q1⟩ => ?_) (he _)
  cases x with
  | bl k =>
    cases r1
    exact wpAny_truthy_bool ⟨H1, I1, q1⟩
  | _ => exact False.elim q1
/-- the truth of a value -/
def yTru (K : PySem.W.Frag) (x : V) (H : Hp) (Q : Bool → Hp → Prop) : Prop := match x with
  | .bl c => Q c H
  | .int i => Q (i != 0) H
  | .non => Q false H
  | x => ∃ k, TruV K x H k ∧ Q k H
def xTru (K : PySem.W.Frag) (t : TE) : TT := fun σ H Q => t σ H fun x H1 => yTru K x H1 Q
theorem xt_tru (ha : PE X a ta) (he : ∀ whole, isTrue a X.env whole = (do let v ← whole; standAt a.pos; holding [v] (truthy v)) := by intro _; rfl) : PT X a (xTru X.K ta) := by
  have hq : PE X a (fun σ H Q => ta σ H Q) := ha
  refine ⟨fun pins s σ H Q I hw => ?_⟩
  refine isTrue_plain (thn (ha.run pins s σ H _ I hw) fun v s1 ⟨x, H1, I1, r1, q1⟩ => ?_) (he _)
  have q2 : ∃ k, TruV X.K x H1 k ∧ Q k H1 := by
    change yTru X.K x H1 Q at q1
    unfold yTru at q1
    split at q1
    · exact ⟨_, rfl, q1⟩
    · exact ⟨_, rfl, q1⟩
    · exact ⟨_, rfl, q1⟩
    · exact q1
  exact tru_ok pins s1 σ H1 x v Q I1 r1 q2
def xAnd (t u : TT) : TT := fun σ H Q => t σ H fun c H1 => (c = true → u σ H1 Q) ∧ (c = false → Q false H1)
def xOr (t u : TT) : TT := fun σ H Q => t σ H fun c H1 => (c = true → Q true H1) ∧ (c = false → u σ H1 Q)
theorem xw_and (ha : PT X a tA) (hb : PW X (.BoolOp .And (b :: rest) pos) tB') : PW X (.BoolOp .And (a :: b :: rest) pos) (xAnd tA tB') := by
  refine ⟨fun wh pins s0 σ H Q J h => ?_⟩
  refine isTrue_and (thn (ha.run pins s0 σ H _ J h) fun k s2 ⟨H2, J2, q2⟩ => ?_)
  cases k with
  | true => exact hb.run wh pins s2 σ H2 Q J2 (q2.1 rfl)
  | false => exact ⟨H2, J2, q2.2 rfl⟩
theorem xw_or (ha : PT X a tA) (hb : PW X (.BoolOp .Or (b :: rest) pos) tB') : PW X (.BoolOp .Or (a :: b :: rest) pos) (xOr tA tB') := by
  refine ⟨fun wh pins s0 σ H Q J h => ?_⟩
  refine isTrue_or (thn (ha.run pins s0 σ H _ J h) fun k s2 ⟨H2, J2, q2⟩ => ?_)
  cases k with
  | true => exact ⟨H2, J2, q2.1 rfl⟩
  | false => exact hb.run wh pins s2 σ H2 Q J2 (q2.2 rfl)
/-- and, or, not as values: of bools -/
def xAndV (ta tb : TE) : TE := fun σ H Q => ta σ H fun x H1 => match x with
  | .bl c => (c = true → tb σ H1 Q) ∧ (c = false → Q (.bl false) H1)
  | _ => False
def xOrV (ta tb : TE) : TE := fun σ H Q => ta σ H fun x H1 => match x with
  | .bl c => (c = true → Q (.bl true) H1) ∧ (c = false → tb σ H1 Q)
  | _ => False
def xNotV (ta : TE) : TE := fun σ H Q => ta σ H fun x H1 => match x with
  | .bl c => Q (.bl (!c)) H1
  | _ => False
theorem xe_and (ha : PE X a ta) (hb : PE X (.BoolOp .And (b :: rest) pos) tb) : PE X (.BoolOp .And (a :: b :: rest) pos) (xAndV ta tb) := by
  refine ⟨fun pins s0 σ H Q J h => ?_⟩
  refine BoolOp_and (thn (ha.run pins s0 σ H _ J h) fun v s2 ⟨x, H2, J2, r2, q2⟩ => ?_)
  cases x with
  | bl k =>
    cases r2
    refine wpAny_truthy_bool ?_
    cases k with
    | true => exact hb.run pins s2 σ H2 Q J2 (q2.1 rfl)
    | false => exact ⟨.bl false, H2, J2, rfl, q2.2 rfl⟩
  | _ => exact False.elim q2
theorem xe_or (ha : PE X a ta) (hb : PE X (.BoolOp .Or (b :: rest) pos) tb) : PE X (.BoolOp .Or (a :: b :: rest) pos) (xOrV ta tb) := by
  refine ⟨fun pins s0 σ H Q J h => ?_⟩
  refine BoolOp_or (thn (ha.run pins s0 σ H _ J h) fun v s2 ⟨x, H2, J2, r2, q2⟩ => ?_)
  cases x with
  | bl k =>
    cases r2
    refine wpAny_truthy_bool ?_
    cases k with
    | true => exact ⟨.bl true, H2, J2, rfl, q2.1 rfl⟩
    | false => exact hb.run pins s2 σ H2 Q J2 (q2.2 rfl)
  | _ => exact False.elim q2
theorem xe_not (ha : PE X a ta) : PE X (.UnaryOp .Not a pos) (xNotV ta) := by
  refine ⟨fun pins s0 σ H Q J h => ?_⟩
  refine UnaryOp_ (thn (ha.run pins s0 σ H _ J h) fun v s2 ⟨x, H2, J2, r2, q2⟩ => ?_)
  cases x with
  | bl k =>
    cases r2
    exact not_of (wpAny_truthy_bool ⟨.bl (!k), H2, J2, rfl, q2⟩)
  | _ => exact False.elim q2
/-- a if t else b -/
def xIf (t : TT) (ta tb : TE) : TE := fun σ H Q => t σ H fun c H1 => (c = true → ta σ H1 Q) ∧ (c = false → tb σ H1 Q)
theorem xe_if {c : Expr} (hc : PT X c tA) (ha : PE X a ta) (hb : PE X b tb) : PE X (.IfExp c a b pos) (xIf tA ta tb) := by
  refine ⟨fun pins s0 σ H Q J h => ?_⟩
  refine wpAny_IfExp (thn (hc.run pins s0 σ H _ J h) fun k s2 ⟨H2, J2, q2⟩ => ?_)
  cases k with
  | true => exact ha.run pins s2 σ H2 Q J2 (q2.1 rfl)
  | false => exact hb.run pins s2 σ H2 Q J2 (q2.2 rfl)
/-- if t: .. else: .. -/
def xIfS (c : TT) (t u : TS) : TS := fun D σ H => c σ H fun b H1 => (b = true → t D σ H1) ∧ (b = false → u D σ H1)
theorem xs_if {c : Expr} {as bs : List Stmt} {tc : TT} {t u : TS} (hc : PT X c tc) (ha : PSs X as t) (hb : PSs X bs u) : PS X (.If c as bs pos) (xIfS tc t u) := by
  refine ⟨fun pins s0 σ H D J h => ?_⟩
  refine wpAny_If (thn (hc.run pins s0 σ H _ J h) fun k s2 ⟨H2, J2, q2⟩ => ?_)
  cases k with
  | true => exact ha.run pins s2 σ H2 D J2 (q2.1 rfl)
  | false => exact hb.run pins s2 σ H2 D J2 (q2.2 rfl)

/-! ### calls of built-ins -/
def yLen (K : PySem.W.Frag) : List V → Hp → VK → Prop := fun xs H Q => match xs with
  | [.str y] => y.length ≤ sizeLine ∧ Q (.int y.length) H
  | [.ref p] => ∃ ys, (SqL K H p ys ∨ SqT K H p ys) ∧ Q (.int ys.length) H
  | _ => False
theorem cr_len : CallR X (.builtin "len") (yLen X.K) := by
  refine cr_str (call_len (X := X)) fun xs H Q h => ?_
  unfold yLen at h
  split at h
  · exact ⟨_, _, rfl, ⟨h.1, rfl⟩, h.2⟩
  · obtain ⟨ys, hy, q⟩ := h
    rcases hy with hy | hy
    · exact ⟨_, _, rfl, .inl ⟨ys, hy, rfl⟩, q⟩
    · exact ⟨_, _, rfl, .inr ⟨ys, hy, rfl⟩, q⟩
  · exact h.elim
def yInt : List V → Hp → VK → Prop := fun xs H Q => match xs with
  | [.int i] => Q (.int i) H
  | [.bl k] => Q (.int (if k then 1 else 0)) H
  | [.str z] => ∃ n, PySem.intText? z = some n ∧ z.length ≤ 640 ∧ Q (.int n) H
  | _ => False
theorem cr_int : CallR X (.type "int") yInt := by
  refine cr_str (CallR.or (call_int1 (X := X)) (call_int_str (X := X))) fun xs H Q h => ?_
  unfold yInt at h
  split at h
  · exact .inl (.inl ⟨_, rfl, h⟩)
  · exact .inl (.inr ⟨_, rfl, h⟩)
  · obtain ⟨n, h1, h2, q⟩ := h
    exact .inr ⟨_, n, rfl, h1, h2, q⟩
  · exact h.elim
def yAbs : List V → Hp → VK → Prop := fun xs H Q => match xs with
  | [.int i] => Q (.int i.natAbs) H
  | _ => False
theorem cr_abs : CallR X (.builtin "abs") yAbs := by
  refine cr_str (call_abs (X := X)) fun xs H Q h => ?_
  unfold yAbs at h
  split at h
  · rename_i i
    refine ⟨i, rfl, ?_⟩
    have e : (if i < 0 then -i else i) = (i.natAbs : Int) := by split <;> omega
    rw [e]
    exact h
  · exact h.elim
def yStr : List V → Hp → VK → Prop := fun xs H Q => match xs with
  | [.int i] => i.natAbs.log2 < 1920 ∧ Q (.str (toString i)) H
  | _ => False
theorem cr_strI : CallR X (.type "str") yStr := by
  refine cr_str (call_str_int (X := X)) fun xs H Q h => ?_
  unfold yStr at h
  split at h
  · exact ⟨_, rfl, h.1, h.2⟩
  · exact h.elim
def yIx (K : PySem.W.Frag) : R2 := fun x y H Q => match x, y with
  | .ref p, .int i => ∃ xs v, (SqL K H p xs ∨ SqT K H p xs) ∧ atI xs i = some v ∧ Q v H
  | .str z, .int i => ∃ c, z.length ≤ sizeLine ∧ atI z.cps.toList i = some c ∧ Q (.str ⟨#[c]⟩) H
  | _, _ => False
theorem ix_y : IxR X (yIx X.K) := by
  intro value slice pins s σ H x y v u Q I rx ry h hs
  refine ix_seq (X := X) value slice pins s σ H x y v u Q I rx ry ?_ hs
  unfold yIx at h
  split at h
  · obtain ⟨xs, z, h1, h2, q⟩ := h
    rcases h1 with h1 | h1
    · exact .inl ⟨_, xs, _, z, rfl, rfl, h1, h2, q⟩
    · exact .inr (.inl ⟨_, xs, _, z, rfl, rfl, h1, h2, q⟩)
  · obtain ⟨k, h1, h2, q⟩ := h
    exact .inr (.inr ⟨_, _, k, rfl, rfl, h1, h2, q⟩)
  · exact h.elim
end

/-! ### the heap: what only grows, and the cells that change -/
def Sep (G : Hp) (M : List (Addr × HO)) (H : Hp) : Prop := Same G H ∧ (∀ p ∈ M, H p.1 = some p.2 ∧ G p.1 = none) ∧ (M.map (·.1)).Nodup
section
variable {G G' H H' : Hp} {M : List (Addr × HO)} {p a b : Addr} {o o' u : HO}
theorem same_upd (h : H p = none) : Same H (upd H p o) := fun b x e => by
  rw [upd_ne (ne_of_none e h)]
  exact e
theorem sep0 : Sep H [] H := ⟨Same.refl H, (fun _ h => nomatch h), List.nodup_nil⟩
theorem Sep.st (S : Sep G M H) (h : G a = some o) : H a = some o := S.1 a o h
theorem Sep.hd (S : Sep G ((a, o) :: M) H) : H a = some o := (S.2.1 _ List.mem_cons_self).1
theorem Sep.at (S : Sep G M H) (h : (a, o) ∈ M) : H a = some o := (S.2.1 _ h).1
theorem Sep.fresh (S : Sep G M H) (h : H p = none) : G p = none := S.1.free h
theorem Sep.new (S : Sep G M H) (h : H p = none) : Sep G ((p, o) :: M) (upd H p o) := by
  refine ⟨S.1.trans (same_upd h), fun q hq => ?_, ?_⟩
  · rcases List.mem_cons.mp hq with rfl | hq
    · exact ⟨upd_same, S.fresh h⟩
    · exact ⟨same_upd h _ _ (S.2.1 q hq).1, (S.2.1 q hq).2⟩
  · rw [List.map_cons, List.nodup_cons]
    refine ⟨fun hm => ?_, S.2.2⟩
    obtain ⟨q, hq, e⟩ := List.mem_map.mp hm
    have z := (S.2.1 q hq).1
    rw [e, h] at z
    cases z
theorem Sep.newG (S : Sep G M H) (h : H p = none) : Sep (upd G p o) M (upd H p o) := by
  refine ⟨fun b x e => ?_, fun q hq => ?_, S.2.2⟩
  · by_cases hb : b = p
    · subst hb
      rw [upd_same] at e ⊢
      exact e
    · rw [upd_ne hb] at e ⊢
      exact S.1 b x e
  · have z := S.2.1 q hq
    refine ⟨same_upd h _ _ z.1, ?_⟩
    rw [upd_ne (ne_of_none z.1 h)]
    exact z.2
theorem Sep.grow (S : Sep G M H) (h : H p = none) : Same G (upd G p o) := same_upd (S.fresh h)
theorem Sep.set (S : Sep G ((a, o) :: M) H) : Sep G ((a, o') :: M) (upd H a o') := by
  have hn := S.2.2
  rw [List.map_cons, List.nodup_cons] at hn
  have ha := S.2.1 _ List.mem_cons_self
  refine ⟨fun b x e => ?_, fun q hq => ?_, S.2.2⟩
  · rw [upd_ne (ne_of_none e ha.2)]
    exact S.1 b x e
  · rcases List.mem_cons.mp hq with rfl | hq
    · exact ⟨upd_same, ha.2⟩
    · refine ⟨?_, (S.2.1 q (List.mem_cons_of_mem _ hq)).2⟩
      rw [upd_ne (show q.1 ≠ a from fun e => hn.1 (by have z : q.1 ∈ M.map (·.1) := List.mem_map_of_mem hq
                                                      rw [e] at z; exact z))]
      exact (S.2.1 q (List.mem_cons_of_mem _ hq)).1
theorem Sep.frz (S : Sep G ((a, o) :: M) H) : Sep (upd G a o) M H := by
  have hn := S.2.2
  rw [List.map_cons, List.nodup_cons] at hn
  have ha := S.2.1 _ List.mem_cons_self
  refine ⟨fun b x e => ?_, fun q hq => ?_, hn.2⟩
  · by_cases hb : b = a
    · subst hb
      rw [upd_same] at e
      cases e
      exact ha.1
    · rw [upd_ne hb] at e
      exact S.1 b x e
  · have z := S.2.1 q (List.mem_cons_of_mem _ hq)
    refine ⟨z.1, ?_⟩
    rw [upd_ne (show q.1 ≠ a from fun e => hn.1 (by have z : q.1 ∈ M.map (·.1) := List.mem_map_of_mem hq
                                                    rw [e] at z; exact z))]
    exact z.2
theorem Sep.none (S : Sep G ((a, o) :: M) H) : G a = none := (S.2.1 _ List.mem_cons_self).2
theorem Sep.frzS (S : Sep G ((a, o) :: M) H) : Same G (upd G a o) := same_upd S.none
theorem Sep.drop {q : Addr × HO} (S : Sep G (q :: M) H) : Sep G M H := by
  have hn := S.2.2
  rw [List.map_cons, List.nodup_cons] at hn
  exact ⟨S.1, fun p hp => S.2.1 p (List.mem_cons_of_mem _ hp), hn.2⟩
theorem Sep.perm {M' : List (Addr × HO)} (S : Sep G M H) (h : M.Perm M') : Sep G M' H :=
  ⟨S.1, fun q hq => S.2.1 q (h.mem_iff.mpr hq), (h.map _).nodup_iff.mp S.2.2⟩
theorem Sep.sw {q r : Addr × HO} (S : Sep G (q :: r :: M) H) : Sep G (r :: q :: M) H := S.perm (List.Perm.swap _ _ _)
theorem same_l {K : PySem.W.Frag} {xs : List V} (e : Same H H') (h : SqL K H a xs) : SqL K H' a xs := e.seq h
theorem same_t {K : PySem.W.Frag} {xs : List V} (e : Same H H') (h : SqT K H a xs) : SqT K H' a xs := by
  rcases h with (h | ⟨o, h⟩) | h
  · exact .inl (.inl (e _ _ h))
  · exact .inl (.inr ⟨o, e _ _ h⟩)
  · exact .inr h
theorem Sep.l {K : PySem.W.Frag} {xs : List V} (S : Sep G M H) (h : SqL K G a xs) : SqL K H a xs := same_l S.1 h
theorem Sep.t {K : PySem.W.Frag} {xs : List V} (S : Sep G M H) (h : SqT K G a xs) : SqT K H a xs := same_t S.1 h
end
mutual
theorem dp_same {K : PySem.W.Frag} {H H' : Hp} (e : Same H H') : ∀ {d : PyData} {v : V}, Dp K H v d → Dp K H' v d
  | _, _, .non => .non
  | _, _, .bl b => .bl b
  | _, _, .int i => .int i
  | _, _, .str x => .str x
  | _, _, .lst h hs => .lst (same_l e h) (dpa_same e hs)
  | _, _, .tup h hs => .tup (same_t e h) (dpa_same e hs)
theorem dpa_same {K : PySem.W.Frag} {H H' : Hp} (e : Same H H') : ∀ {ds : List PyData} {vs : List V}, DpAll K H vs ds → DpAll K H' vs ds
  | _, _, .nil => .nil
  | _, _, .cons h hs => .cons (dp_same e h) (dpa_same e hs)
end

/-! ### loops by what has been gone through -/
theorem take_pre {α : Type} {xs : List α} {i : Nat} {x : α} (h : xs[i]? = some x) : xs = xs.take i ++ x :: xs.drop (i + 1) ∧ xs.take (i + 1) = xs.take i ++ [x] := by
  have hi : i < xs.length := (List.getElem?_eq_some_iff.mp h).1
  have e : xs[i] = x := (List.getElem?_eq_some_iff.mp h).2
  refine ⟨?_, ?_⟩
  · rw [← e, List.getElem_cons_drop, List.take_append_drop]
  · rw [List.take_add_one, h]
    rfl
section
variable {K : PySem.W.Frag} {a : Addr} {xs : List V} {g : TG} {tb : TS} {D : Ends} {σ : L2.St} {H : Hp}
theorem for_pre (Pv : List V → L2.St → Hp → Prop) (h0 : Pv [] σ H) (hl : ∀ pre σ H, Pv pre σ H → SqL K H a xs)
    (hs : ∀ pre x post σ H, xs = pre ++ x :: post → Pv pre σ H → g x σ H fun σ2 H2 => tb { D with nx := Pv (pre ++ [x]), ct := Pv (pre ++ [x]), bk := D.nx } σ2 H2) (hd : ∀ σ H, Pv xs σ H → D.nx σ H) :
    ∃ W : Nat → Nat → L2.St → Hp → Prop, (∃ m, W 0 m σ H) ∧ ∀ i m σ H, W i m σ H →
      ((Itl K a).stop i H ∧ D.nx σ H) ∨ ((Itl K a).go i H ∧ ∃ N : L2.St → Hp → Prop, (∀ σ' H', N σ' H' → ∃ m', m' < m ∧ W (i + 1) m' σ' H') ∧ ∀ x H', (Itl K a).yld i H x H' → g x σ H' fun σ2 H2 => tb { D with nx := N, ct := N, bk := D.nx } σ2 H2) :=
  for_list (fun i => Pv (xs.take i)) h0 (fun i σ H _ p => hl _ σ H p) (fun i x σ H hx p => by
    rw [(take_pre hx).2]
    exact hs _ x _ σ H (take_pre hx).1 p) (fun σ H p => hd σ H (by rw [List.take_length] at p; exact p))
theorem for_preT (Pv : List V → L2.St → Hp → Prop) (h0 : Pv [] σ H) (hl : ∀ pre σ H, Pv pre σ H → SqT K H a xs)
    (hs : ∀ pre x post σ H, xs = pre ++ x :: post → Pv pre σ H → g x σ H fun σ2 H2 => tb { D with nx := Pv (pre ++ [x]), ct := Pv (pre ++ [x]), bk := D.nx } σ2 H2) (hd : ∀ σ H, Pv xs σ H → D.nx σ H) :
    ∃ W : Nat → Nat → L2.St → Hp → Prop, (∃ m, W 0 m σ H) ∧ ∀ i m σ H, W i m σ H →
      ((Itt K a).stop i H ∧ D.nx σ H) ∨ ((Itt K a).go i H ∧ ∃ N : L2.St → Hp → Prop, (∀ σ' H', N σ' H' → ∃ m', m' < m ∧ W (i + 1) m' σ' H') ∧ ∀ x H', (Itt K a).yld i H x H' → g x σ H' fun σ2 H2 => tb { D with nx := N, ct := N, bk := D.nx } σ2 H2) :=
  for_tup (fun i => Pv (xs.take i)) h0 (fun i σ H _ p => hl _ σ H p) (fun i x σ H hx p => by
    rw [(take_pre hx).2]
    exact hs _ x _ σ H (take_pre hx).1 p) (fun σ H p => hd σ H (by rw [List.take_length] at p; exact p))
/-- for i, x in enumerate(xs) -/
theorem for_enum {i j : Nat} (Pv : List V → L2.St → Hp → Prop) (h0 : Pv [] σ H) (hl : ∀ pre σ H, Pv pre σ H → SqL K H a xs)
    (hs : ∀ pre x post σ H T, xs = pre ++ x :: post → Pv pre σ H → H T = none →
      tb { D with nx := Pv (pre ++ [x]), ct := Pv (pre ++ [x]), bk := D.nx } ((σ.set i (some (.int (pre.length : Nat)))).set j (some x)) (upd H T (.tup [.int (pre.length : Nat), x]))) (hd : ∀ σ H, Pv xs σ H → D.nx σ H) :
    ∃ W : Nat → Nat → L2.St → Hp → Prop, (∃ m, W 0 m σ H) ∧ ∀ k m σ H, W k m σ H →
      ((Ite K a).stop k H ∧ D.nx σ H) ∨ ((Ite K a).go k H ∧ ∃ N : L2.St → Hp → Prop, (∀ σ' H', N σ' H' → ∃ m', m' < m ∧ W (k + 1) m' σ' H') ∧ ∀ x H', (Ite K a).yld k H x H' →
        (gTup K 2 (gCons (gName i) (gCons (gName j) gNil))) x σ H' fun σ2 H2 => tb { D with nx := N, ct := N, bk := D.nx } σ2 H2) := by
  refine ⟨fun k m σ H => m = xs.length - k ∧ k ≤ xs.length ∧ Pv (xs.take k) σ H, ⟨xs.length, by simp, Nat.zero_le _, h0⟩, ?_⟩
  rintro k m σ H ⟨rfl, hk, p⟩
  have q := hl _ σ H p
  by_cases hlt : k < xs.length
  · refine .inr ⟨⟨xs, xs[k], q, by simp [hlt]⟩, Pv (xs.take (k + 1)), fun σ' H' p' => ⟨xs.length - (k + 1), by omega, rfl, hlt, p'⟩, fun v H' y => ?_⟩
    obtain ⟨T, x, rfl, nT, rfl, hx⟩ := y
    have hx := hx xs q
    refine ⟨T, _, rfl, SqT.of upd_same, rfl, _, _, rfl, _, _, rfl, rfl, ?_⟩
    have z := hs _ x _ σ H T (take_pre hx).1 p nT
    rw [(take_pre hx).2]
    rw [show (xs.take k).length = k by rw [List.length_take]; omega] at z
    exact z
  · have e : k = xs.length := by omega
    subst e
    rw [List.take_length] at p
    exact .inl ⟨⟨xs, q, Nat.le_refl _⟩, hd σ H p⟩
/-- [e for x in xs] -/
theorem lc_pre {te : TE} {vs : List Nat} {i : Nat} {H1 : Hp} {L : Addr} {Qd : Hp → Prop} (Pv : List V → Hp → Prop) (h0 : Pv [] (upd H1 L (.lst []))) (hl : ∀ pre H, Pv pre H → SqL K H a xs)
    (hw : ∀ x, wipe ((wipe σ vs).set i (some x)) vs = wipe σ vs)
    (hs : ∀ pre x post H, xs = pre ++ x :: post → Pv pre H → te ((wipe σ vs).set i (some x)) H fun y H4 => ∃ acc, H4 L = some (.lst acc) ∧ acc.length < sizeLine ∧ Pv (pre ++ [x]) (upd H4 L (.lst (acc ++ [y])))) (hd : ∀ H, Pv xs H → Qd H) :
    ∃ W : Nat → Nat → Hp → Prop, (∃ m, W 0 m (upd H1 L (.lst []))) ∧ ∀ k m H, W k m H →
      ((Itl K a).stop k H ∧ Qd H) ∨ ((Itl K a).go k H ∧ ∃ Nx : Hp → Prop, (∀ H', Nx H' → ∃ m', m' < m ∧ W (k + 1) m' H') ∧ ∀ x H', (Itl K a).yld k H x H' → gName i x (wipe σ vs) H' fun σ2 H2 => wipe σ2 vs = wipe σ vs ∧ tYes σ2 H2 fun b H3 =>
        if b = true then te σ2 H3 fun y H4 => ∃ acc, H4 L = some (.lst acc) ∧ acc.length < sizeLine ∧ Nx (upd H4 L (.lst (acc ++ [y]))) else Nx H3) :=
  lc_list (fun k => Pv (xs.take k)) h0 (fun k H _ p => hl _ H p) (fun k x H hx p => ⟨hw x, by
    rw [(take_pre hx).2]
    exact hs _ x _ H (take_pre hx).1 p⟩) (fun H p => hd H (by rw [List.take_length] at p; exact p))
/-- [e for x in range(n)] -/
theorem lc_rng {te : TE} {vs : List Nat} {i : Nat} {n : Nat} {lo : Int} {H1 : Hp} {L : Addr} {Qd : Hp → Prop} (Pv : Nat → Hp → Prop) (h0 : Pv 0 (upd H1 L (.lst [])))
    (hw : ∀ x, wipe ((wipe σ vs).set i (some x)) vs = wipe σ vs)
    (hs : ∀ k H, k < n → Pv k H → te ((wipe σ vs).set i (some (.int (lo + k)))) H fun y H4 => ∃ acc, H4 L = some (.lst acc) ∧ acc.length < sizeLine ∧ Pv (k + 1) (upd H4 L (.lst (acc ++ [y])))) (hd : ∀ H, Pv n H → Qd H) :
    ∃ W : Nat → Nat → Hp → Prop, (∃ m, W 0 m (upd H1 L (.lst []))) ∧ ∀ k m H, W k m H →
      ((Itr lo n).stop k H ∧ Qd H) ∨ ((Itr lo n).go k H ∧ ∃ Nx : Hp → Prop, (∀ H', Nx H' → ∃ m', m' < m ∧ W (k + 1) m' H') ∧ ∀ x H', (Itr lo n).yld k H x H' → gName i x (wipe σ vs) H' fun σ2 H2 => wipe σ2 vs = wipe σ vs ∧ tYes σ2 H2 fun b H3 =>
        if b = true then te σ2 H3 fun y H4 => ∃ acc, H4 L = some (.lst acc) ∧ acc.length < sizeLine ∧ Nx (upd H4 L (.lst (acc ++ [y]))) else Nx H3) :=
  lc_range (lo := lo) (n := n) Pv h0 (fun k H hk p => ⟨hw _, hs k H hk p⟩) hd
end
/-! ### places of lists -/
theorem atI_in {α : Type} {xs : List α} {i : Int} (h0 : 0 ≤ i) (h1 : i < xs.length) : ∃ v, atI xs i = some v ∧ v ∈ xs := by
  obtain ⟨j, rfl⟩ : ∃ j : Nat, i = (j : Int) := ⟨i.toNat, by omega⟩
  have hj : j < xs.length := by omega
  exact ⟨xs[j], atI_nat (List.getElem?_eq_getElem hj), List.getElem_mem hj⟩
theorem small {n : Nat} (h : n ≤ 100000) : n ≤ sizeLine := Nat.le_trans h (by decide)
theorem smallL {n : Nat} (h : n < 100000) : n < sizeLine := Nat.lt_of_lt_of_le h (by decide)
theorem sz {n : Nat} (h : Nat.ble n 100000 = true := by rfl) : n ≤ sizeLine := small (Nat.le_of_ble_eq_true h)
theorem seqIdx {i : Int} {n : Nat} (h0 : 0 ≤ i) (h1 : i < n) : seqIndex? i n = some i.toNat := by
  unfold seqIndex?
  have e : (if i < 0 then i + n else i) = i := by rw [if_neg (by omega)]
  simp only [e]
  rw [if_pos (by simp; omega)]
theorem atN {α : Type} {xs : List α} {i : Int} {v : α} (h0 : 0 ≤ i) (h : atI xs i = some v) : xs[i.toNat]? = some v := by
  obtain ⟨j, rfl⟩ : ∃ j : Nat, i = (j : Int) := ⟨i.toNat, by omega⟩
  unfold atI ixN at h
  rw [if_pos (by omega)] at h
  split at h
  · simpa using h
  · cases h
theorem mem_erase {α : Type} {xs : List α} {k : Nat} {y : α} (h : y ∈ xs.eraseIdx k) : y ∈ xs := List.mem_of_mem_eraseIdx h
/-- the i-th of a paired list -/
theorem prd_get {α β : Type} {F : α → β → Prop} : ∀ {xs : List α} {ys : List β} {i : Nat} {x : α}, Paired F xs ys → xs[i]? = some x → ∃ y, ys[i]? = some y ∧ F x y
  | _, _, _, _, .nil, h => by simp at h
  | _, _, 0, _, .cons r _, h => by
    simp at h
    subst h
    exact ⟨_, rfl, r⟩
  | _, _, i + 1, _, .cons _ t, h => by
    rw [List.getElem?_cons_succ] at h
    obtain ⟨y, h1, h2⟩ := prd_get t h
    exact ⟨y, by rw [List.getElem?_cons_succ]; exact h1, h2⟩
theorem prd_len {α β : Type} {F : α → β → Prop} : ∀ {xs : List α} {ys : List β}, Paired F xs ys → xs.length = ys.length
  | _, _, .nil => rfl
  | _, _, .cons _ t => congrArg (· + 1) (prd_len t)
theorem prd_imp {α β : Type} {F F' : α → β → Prop} (k : ∀ x y, F x y → F' x y) : ∀ {xs : List α} {ys : List β}, Paired F xs ys → Paired F' xs ys
  | _, _, .nil => .nil
  | _, _, .cons r t => .cons (k _ _ r) (prd_imp k t)
theorem prd_app {α β : Type} {F : α → β → Prop} : ∀ {xs xs' : List α} {ys ys' : List β}, Paired F xs ys → Paired F xs' ys' → Paired F (xs ++ xs') (ys ++ ys')
  | _, _, _, _, .nil, s => s
  | _, _, _, _, .cons r t, s => .cons r (prd_app t s)
theorem prd_take {α β : Type} {F : α → β → Prop} : ∀ {xs : List α} {ys : List β} (n : Nat), Paired F xs ys → Paired F (xs.take n) (ys.take n)
  | _, _, 0, _ => .nil
  | _, _, _ + 1, .nil => .nil
  | _, _, n + 1, .cons r t => .cons r (prd_take n t)
/-- each has a partner -/
theorem prd_ex {α β : Type} {F : α → β → Prop} : ∀ {xs : List α}, (∀ x ∈ xs, ∃ y, F x y) → ∃ ys, Paired F xs ys
  | [], _ => ⟨[], .nil⟩
  | x :: r, h => by
    obtain ⟨y, hy⟩ := h x List.mem_cons_self
    obtain ⟨ys, hs⟩ := prd_ex fun x hx => h x (List.mem_cons_of_mem _ hx)
    exact ⟨y :: ys, .cons hy hs⟩
theorem prd_mem {α β : Type} {F : α → β → Prop} {x : α} : ∀ {xs : List α} {ys : List β}, Paired F xs ys → x ∈ xs → ∃ y ∈ ys, F x y
  | _, _, .nil, h => nomatch h
  | _, _, .cons (b := b) r t, h => by
    rcases List.mem_cons.mp h with rfl | h
    · exact ⟨b, List.mem_cons_self, r⟩
    · obtain ⟨y, h1, h2⟩ := prd_mem t h
      exact ⟨y, List.mem_cons_of_mem _ h1, h2⟩
/-- a statement and what follows it, with a word J between them -/
def xCut (t u : TS) : TS := fun D σ H => ∃ J : L2.St → Hp → Prop, t { D with nx := J } σ H ∧ ∀ σ' H', J σ' H' → u D σ' H'
theorem xss_cut {X : Cx} {st : Stmt} {sts : List Stmt} {t u : TS} (h1 : PS X st t) (h2 : PSs X sts u) : PSs X (st :: sts) (xCut t u) := by
  refine ⟨fun pins s0 σ H D I h => ?_⟩
  obtain ⟨J, hj, hu⟩ := h
  refine wpAny_execs_cons (thn (h1.run pins s0 σ H { D with nx := J } I hj) fun fl s2 q => ?_)
  cases fl with
  | next =>
    obtain ⟨σ2, H2, I2, q2⟩ := q
    exact h2.run pins s2 σ2 H2 D I2 (hu σ2 H2 q2)
  | _ => exact q
section
variable {K : PySem.W.Frag} {a : Addr} {xs : List V} {σ : L2.St}
/-- [e for x in xs], by the turn -/
theorem lc_at {te : TE} {vs : List Nat} {i : Nat} {H1 : Hp} {L : Addr} {Qd : Hp → Prop} (Pv : Nat → Hp → Prop) (h0 : Pv 0 (upd H1 L (.lst []))) (hl : ∀ k H, Pv k H → SqL K H a xs)
    (hw : ∀ x, wipe ((wipe σ vs).set i (some x)) vs = wipe σ vs)
    (hs : ∀ k x H, xs[k]? = some x → Pv k H → te ((wipe σ vs).set i (some x)) H fun y H4 => ∃ acc, H4 L = some (.lst acc) ∧ acc.length < sizeLine ∧ Pv (k + 1) (upd H4 L (.lst (acc ++ [y])))) (hd : ∀ H, Pv xs.length H → Qd H) :
    ∃ W : Nat → Nat → Hp → Prop, (∃ m, W 0 m (upd H1 L (.lst []))) ∧ ∀ k m H, W k m H →
      ((Itl K a).stop k H ∧ Qd H) ∨ ((Itl K a).go k H ∧ ∃ Nx : Hp → Prop, (∀ H', Nx H' → ∃ m', m' < m ∧ W (k + 1) m' H') ∧ ∀ x H', (Itl K a).yld k H x H' → gName i x (wipe σ vs) H' fun σ2 H2 => wipe σ2 vs = wipe σ vs ∧ tYes σ2 H2 fun b H3 =>
        if b = true then te σ2 H3 fun y H4 => ∃ acc, H4 L = some (.lst acc) ∧ acc.length < sizeLine ∧ Nx (upd H4 L (.lst (acc ++ [y]))) else Nx H3) :=
  lc_list Pv h0 (fun k H _ p => hl _ H p) (fun k x H hx p => ⟨hw x, hs _ x H hx p⟩) hd
end
theorem take_snoc {α : Type} {xs : List α} {i : Nat} {x : α} (h : xs[i]? = some x) : xs.take (i + 1) = xs.take i ++ [x] := (take_pre h).2
theorem ff {A : Prop} (h : false = true) : A := nomatch h
theorem tt {A : Prop} (h : true = false) : A := nomatch h
/-! ### the same with the written part K said (within a comprehension the reading must not name its context) -/
section
variable {X : Cx} (K : PySem.W.Frag) {a b e o : Expr} {es : List Expr} {ta tb te to : TE} {t : TA} {pos : Pos} {tg : Expr}
theorem ix_k (h : X.K = K := by rfl) : IxR X (yIx K) := h ▸ ix_y
theorem cr_lenK (h : X.K = K := by rfl) : CallR X (.builtin "len") (yLen K) := h ▸ cr_len
theorem op_eqK (hu : X.A.units + 64 < cLine) (h : X.K = K := by rfl) : OpR X (compareOp .Eq) (yEq K) := h ▸ op_eqY hu
theorem op_neK (hu : X.A.units + 64 < cLine) (h : X.K = K := by rfl) : OpR X (compareOp .NotEq) (yNe K) := h ▸ op_neY hu
theorem xt_truK (ha : PE X a ta) (h : X.K = K := by rfl) (he : ∀ whole, isTrue a X.env whole = (do let v ← whole; standAt a.pos; holding [v] (truthy v)) := by intro _; rfl) : PT X a (xTru K ta) := h ▸ xt_tru ha he
theorem call_isK (h : X.K = K := by rfl) : CallR X (.builtin "isinstance") (rIsi K) := h ▸ call_isi
def yList (K : PySem.W.Frag) : List V → Hp → VK → Prop := fun xs H Q => ∃ p ys, xs = [.ref p] ∧ (SqL K H p ys ∨ SqT K H p ys) ∧ ∀ l, H l = none → Q (.ref l) (upd H l (.lst ys))
theorem call_listK (h : X.K = K := by rfl) : CallR X (.type "list") (yList K) := h ▸ call_list_of
def yTup (K : PySem.W.Frag) : List V → Hp → VK → Prop := fun xs H Q => ∃ p ys, xs = [.ref p] ∧ ((SqL K H p ys ∧ ∀ l, H l = none → Q (.ref l) (upd H l (.tup ys))) ∨ (SqT K H p ys ∧ Q (.ref p) H))
theorem call_tupleK (h : X.K = K := by rfl) : CallR X (.type "tuple") (yTup K) := h ▸ call_tuple_of
theorem cr_sumK (hc : X.calm = true) (h : X.K = K := by rfl) : CallR X (.builtin "sum") (rSum K) := h ▸ cr_sum hc
theorem sl_listK (h : X.K = K := by rfl) : SlR X (rSlL K) := h ▸ sl_list
theorem pi_listK (ha : PE X a ta) (h : X.K = K := by rfl) : PI X tg a (iList K ta) := h ▸ pi_list ha
theorem pi_tupK (ha : PE X a ta) (h : X.K = K := by rfl) : PI X tg a (iTup K ta) := h ▸ pi_tup ha
theorem pe_bmK {T id : String} {name : Str} {apos cpos : Pos} {r : V → List V → Hp → VK → Prop} (pa : PlainAttrs T) (slot : Slot T name id) (hty : typeOf (.builtin id) = pure (.type "method_descriptor")) (hm : MtR X id r) (ho : PE X o to) (ha : PA X (e :: es) t) (hK : X.K = K := by rfl)
    (hbase : attributeBase o name X.env (eval o X.env) = eval o X.env := by rfl)
    (hfew : ((backTo cpos (starEach (e :: es) X.env)).all (fun x => !x.1) && (backToKw cpos (keywordEach [] X.env)).all (fun x => x.1.isSome)
      && decide ((e :: es).length + ([] : List Keyword).length + (if ([] : List Keyword).isEmpty then 0 else 1) < 30)) = true := by rfl)
    (hline : (apos.endLine == cpos.line) = true := by rfl) (hs : starEach (e :: es) X.env = (false, eval e X.env) :: starEach es X.env := by rfl) (hplain : (backTo cpos (starEach es X.env)).any (·.1) = false := by rfl) :
    PE X (.Call (.Attribute o name apos) (e :: es) [] cpos) (tBM K T r to t) := hK ▸ pe_bm pa slot hty hm ho ha hbase hfew hline hs hplain
end
section
variable {X : Cx} {a b c o : Expr} {ta tb tc : TE} {pos : Pos}
/-- a op1 b op2 c, b asked once -/
def xChain (r r' : R2) (ta tb tc : TE) : TE := fun σ H Q => ta σ H fun x H1 => tb σ H1 fun y H2 => r x y H2 fun z H3 => match z with
  | .bl k => (k = true → tc σ H3 fun w' H4 => r' y w' H4 Q) ∧ (k = false → Q (.bl false) H3)
  | _ => False
theorem xe_chain {op op' : CmpOp} {r r' : R2} (ho : OpR X (compareOp op) r) (ho' : OpR X (compareOp op') r') (ha : PE X a ta) (hb : PE X b tb) (hc : PE X c tc)
    (hm : lastMarks [op, op'] [b, c] = false := by with_unfolding_all rfl) : PE X (.Compare a [op, op'] [b, c] pos) (xChain r r' ta tb tc) := by
  refine ⟨fun pins s0 σ H Q J h => ?_⟩
  refine Compare_chain (thn (ha.run pins s0 σ H _ J h) fun v s1 ⟨x, H1, J1, r1, q1⟩ => chain_link (thn (hb.run pins s1 σ H1 _ J1 q1) fun u s2 ⟨y, H2, J2, r2, q2⟩ =>
    thn (ho pins s2 σ H2 x y v u _ J2 r1 r2 q2) fun d s3 ⟨z, H3, J3, r3, q3⟩ => ?_)) hm
  cases z with
  | bl k =>
    cases r3
    refine wpAny_truthy_bool ?_
    cases k with
    | false => exact ite_ff ⟨.bl false, H3, J3, rfl, q3.2 rfl⟩
    | true => exact ite_tt (chain_last (thn (hc.run pins s3 σ H3 _ J3 (q3.1 rfl)) fun w' s4 ⟨z', H4, J4, r4, q4⟩ => ho' pins s4 σ H4 y z' u w' Q J4 r2 r4 q4))
  | _ => exact False.elim q3
theorem xt_chain {op op' : CmpOp} {r r' : R2} (ho : OpR X (compareOp op) r) (ho' : OpR X (compareOp op') r') (ha : PE X a ta) (hb : PE X b tb) (hc : PE X c tc)
    (hm : lastMarks [op, op'] [b, c] = false := by with_unfolding_all rfl) : PT X (.Compare a [op, op'] [b, c] pos) (xB (xChain r r' ta tb tc)) := by
  refine ⟨fun pins s0 σ H Q J h => ?_⟩
  refine isTrue_chain (thn (ha.run pins s0 σ H _ J h) fun v s1 ⟨x, H1, J1, r1, q1⟩ => test_link (thn (hb.run pins s1 σ H1 _ J1 q1) fun u s2 ⟨y, H2, J2, r2, q2⟩ =>
    thn (ho pins s2 σ H2 x y v u _ J2 r1 r2 q2) fun d s3 ⟨z, H3, J3, r3, q3⟩ => ?_)) hm
  cases z with
  | bl k =>
    cases r3
    refine wpAny_truthy_bool ?_
    cases k with
    | false => exact ite_ff ⟨H3, J3, q3.2 rfl⟩
    | true =>
      refine ite_tt (test_last (thn (hc.run pins s3 σ H3 _ J3 (q3.1 rfl)) fun w' s4 ⟨z', H4, J4, r4, q4⟩ => thn (ho' pins s4 σ H4 y z' u w' _ J4 r2 r4 q4) fun d' s5 ⟨z2, H5, J5, r5, q5⟩ => ?_))
      cases z2 with
      | bl k2 =>
        cases r5
        exact wpAny_truthy_bool ⟨H5, J5, q5⟩
      | _ => exact False.elim q5
  | _ => exact False.elim q3
/-- while: a word with its measure -/
def xWhile (c : TT) (tb : TS) : TS := fun D σ H => ∃ W : Nat → L2.St → Hp → Prop, (∃ m, W m σ H) ∧ ∀ m σ H, W m σ H → c σ H fun b H1 =>
  (b = true → tb { D with nx := fun σ' H' => ∃ m', m' < m ∧ W m' σ' H', ct := fun σ' H' => ∃ m', m' < m ∧ W m' σ' H', bk := D.nx } σ H1) ∧ (b = false → D.nx σ H1)
theorem xs_while {c : Expr} {body : List Stmt} {tc : TT} {tb : TS} (hp : PassesOwn (model X.prog X.w) X.A X.env X.xe) (hc : PT X c tc) (hb : PSs X body tb) : PS X (.While c body [] pos) (xWhile tc tb) := by
  refine ⟨fun pins s0 σ H D J h => ?_⟩
  obtain ⟨W, ⟨m0, w0⟩, turn⟩ := h
  refine wpAny_While (codeAny_whileLoop (fun n s' => ∃ σ' H', L2.Inv X pins σ' H' s' ∧ W n σ' H') ?_ m0 ⟨σ, H, J, w0⟩)
  rintro n s1 ⟨σ1, H1, J1, w1⟩
  refine wpAny_passesOwn hp (thn (hc.run pins s1 σ1 H1 _ J1 (turn n σ1 H1 w1)) fun k s2 ⟨H2, J2, q2⟩ => ?_)
  cases k with
  | true =>
    rw [if_pos rfl]
    refine wpAny_passesOwn hp (thn (hb.run pins s2 σ1 H2 _ J2 (q2.1 rfl)) fun f s3 q3 => ?_)
    cases f with
    | next =>
      obtain ⟨σ3, H3, J3, m', hm, w3⟩ := q3
      exact ⟨m', hm, σ3, H3, J3, w3⟩
    | cont =>
      obtain ⟨σ3, H3, J3, m', hm, w3⟩ := q3
      exact ⟨m', hm, σ3, H3, J3, w3⟩
    | brk => exact q3
    | ret v => exact q3
  | false =>
    rw [if_neg Bool.false_ne_true]
    exact wpAny_execs_nil ⟨σ1, H2, J2, q2.2 rfl⟩
/-- a comparison by an own method (__le__ ..) of two instances of C -/
def yOwn (C : Addr) (sp : Sp) (E : XK) : R2 := fun x y H Q => ∃ a b dx dy fs gs, x = .ref a ∧ y = .ref b ∧ H a = some (.ins C dx fs) ∧ H b = some (.ins C dy gs) ∧ sp [.ref a, .ref b] H Q E
theorem op_own {CX : CXT} {C f : Addr} {fd : FuncData} {ps : List Str} {sp : Sp} {E : XK} {op : CmpOp} {n : Nat} (hop : compareOp op = richCompare op) (F : FnOk X.prog X.w X.K X.mg X.base CX n f fd ps sp)
    (hs : PySem.W.findIn X.K (.ref C) (cmpInfo op).2.1 = some (some (.ref f))) (hf : PySem.W.isFn X.K (.ref f) = true) (hb : Binds X.K fd ps []) (hx : Passes CX X E) (hr : Room n X.A) : OpR X (compareOp op) (yOwn C sp E) := by
  intro pins s σ H x y u v Q I rx ry h
  obtain ⟨a, b, dx, dy, fs, gs, rfl, rfl, ha, hb', hsp⟩ := h
  cases rx
  cases ry
  rw [hop]
  obtain ⟨mA, J1, _⟩ := ins_get I.hok ha
  obtain ⟨mB, J2, _⟩ := ins_get I.hok hb'
  obtain ⟨od, J1, _⟩ := J1.look
  obtain ⟨od', J2, _⟩ := J2.look
  obtain ⟨m, hF⟩ := I.fr
  refine PySem.W.cmp_K (op := op) (tb := .ref C) hr.units0 hF I.ok.mod.kin J1 J2.type (by simp [PySem.W.notFirst]) hs hf ?_
  have hl := F.len _ _ _ _ hsp
  refine wpAny_mono (run_fn (us := [.ref a, .ref b]) (vs := [.ref a, .ref b]) (dvs := []) F hr hb .nil hx I (.cons rfl (.cons rfl .nil)) hsp) (fun v s' q => ?_) fun _ _ e => e
  obtain ⟨z, H', I', rz, q⟩ := q
  have fin : EP X pins σ Q v s' := ⟨z, H', I', rz, q⟩
  cases v <;> first | exact fin | (cases z <;> first | exact absurd (show _ = _ from rz) (by intro e; cases e) | (obtain ⟨_, e⟩ := rz; cases e))
variable (K : PySem.W.Frag)
theorem pe_fldK {f : Str} (ha : PE X a ta) (hb : attributeBase a f X.env (eval a X.env) = eval a X.env := by rfl) (h : X.K = K := by rfl) : PE X (.Attribute a f pos) (tFld K ta f) := h ▸ pe_fld ha hb
theorem in_seqK (h : X.K = K := by rfl) : OpR X (compareOp .In) (rIn K false) := h ▸ op_in_seq
theorem notin_seqK (h : X.K = K := by rfl) : OpR X (compareOp .NotIn) (rIn K true) := h ▸ op_notIn_seq
theorem mt_countK (h : X.K = K := by rfl) : MtR X "list.count" (rCntI K) := h ▸ mt_lcount
theorem cr_allK (hc : X.calm = true) (h : X.K = K := by rfl) : CallR X (.builtin "all") (rAll K) := h ▸ cr_all hc
theorem cr_anyK (hc : X.calm = true) (h : X.K = K := by rfl) : CallR X (.builtin "any") (rAny K) := h ▸ cr_any hc
end
theorem xe_glob {X : Cx} {x z : Str} {pos : Pos} (hg : Gl X x) (hm : ∃ t, X.mg x = some (.str z t)) (hd : (x == ("__debug__" : Str)) = false := by decide) : PE X (.Name x pos) (tC (.str z)) := by
  obtain ⟨t, hm⟩ := hm
  exact pe_glob hg hm ⟨_, rfl⟩ hd
theorem xe_globI {X : Cx} {x : Str} {z : Int} {pos : Pos} (hg : Gl X x) (hm : ∃ t, X.mg x = some (.int z t)) (hd : (x == ("__debug__" : Str)) = false := by decide) : PE X (.Name x pos) (tC (.int z)) := by
  obtain ⟨t, hm⟩ := hm
  exact pe_glob hg hm ⟨_, rfl⟩ hd
theorem prd_unsnoc {α β : Type} {F : α → β → Prop} {x : α} : ∀ {xs : List α} {ys : List β}, Paired F (xs ++ [x]) ys → ∃ ys' y, ys = ys' ++ [y] ∧ Paired F xs ys' ∧ F x y
  | [], _, .cons r .nil => ⟨[], _, rfl, .nil, r⟩
  | _ :: xs, _, .cons (b := b) r t => by
    obtain ⟨ys', y, rfl, h1, h2⟩ := prd_unsnoc (xs := xs) t
    exact ⟨b :: ys', y, rfl, .cons r h1, h2⟩
theorem nil_or_snoc {α : Type} (xs : List α) : xs = [] ∨ ∃ ys y, xs = ys ++ [y] := by
  rcases List.eq_nil_or_concat xs with h | ⟨ys, y, h⟩
  · exact .inl h
  · exact .inr ⟨ys, y, by simpa using h⟩
theorem pg_tupK {X : Cx} (K : PySem.W.Frag) (n : Nat) {es : List Expr} {k : Nat} {pos : Pos} {t : TGs} (h : PGs X es t) (hc : X.calm = true := by rfl) (hK : X.K = K := by rfl)
    (hn : (assignEach es X.env).length = n := by rfl) (hst : (assignEach es X.env).findIdx? (·.1) = none := by rfl) : PG X (.Tuple es k pos) (gTup K n t) := hK ▸ pg_tup hc h hn hst
theorem perm_erase {α : Type} : ∀ {xs : List α} {i : Nat} {x : α}, xs[i]? = some x → (x :: xs.eraseIdx i).Perm xs
  | [], _, _, h => by simp at h
  | y :: r, 0, x, h => by
    simp at h
    subst h
    exact List.Perm.refl _
  | y :: r, i + 1, x, h => by
    rw [List.getElem?_cons_succ] at h
    exact (List.Perm.swap _ _ _).trans (List.Perm.cons _ (perm_erase h))
theorem Sep.new2 {G H : Hp} {M : List (Addr × HO)} {x dx : Addr} {o u : HO} (S : Sep G M H) (h1 : H x = Option.none) (h2 : H dx = Option.none) (ne : dx ≠ x) : Sep G ((x, o) :: (dx, u) :: M) (upd (upd H dx u) x o) :=
  (S.new h2).new (by rw [upd_ne (Ne.symm ne)]; exact h1)
end XL
set_option Elab.async false
set_option linter.all false
set_option maxRecDepth 100000
set_option maxHeartbeats 4000000
/-! XIter: enumerate of a tuple. -/
namespace XL
open PySem PySem.Spec PyProof.Rows L2
theorem meets_enum1 {v : Value} {o : Obj} {Hq : Heap → Prop} (B : Begins v o Hq) :
    Meets (Builtin.«enumerate.__new__» ⟨[.type "enumerate", v], []⟩) (fun _ R s => Hq s.heap ∧
      R (.ok (.ret (.ref (s.heap.push o).objs.size))) { s with heap := (s.heap.push o).push { cls := .type "enumerate", data := .fields #[.none, .bool false, .ref s.heap.objs.size, rawInt 0, .none, .none] } }) :=
  .of_wp fun prog w A R s z => by
    obtain ⟨hp, g, d, tk, os⟩ := s
    obtain ⟨z1, z2⟩ := z
    have hsub := sub_enumerate
    have begin1 : ∀ {A' : Around} {E : Value → Shared → Prop} {Q : Value → Shared → Prop}, Q (.ref hp.objs.size) ⟨hp.push o, g, d, tk, os⟩ → wpAny (model prog w) A' (pyIter v) Q E ⟨hp, g, d, tk, os⟩ := fun q => B.iter prog w _ _ ⟨hp, g, d, tk, os⟩ _ z1 q
    wp_walk using begin1
    refine wpAny_stack_any fun st => wpAny_pure ?_
    split
    · rename_i c _ _ _ _ _
      cases (c == Value.type "enumerate") <;> (wp_walk using begin1; exact ⟨_, rfl, z2⟩)
    · wp_walk using begin1
      exact ⟨_, rfl, z2⟩
theorem call_enum1 {prog : Program} {w : World} {A : Around} {E : Value → Shared → Prop} {s : Shared} {v : Value} {o : Obj} {Hq : Heap → Prop} {Q : Value → Shared → Prop} (B : Begins v o Hq) (h1 : Hq s.heap)
    (k : ∀ h', IsEnum h' (s.heap.objs.size + 1) s.heap.objs.size 0 .none → h'.get? s.heap.objs.size = some o → (∀ b o, s.heap.get? b = some o → h'.get? b = some o) → Q (.ref (s.heap.objs.size + 1)) { s with heap := h' }) :
    wpAny (model prog w) A (call (.type "enumerate") [v]) Q E s := by
  refine callType_new F.called_enumerate (by decide) (F.typeCall_enumerate_1 _) (F.newCall_enumerate_1 _) (fun ob => F.args_object_init_2 ob _) F.entry_enumerate_new (meets_enum1 B) ⟨h1, ?_⟩
  have hz : (s.heap.push o).objs.size = s.heap.objs.size + 1 := Heap.size_push ..
  show _ ∧ _
  rw [hz]
  have he : IsEnum ((s.heap.push o).push { cls := .type "enumerate", data := .fields #[.none, .bool false, .ref s.heap.objs.size, rawInt 0, .none, .none] }) (s.heap.objs.size + 1) s.heap.objs.size 0 .none := by
    have z := Heap.get?_push_size (s.heap.push o) (o := { cls := .type "enumerate", data := .fields #[.none, .bool false, .ref s.heap.objs.size, rawInt 0, .none, .none] }) rfl
    rw [hz] at z
    exact z
  exact ⟨⟨_, he, rfl⟩, k _ he (Heap.get?_push_of_some _ (Heap.get?_push_size _ B.free)) fun b o x => Heap.get?_push_of_some _ (Heap.get?_push_of_some _ x)⟩
/-- the tuple at a, each item in a new pair -/
def IteT (K : PySem.W.Frag) (a : Addr) : It :=
  ⟨fun i H => ∃ (xs : List V) (x : V), SqT K H a xs ∧ xs[i]? = some x, fun i H v H' => ∃ T x, v = .ref T ∧ H T = none ∧ H' = upd H T (.tup [.int (i : Nat), x]) ∧ ∀ xs, SqT K H a xs → xs[i]? = some x, fun i H => ∃ xs : List V, SqT K H a xs ∧ xs.length ≤ i⟩
theorem turn_enumT {P : Program} {w : World} {K : PySem.W.Frag} {elts : List Expr} {kk : Nat} {tpos : Pos} (a e it : Addr) (hai : a ≠ it) (hae : a ≠ e) :
    Turn P w K (.Tuple elts kk tpos) (IteT K a) [e, it] e (fun i h => (∃ old, IsEnum h e it ((i : Nat) : Int) old) ∧ h.IsTupleIter it a i ∧ e ≠ it) where
  mem := by simp
  obj := fun i h st b hb => by
    obtain ⟨⟨old, he⟩, ⟨o, ho, hc, hd⟩, _⟩ := st
    have q : b = e ∨ b = it := by simpa using hb
    rcases q with z | z
    · rw [z]; exact ⟨_, he, fun v q => nomatch q⟩
    · rw [z]; exact ⟨o, ho, fun v q => by rw [hd] at q; cases q⟩
  keep := fun i h h' st k => let ⟨⟨old, he⟩, hi, hne⟩ := st; ⟨⟨old, k e (by simp) _ he⟩, hi.at fun o q => k it (by simp) o q, hne⟩
  item := by
    intro X hP hw hK hc i pins s σ H E I hf st hg
    subst hP hw hK
    obtain ⟨⟨old, he⟩, hit, hne⟩ := st
    obtain ⟨xs, x, hq, hx⟩ := hg
    obtain ⟨its, rv, p, hz⟩ := I.tuple hq
    obtain ⟨u, hu, ru⟩ := rv.get hx
    have hel : e < s.heap.objs.size := Heap.lt_size he
    have hil : it < s.heap.objs.size := by obtain ⟨_, q, _⟩ := hit; exact Heap.lt_size q
    have hlen : i < its.toArray.size := by
      have z := (List.getElem?_eq_some_iff.mp hu).1
      simpa using z
    refine wpAny_pyNext_enum_itemC (c := ((i : Nat) : Int)) (Draws.tuple (A := X.A.in1) (I.ok.hd hc) it a hai its.toArray) he ⟨hit, p⟩ hlen hne (by simp; exact ⟨hne, fun z => hae z.symm⟩) fun y h' tk hy ho st' hT hsz hk => ?_
    have ey : y = u := by
      have z : its[i]? = some y := by simpa using hy
      rw [hu] at z
      exact (Option.some.inj z).symm
    subst ey
    refine ⟨_, rfl, wpAny_letOwnedTupleGo_enum (s := { s with heap := h', toks := tk + 1 }) ho fun h'' he' sb => ?_⟩
    have hT2 : h''.get? s.heap.objs.size = some { cls := .type "tuple", data := .seq #[.int i tk, y] } := (sb.2 _ (Nat.ne_of_gt hel)).trans hT
    have new : ObjOk X.prog X.w (upd H s.heap.objs.size (.tup [.int (i : Nat), x])) h'' s.heap.objs.size (.tup [.int (i : Nat), x]) :=
      ⟨by show 2 ≤ sizeLine; decide, [.int i tk, y], .cons ⟨_, rfl⟩ (.cons ru .nil), ⟨_, hT2, rfl, _, rfl⟩⟩
    have I1 : L2.Inv X pins σ (upd H s.heap.objs.size (.tup [.int (i : Nat), x])) { s with heap := h'', toks := tk + 1 } :=
      I.turnedNew (ch := [e, it]) (fun b ob hb q => (sb.2 b (fun z => hb (by simp [z]))).trans (hk b ob (fun z => hb (by simp [z])) (fun z => hb (by simp [z])) q)) hf (Nat.le_refl _) new
    refine ⟨.ref s.heap.objs.size, _, I1, rfl, ⟨_, x, rfl, I.hok.fresh (Nat.le_refl _), rfl, fun ys hy => by rw [I.tuple_inj hy hq]; exact hx⟩, ⟨⟨y, ?_⟩, st'.1.at fun o q => (sb.2 it (Ne.symm hne)).trans q, hne⟩, fun b hb => ?_⟩
    · have e1 : ((i + 1 : Nat) : Int) = (i : Int) + 1 := by omega
      rw [e1]; exact he'
    · have hb2 : b < s.heap.objs.size := by
        have q : b = e ∨ b = it := by simpa using hb
        rcases q with z | z
        · rw [z]; exact hel
        · rw [z]; exact hil
      rw [upd_ne (Nat.ne_of_lt hb2)]
      exact (hf b hb).1
  done := by
    intro X hP hw hK hc i pins s σ H E I hf st hg
    subst hP hw hK
    obtain ⟨⟨old, he⟩, hit, hne⟩ := st
    obtain ⟨xs, hq, hx⟩ := hg
    obtain ⟨its, rv, p, hz⟩ := I.tuple hq
    obtain ⟨f0, f1, f2, f3, f4, f5⟩ := hf it (by simp)
    have hl := rv.length
    have D := Draws.tuple (prog := X.prog) (w := X.w) (A := X.A.in1) (I.ok.hd hc) it a hai its.toArray
    by_cases hi : i = its.toArray.size
    · subst hi
      exact wpAny_pyNext_enum_endD D he ⟨hit, p⟩ fun h' eb => ⟨rfl, I.turned (t' := s.toks) (fun b o hb q => eb b o hb q) f0 f1 f3 f4 f5⟩
    · have D2 : Draws X.prog X.w X.A.in1 it [it, a] i (fun _ _ => False) (fun j h => (j = i ∨ False) ∧ h.IsTupleIter it a i ∧ h.IsTuple a its.toArray) := {
        live := fun _ _ st => let ⟨o, ho, _⟩ := st.2.1; ⟨o, ho⟩
        frame := fun _ _ _ st hk => ⟨st.1, st.2.1.at fun o e => hk it (by simp) o e, st.2.2.at fun o e => hk a (by simp) o e⟩
        item := fun j s Q E hj st hQ => by
          rcases st.1 with z | z
          · omega
          · exact z.elim
        done := fun s Q E st hE => wpAny_nextOf_tuple_end (I.ok.hd hc) st.2.1 st.2.2 (by
          simp only [List.getElem?_toArray]
          exact List.getElem?_eq_none_iff.mpr (by omega)) hE }
      exact wpAny_pyNext_enum_endD D2 he ⟨.inl rfl, hit, p⟩ fun h' eb => ⟨rfl, I.turned (t' := s.toks) (fun b o hb q => eb b o hb q) f0 f1 f3 f4 f5⟩
  self := fun A i s Q E st h => let ⟨⟨_, he⟩, _⟩ := st; wpAny_pyIter_enum he h
def iEnumT (K : PySem.W.Frag) (ta : TA) : TI := fun σ H R => ta σ H fun vs H1 => ∃ a xs, vs = [.ref a] ∧ SqT K H1 a xs ∧ R (IteT K a) H1
theorem pi_enumT {X : Cx} {e : Expr} {ta : TA} {p pos tpos : Pos} {elts : List Expr} {kk : Nat} (hg : Gl X "enumerate") (hm : X.mg "enumerate" = none) (ha : PA X [e] ta) (hs : starEach [e] X.env = [(false, eval e X.env)] := by rfl) :
    PI X (.Tuple elts kk tpos) (.Call (.Name "enumerate" p) [e] [] pos) (iEnumT X.K ta) := by
  refine ⟨fun pins s σ H R I h => ?_⟩
  refine Call_ (ld_blt I hg hm boot_enumerate (PyProof.Rows.callWith_type1 (thn (ha.run pos pins s σ H _ I h) fun us s1 ⟨vs, H1, I1, r1, q1⟩ => ?_) hs rfl))
  obtain ⟨a, xs, ex, hq, q⟩ := q1
  subst ex
  cases r1 with
  | cons r rr =>
    cases rr
    cases r
    obtain ⟨its, rv, p', hz⟩ := I1.tuple hq
    have hal : a < s1.heap.objs.size := by obtain ⟨o, ho, _⟩ := p'; exact Heap.lt_size ho
    refine call_enum1 (begins_tuple a its.toArray) p' fun h' he hit hk => wpAny_pyIter_enum he ?_
    have I2 : L2.Inv X pins σ H1 { s1 with heap := h' } := I1.kept (t' := s1.toks) hk
    refine ⟨s1.heap.objs.size + 1, [s1.heap.objs.size + 1, s1.heap.objs.size], _, _, H1, rfl, I2, turn_enumT a (s1.heap.objs.size + 1) s1.heap.objs.size (Nat.ne_of_lt hal) (Nat.ne_of_lt (Nat.lt_succ_of_lt hal)), ⟨⟨.none, he⟩, ⟨_, hit, rfl, rfl⟩, Nat.succ_ne_self _⟩, fun b hb => ?_, q⟩
    have q' : b = s1.heap.objs.size + 1 ∨ b = s1.heap.objs.size := by simpa using hb
    have hle : s1.heap.objs.size ≤ b := by
      rcases q' with z | z
      · rw [z]; exact Nat.le_add_right _ _
      · rw [z]; exact Nat.le_refl _
    exact I1.fpOk hle (I1.hok.fresh hle)
theorem for_enumT {K : PySem.W.Frag} {a : Addr} {xs : List V} {tb : TS} {D : Ends} {σ : L2.St} {H : Hp} {i j : Nat} (Pv : Nat → L2.St → Hp → Prop) (h0 : Pv 0 σ H) (hl : ∀ k σ H, Pv k σ H → SqT K H a xs)
    (hs : ∀ k x σ H T, xs[k]? = some x → Pv k σ H → H T = none →
      tb { D with nx := Pv (k + 1), ct := Pv (k + 1), bk := D.nx } ((σ.set i (some (.int (k : Nat)))).set j (some x)) (upd H T (.tup [.int (k : Nat), x]))) (hd : ∀ σ H, Pv xs.length σ H → D.nx σ H) :
    ∃ W : Nat → Nat → L2.St → Hp → Prop, (∃ m, W 0 m σ H) ∧ ∀ k m σ H, W k m σ H →
      ((IteT K a).stop k H ∧ D.nx σ H) ∨ ((IteT K a).go k H ∧ ∃ N : L2.St → Hp → Prop, (∀ σ' H', N σ' H' → ∃ m', m' < m ∧ W (k + 1) m' σ' H') ∧ ∀ x H', (IteT K a).yld k H x H' →
        (gTup K 2 (gCons (gName i) (gCons (gName j) gNil))) x σ H' fun σ2 H2 => tb { D with nx := N, ct := N, bk := D.nx } σ2 H2) := by
  refine ⟨fun k m σ H => m = xs.length - k ∧ k ≤ xs.length ∧ Pv k σ H, ⟨xs.length, by simp, Nat.zero_le _, h0⟩, ?_⟩
  rintro k m σ H ⟨rfl, hk, p⟩
  have q := hl _ σ H p
  by_cases hlt : k < xs.length
  · refine .inr ⟨⟨xs, xs[k], q, by simp [hlt]⟩, Pv (k + 1), fun σ' H' p' => ⟨xs.length - (k + 1), by omega, rfl, hlt, p'⟩, fun v H' y => ?_⟩
    obtain ⟨T, x, rfl, nT, rfl, hx⟩ := y
    refine ⟨T, _, rfl, SqT.of upd_same, rfl, _, _, rfl, _, _, rfl, rfl, ?_⟩
    exact hs k x σ H T (hx xs q) p nT
  · have e : k = xs.length := by omega
    subst e
    exact .inl ⟨⟨xs, q, Nat.le_refl _⟩, hd σ H p⟩
end XL
set_option Elab.async false
set_option linter.all false
set_option maxRecDepth 100000
set_option maxHeartbeats 4000000
/-! XDeep: x in t, t.index(x), items data of any depth, t a list or a tuple. -/
namespace XL
open PySem PySem.Spec PyProof.Rows L2
section
variable {X : Cx} (K : PySem.W.Frag)
def rInX (K : PySem.W.Frag) (neg : Bool) : R2 := fun x y H Q => ∃ d ds, Dp K H x d ∧ (Dp K H y (.list ds) ∨ Dp K H y (.tuple ds)) ∧ SeqAt.shaped d = true ∧ PyData.canLayAll0 ds = true ∧ Q (.bl (if neg then !(ds.any fun z => PyData.eqv z d) else ds.any fun z => PyData.eqv z d)) H
theorem in_deepK (hu : X.A.units + 65 < cLine) (h : X.K = K := by rfl) : OpR X (compareOp .In) (rInX K false) := by
  subst h
  intro pins s σ H x y v u Q I rx ry h
  obtain ⟨d, ds, hd, he, sd, se, q⟩ := h
  obtain ⟨as, r1⟩ := Dp.reads I d x v hd rx
  rcases he with he | he
  · obtain ⟨bs, r2⟩ := Dp.reads I (.list ds) y u he ry
    exact SeqAt.in_list_reads r2 r1 se (SeqAt.canLay_of_shaped sd) (room_in_shaped sd hu) ⟨.bl _, H, I, rfl, q⟩
  · obtain ⟨bs, r2⟩ := Dp.reads I (.tuple ds) y u he ry
    exact SeqAt.in_tuple_reads r2 r1 se (SeqAt.canLay_of_shaped sd) (room_in_shaped sd hu) ⟨.bl _, H, I, rfl, q⟩
theorem notin_deepK (hu : X.A.units + 65 < cLine) (h : X.K = K := by rfl) : OpR X (compareOp .NotIn) (rInX K true) := by
  subst h
  intro pins s σ H x y v u Q I rx ry h
  obtain ⟨d, ds, hd, he, sd, se, q⟩ := h
  obtain ⟨as, r1⟩ := Dp.reads I d x v hd rx
  rcases he with he | he
  · obtain ⟨bs, r2⟩ := Dp.reads I (.list ds) y u he ry
    exact SeqAt.notIn_list_reads r2 r1 se (SeqAt.canLay_of_shaped sd) (room_in_shaped sd hu) ⟨.bl _, H, I, rfl, q⟩
  · obtain ⟨bs, r2⟩ := Dp.reads I (.tuple ds) y u he ry
    exact SeqAt.notIn_tuple_reads r2 r1 se (SeqAt.canLay_of_shaped sd) (room_in_shaped sd hu) ⟨.bl _, H, I, rfl, q⟩
/-- t.index(x), t a tuple: the first place of an equal one -/
def rIndexT (K : PySem.W.Frag) : V → List V → Hp → VK → Prop := fun x xs H Q => ∃ (a : Addr) (y : V) (d : PyData) (ds : List PyData) (j : Nat) (z : PyData), x = V.ref a ∧ xs = [y] ∧ Dp K H (V.ref a) (.tuple ds) ∧ Dp K H y d ∧
  PyData.canLayAll0 ds = true ∧ SeqAt.shaped d = true ∧ ds[j]? = some z ∧ PyData.eqv z d = true ∧ (∀ (m : Nat) (z' : PyData), m < j → ds[m]? = some z' → PyData.eqv z' d = false) ∧ Q (.int (j : Nat)) H
theorem mt_tindexK (hu : X.A.units + 65 < cLine) (h : X.K = K := by rfl) : MtR X "tuple.index" (rIndexT K) := by
  subst h
  intro pins s σ H x xs v us Q I rx rxs h
  obtain ⟨a, y, d, ds, j, z, rfl, rfl, hl, hy, hxs, sd, hz, hzj, hno, q⟩ := h
  cases rx
  cases rxs with
  | cons ry rt =>
    rename_i uy ut
    cases rt
    obtain ⟨bs, r1⟩ := Dp.reads I d y uy hy ry
    have hroom : X.A.units + 1 + min (PyData.depthAll ds) d.depth < cLine := room_in_shaped sd hu
    cases hl with
    | tup hs ha =>
      obtain ⟨its, rv, ⟨⟨cls, dd, data, sls⟩, ho, hc, n, hdt⟩, hlen⟩ := I.tuple hs
      simp only at hc hdt
      subst hc hdt
      obtain ⟨as, h4⟩ := Dp.readsAll I ds _ its ha rv
      have hn : its.length = ds.length := SeqAt.ReadsAll.length ds its as h4
      have hmap : its.map (SeqAt.readOf s.heap) = ds := SeqAt.readsAll_map ds its as hxs h4
      have hvl := rv.length
      obtain ⟨hjd, _⟩ := List.getElem?_eq_some_iff.mp hz
      have hjl : j < its.length := by omega
      have hj : j < its.toArray.size := by simpa using hjl
      have at_ : ∀ (m : Nat) (hm : m < its.toArray.size) (z' : PyData), ds[m]? = some z' → SeqAt.readOf s.heap its.toArray[m] = z' := by
        intro m hm z' hz'
        have hml : m < its.length := by simpa using hm
        rw [← hmap, List.getElem?_map, List.getElem?_eq_getElem hml] at hz'
        have e1 : SeqAt.readOf s.heap its[m] = z' := Option.some.inj (show some (SeqAt.readOf s.heap its[m]) = some z' from hz')
        simpa using e1
      refine call_meets PySem.F.slot_tuple_index ⟨_, ho, rfl⟩ PySem.F.entry_tuple_index (PySem.F.args_tuple_index_2 _ _)
        (TI.tuple_indexAt a its.toArray n dd sls uy (fun u => PyData.eqv (SeqAt.readOf s.heap u) d) j hj ?_ ?_) ⟨ho, SeqAt.items_eqAt (vs := its.toArray) (show ReadsAll s.heap its.toArray.toList ds as from h4) r1 hxs (SeqAt.canLay_of_shaped sd) hroom, ?_⟩
      · show PyData.eqv (SeqAt.readOf s.heap its.toArray[j]) d = true
        rw [at_ j hj z hz]
        exact hzj
      · intro m hm hmj
        have hmd : m < ds.length := by omega
        have hz' : ds[m]? = some ds[m] := List.getElem?_eq_getElem hmd
        show PyData.eqv (SeqAt.readOf s.heap its.toArray[m]) d = false
        rw [at_ m hm _ hz']
        exact hno m _ hmj hz'
      · exact ⟨.int (j : Nat), H, I.tok _, ⟨_, rfl⟩, q⟩
end
theorem u65 {k : Nat} {A : Around} (r : Room k A) : A.units + 65 < cLine := by have := r.un; omega
/-- xs[::-1] of a list -/
def tRev (K : PySem.W.Frag) (te : TE) : TE := fun σ H Q => te σ H fun x H1 => ∃ a xs, x = .ref a ∧ SqL K H1 a xs ∧ ∀ p, H1 p = none → Q (.ref p) (upd H1 p (.lst xs.reverse))
theorem pe_rev {X : Cx} {e m : Expr} {te : TE} {p2 pos : Pos} (he : PE X e te) (hm : PE X m (tC (.int (-1)))) : PE X (.Subscript e (.Slice none none (some m) p2) pos) (tRev X.K te) := by
  refine ⟨fun pins s σ H Q I h => ?_⟩
  refine Subscript_ (thn (he.run pins s σ H _ I h) fun v s1 ⟨x, H1, I1, r1, q1⟩ => ?_)
  refine wpAny_Slice (wpAny_evalPart_none (wpAny_evalPart_none (wpAny_evalPart_some (thn (hm.run pins s1 σ H1 (fun y H2 => y = .int (-1) ∧ H2 = H1) I1 ⟨rfl, rfl⟩) fun vm s3 ⟨y, H3, I3, r3, ey, eH⟩ => ?_))))
  subst ey eH
  obtain ⟨t, rfl⟩ := r3
  obtain ⟨a, xs, rfl, hx, q⟩ := q1
  cases r1
  have I4 : L2.Inv X pins σ H3 { s3 with heap := s3.heap.push { cls := .type "slice", data := .fields #[.none, .none, .int (-1) t] } } := I3.kept (t' := s3.toks) fun b ob q => Heap.get?_push_of_some _ q
  obtain ⟨its, r, ht, hz⟩ := I4.list hx
  have hlen := r.length
  show wpAny (model X.prog X.w) X.A (subscriptTail e (.Slice none none (some m) p2) (.ref a) (.ref s3.heap.objs.size)) (EP X pins σ Q) X.xe { s3 with heap := s3.heap.push { cls := .type "slice", data := .fields #[.none, .none, .int (-1) t] } }
  refine tail_any (ops := [.ref a, .ref s3.heap.objs.size]) ht.isList.typeIs slot_list_getitem.lookup ?_ (by with_unfolding_all rfl)
  refine wpAny_getItem_list_slice ht.isList (Heap.IsSliceOf.new ..) .none .none (.int (-1) t) (by decide) ?_ (by rw [List.size_toArray] <;> omega)
  rw [PySem.W.krv_pick]
  refine ⟨.ref _, _, I4.laid (t' := s3.toks) (o := .lst xs.reverse) (fun b ob q => Heap.get?_push_of_some _ q) (Nat.le_refl _) ?_, rfl, q _ (I4.hok.fresh (Nat.le_refl _))⟩
  exact ⟨by rw [List.length_reverse]; exact hz, _, 0, r.reverse, Heap.get?_push_size _ rfl⟩
theorem pe_revK {X : Cx} {e m : Expr} {te : TE} {p2 pos : Pos} (K : PySem.W.Frag) (he : PE X e te) (hm : PE X m (tC (.int (-1)))) (h : X.K = K := by rfl) : PE X (.Subscript e (.Slice none none (some m) p2) pos) (tRev K te) := h ▸ pe_rev he hm
theorem tst {b : Bool} {A B : Prop} (h1 : b = true → A) (h0 : b = false → B) : if b = true then A else B := by
  cases b
  · exact h0 rfl
  · exact h1 rfl
theorem sl_tupAK {X : Cx} (K : PySem.W.Frag) (h : X.K = K := by rfl) : SlR X (rSlA K) := h ▸ sl_tupA
/-! ### tuples whose object has no dict (so that their methods are reached) -/
def TupF (G : Hp) (a : Addr) (xs : List V) : Prop := ∃ o : Obj, o.dict = none ∧ G a = some (.frz o (.tup xs))
def Tu (G : Hp) (a : Addr) (xs : List V) : Prop := G a = some (.tup xs) ∨ TupF G a xs
theorem TupF.same {G G' : Hp} {a : Addr} {xs : List V} (e : Same G G') (h : TupF G a xs) : TupF G' a xs := let ⟨o, h1, h2⟩ := h; ⟨o, h1, e _ _ h2⟩
theorem Tu.same {G G' : Hp} {a : Addr} {xs : List V} (e : Same G G') (h : Tu G a xs) : Tu G' a xs := by
  rcases h with h | h
  · exact .inl (e _ _ h)
  · exact .inr (h.same e)
theorem Tu.sq {K : PySem.W.Frag} {H : Hp} {a : Addr} {xs : List V} (h : Tu H a xs) : SqT K H a xs := by
  rcases h with h | ⟨o, _, h⟩
  · exact .inl (.inl h)
  · exact .inl (.inr ⟨o, h⟩)
theorem Tu.ty {K : PySem.W.Frag} {H : Hp} {a : Addr} {xs : List V} (h : Tu H a xs) : TyX K H (.ref a) (.type "tuple") := by
  rcases h with h | ⟨o, _, h⟩
  · exact .base (.tup h)
  · exact .fTuple h
theorem TupF.tu {G : Hp} {a : Addr} {xs : List V} (h : TupF G a xs) : Tu G a xs := .inr h
section
variable {X : Cx} (K : PySem.W.Frag)
/-- tuple(xs) -/
def yTupF (K : PySem.W.Frag) : List V → Hp → VK → Prop := fun xs H Q => ∃ p ys, xs = [.ref p] ∧ ((SqL K H p ys ∧ ∀ l o, H l = none → o.dict = none → Q (.ref l) (upd H l (.frz o (.tup ys)))) ∨ (SqT K H p ys ∧ Q (.ref p) H))
theorem call_tupleFK (h : X.K = K := by rfl) : CallR X (.type "tuple") (yTupF K) := by
  subst h
  intro pins s σ H xs us Q I r h
  obtain ⟨p, ys, rfl, h⟩ := h
  obtain ⟨u, rfl, rx⟩ := vals1 r
  cases rx
  rcases h with ⟨hq, q⟩ | ⟨hq, q⟩
  · obtain ⟨its, r', pl, hz⟩ := I.list hq
    have hlen := r'.length
    refine call_tuple_list pl.isList (fun h' kp => ?_) (by simp only [List.size_toArray] <;> omega)
    have I1 : L2.Inv X pins σ H { s with heap := h' } := I.kept (t' := s.toks) kp
    have I2 : L2.Inv X pins σ (upd H h'.objs.size (.frz { cls := .type "tuple", data := .seq its.toArray } (.tup ys))) { s with heap := h'.push { cls := .type "tuple", data := .seq its.toArray } } :=
      I1.laid (t' := s.toks) (fun b o e => Heap.get?_push_of_some _ e) (Nat.le_refl _) (show ObjOk X.prog X.w _ _ _ (.frz { cls := .type "tuple", data := .seq its.toArray } (.tup ys)) from ⟨Heap.get?_push_size _ rfl, hz, its, r', IsTup.new _ _⟩)
    exact ⟨.ref h'.objs.size, _, I2, rfl, q _ _ (I1.hok.fresh (Nat.le_refl _)) rfl⟩
  · obtain ⟨its, r', pl, hz⟩ := I.tuple hq
    exact call_tuple_same pl ⟨.ref p, H, I, rfl, q⟩
/-- t.m(e, ..), t a tuple -/
def tTM (r : V → List V → Hp → VK → Prop) (to : TE) (t : TA) : TE := fun σ H Q => to σ H fun x H1 => (∃ a xs, x = .ref a ∧ TupF H1 a xs) ∧ t σ H1 fun vs H2 => r x vs H2 Q
theorem pe_tm {o e : Expr} {es : List Expr} {to : TE} {t : TA} {id : String} {name : Str} {apos cpos : Pos} {r : V → List V → Hp → VK → Prop} (slot : Slot "tuple" name id) (hty : typeOf (.builtin id) = pure (.type "method_descriptor")) (hm : MtR X id r) (ho : PE X o to) (ha : PA X (e :: es) t)
    (hbase : attributeBase o name X.env (eval o X.env) = eval o X.env := by rfl)
    (hfew : ((backTo cpos (starEach (e :: es) X.env)).all (fun x => !x.1) && (backToKw cpos (keywordEach [] X.env)).all (fun x => x.1.isSome)
      && decide ((e :: es).length + ([] : List Keyword).length + (if ([] : List Keyword).isEmpty then 0 else 1) < 30)) = true := by rfl)
    (hline : (apos.endLine == cpos.line) = true := by rfl) (hs : starEach (e :: es) X.env = (false, eval e X.env) :: starEach es X.env := by rfl) (hplain : (backTo cpos (starEach es X.env)).any (·.1) = false := by rfl) :
    PE X (.Call (.Attribute o name apos) (e :: es) [] cpos) (tTM r to t) := by
  refine ⟨fun pins s σ H Q I h => ?_⟩
  refine wpAny_Call_method_late hbase hfew hline rfl (thn (ho.run pins s σ H _ I h) fun v s1 ⟨x, H1, I1, r1, ty, q1⟩ => ?_)
  obtain ⟨a, xs, rfl, ob, hd, ha'⟩ := ty
  cases r1
  obtain ⟨h1, _, _, _, h2⟩ := I1.hok _ _ ha'
  refine ⟨"tuple", id, PySem.F.plainAttrs_tuple, slot, hty, ⟨ob, h1, ?_⟩, fun b e => ?_, ?_⟩
  · obtain ⟨ob', e1, e2, _⟩ := h2
    rw [h1] at e1
    rw [Option.some.inj e1]
    exact e2
  · cases e
    exact ⟨ob, h1, hd⟩
  have hA := ha.run cpos pins s1 σ H1 _ I1 q1
  rw [hs] at hA ⊢
  refine Calls.callWith_builtin (by show (false || (backTo cpos (starEach es X.env)).any (·.1)) = false; rw [hplain] <;> rfl) (Calls.evalArgs_plain ?_)
  exact thn hA fun us s2 ⟨vs, H2, I2, r2, q2⟩ => hm pins s2 σ H2 (V.ref a) vs (.ref a) us Q I2 rfl r2 q2
end
/-- t[lo:hi]: the whole of it is t itself -/
def rSlF (K : PySem.W.Frag) : V → Option Int → Option Int → Hp → VK → Prop := fun x lo hi H Q => ∃ a xs, x = .ref a ∧ SqT K H a xs ∧
  (HT.sIx xs.length 0 lo = 0 ∧ HT.sIx xs.length xs.length hi = xs.length → Q (.ref a) H) ∧ (¬ (HT.sIx xs.length 0 lo = 0 ∧ HT.sIx xs.length xs.length hi = xs.length) → ∀ p ob, H p = none → ob.dict = none → Q (.ref p) (upd H p (.frz ob (.tup (cutV xs lo hi)))))
theorem sl_tupFK {X : Cx} (K : PySem.W.Frag) (h : X.K = K := by rfl) : SlR X (rSlF K) := by
  subst h
  intro pins s σ H x v vl vu lo hi sl Q I rx hs pl pu h
  obtain ⟨a, xs, rfl, hx, q1, q2⟩ := h
  by_cases hw : HT.sIx xs.length 0 lo = 0 ∧ HT.sIx xs.length xs.length hi = xs.length
  · exact sl_tupA pins s σ H _ v vl vu lo hi sl Q I rx hs pl pu ⟨a, xs, rfl, hx, q1, fun z => absurd hw z⟩
  · cases rx
    obtain ⟨its, r, ht, hz⟩ := I.tuple hx
    have hlen : its.toArray.size = xs.length := by rw [List.size_toArray]; exact r.length.symm
    refine ⟨"tuple", _, PyProof.Rows.slot_tuple_getitem.lookup, ht.typeIs, ?_⟩
    refine HT.getItem_tuple_cut ht hs pl pu (by rw [hlen]; exact hw) ?_ (by rw [hlen]; exact hz)
    rw [hlen]
    refine ⟨.ref s.heap.objs.size, _, I.laid (t' := s.toks) (o := .frz { cls := .type "tuple", data := .seq (List.take (HT.sIx xs.length xs.length hi - HT.sIx xs.length 0 lo) (List.drop (HT.sIx xs.length 0 lo) its.toArray.toList)).toArray } (.tup (cutV xs lo hi))) (fun b ob q => Heap.get?_push_of_some _ q) (Nat.le_refl _) ?_, rfl, q2 hw _ _ (I.hok.fresh (Nat.le_refl _)) ?_⟩
    · exact ⟨Heap.get?_push_size _ rfl, Nat.le_trans (cutV_length xs lo hi) hz, _, (r.drop (HT.sIx xs.length 0 lo)).take (HT.sIx xs.length xs.length hi - HT.sIx xs.length 0 lo), IsTup.new _ _⟩
    · rfl
theorem Sep.sub {G H : Hp} {M M' : List (Addr × HO)} (S : Sep G M H) (h : M'.Sublist M) : Sep G M' H := ⟨S.1, fun p hp => S.2.1 p (h.subset hp), List.Nodup.sublist (h.map _) S.2.2⟩
theorem Sep.rot2 {G H : Hp} {a b c d : Addr × HO} {M : List (Addr × HO)} (S : Sep G (a :: b :: c :: d :: M) H) : Sep G (c :: d :: a :: b :: M) H := S.perm (List.perm_append_comm_assoc [a, b] [c, d] M)
theorem Sep.no3 {G H : Hp} {a b c : Addr × HO} {M : List (Addr × HO)} (S : Sep G (a :: b :: c :: M) H) : Sep G (a :: b :: M) H := S.sub ((List.sublist_cons_self c M).cons₂ b |>.cons₂ a)
/-! ### lists of ints, of pairs of ints, as data -/
def prd (p : Int × Int) : PyData := .tuple [.int p.1, .int p.2]
theorem prd_can (p : Int × Int) : (prd p).canLay0 = true := by simp [prd, PyData.canLay0, PyData.canLayAll0]
theorem prd_shaped (p : Int × Int) : SeqAt.shaped (prd p) = true := by
  unfold SeqAt.shaped
  rw [prd_can]
  simp [prd, PyData.depth, PyData.depthAll]
theorem prds_can : ∀ ps : List (Int × Int), PyData.canLayAll0 (ps.map prd) = true
  | [] => by simp [PyData.canLayAll0]
  | p :: r => by simp [PyData.canLayAll0, prd_can p, prds_can r]
theorem ints_can : ∀ ns : List Int, PyData.canLayAll0 (ns.map PyData.int) = true
  | [] => by simp [PyData.canLayAll0]
  | n :: r => by simp [PyData.canLayAll0, PyData.canLay0, ints_can r]
theorem prd_eqv (p q : Int × Int) : PyData.eqv (prd p) (prd q) = decide (p = q) := by
  obtain ⟨a, b⟩ := p
  obtain ⟨c, d⟩ := q
  simp only [prd, PyData.eqv, PyData.eqvAll, Bool.and_true]
  by_cases h1 : a = c <;> by_cases h2 : b = d <;> simp [h1, h2]
theorem int_shaped (n : Int) : SeqAt.shaped (.int n) = true := by simp [SeqAt.shaped, PyData.canLay0, PyData.depth]
theorem ints_dp {K : PySem.W.Frag} {H : Hp} : ∀ ns : List Int, DpAll K H (ns.map V.int) (ns.map PyData.int)
  | [] => .nil
  | n :: r => .cons (.int n) (ints_dp r)
theorem any_ints (n : Int) (ns : List Int) : ((ns.map PyData.int).any fun z => PyData.eqv z (.int n)) = decide (n ∈ ns) := by
  induction ns with
  | nil => rfl
  | cons m r ih =>
    rw [List.map_cons, List.any_cons, ih]
    show ((m == n) || decide (n ∈ r)) = decide (n ∈ m :: r)
    by_cases e : n = m
    · subst e; simp
    · have e2 : ¬ m = n := fun q => e q.symm
      simp [e, e2]
theorem any_prds (p : Int × Int) (ps : List (Int × Int)) : ((ps.map prd).any fun z => PyData.eqv z (prd p)) = decide (p ∈ ps) := by
  induction ps with
  | nil => rfl
  | cons q r ih =>
    rw [List.map_cons, List.any_cons, ih, prd_eqv]
    by_cases e : p = q
    · subst e; simp
    · have e2 : ¬ q = p := fun h => e h.symm
      simp [e, e2]
end XL
set_option Elab.async false
set_option linter.all false
set_option maxRecDepth 100000
set_option maxHeartbeats 4000000
/-! XOwn: o[i], o[i] = v by own methods. -/
namespace XL
open PySem PySem.Spec PyProof.Rows L2
section
variable {X : Cx} {CX : CXT} {C f : Addr} {fd : FuncData} {ps : List Str} {sp : Sp} {E : XK} {n : Nat} {o i : Expr} {to ti : TE} {pos : Pos}
def yIxO (C : Addr) (sp : Sp) (E : XK) : R2 := fun x y H Q => ∃ a dx fs, x = .ref a ∧ H a = some (.ins C dx fs) ∧ sp [.ref a, y] H Q E
theorem pe_ixO (ho : PE X o to) (hi : PE X i ti) (F : FnOk X.prog X.w X.K X.mg X.base CX n f fd ps sp) (hs : PySem.W.findIn X.K (.ref C) "__getitem__" = some (some (.ref f))) (hf : PySem.W.fnIn X.K f = true) (hfn : PySem.W.isFn X.K (.ref f) = true)
    (hb : Binds X.K fd ps []) (hx : Passes CX X E) (hr : Room (n + 1) X.A) (hsl : ∀ x v, subscripted i true (.ref x) v = runValue (.builtin "lifetime.subscript" ⟨[.ref x, v], []⟩) := by intro _ _; with_unfolding_all rfl) :
    PE X (.Subscript o i pos) (tOp (yIxO C sp E) to ti) := by
  refine ⟨fun pins s σ H Q I h => ?_⟩
  refine Subscript_ (thn (ho.run pins s σ H _ I h) fun v s1 ⟨x, H1, I1, r1, q1⟩ => thn (hi.run pins s1 σ H1 _ I1 q1) fun u s2 ⟨y, H2, I2, r2, q2⟩ => ?_)
  obtain ⟨a, dx, fs, rfl, ha, hsp⟩ := q2
  cases r1
  obtain ⟨mA, J, _⟩ := ins_get I2.hok ha
  obtain ⟨od, J, _⟩ := J.look
  obtain ⟨m, hF⟩ := I2.fr
  refine PySem.W.sub_K hF I2.ok.mod.kin J hs hf hfn ?_ (hsl _ _)
  have hl : ([Value.ref a, u] ++ []).length = ps.length := F.len _ _ _ _ hsp
  refine wpAny_call (codeAny_mono (F.run X.A.in1 X.stack s2 H2 ⟨[.ref a, u], []⟩ [.ref a, u] [.ref a, y] Q E hr.in1 I2.env0.in1 (hb s2 [.ref a, u] I2.kIn hl) (.cons rfl (.cons r2 .nil)) hsp) fun r s' hq => ?_)
  cases r with
  | error e => exact hx pins σ H2 s2 e s' I2 hq
  | ok fl =>
    cases fl with
    | ret u => exact I2.after hq
    | next => exact False.elim hq
    | brk => exact False.elim hq
    | cont => exact False.elim hq
def yStO (C : Addr) (sp : Sp) (E : XK) : TSet := fun x y v H Q => ∃ a dx fs, x = .ref a ∧ H a = some (.ins C dx fs) ∧ sp [.ref a, y, v] H (fun _ H' => Q H') E
theorem set_own (F : FnOk X.prog X.w X.K X.mg X.base CX n f fd ps sp) (hq : PySem.W.noSeq X.K C = true) (hs : PySem.W.findIn X.K (.ref C) "__setitem__" = some (some (.ref f))) (hfn : PySem.W.isFn X.K (.ref f) = true)
    (hb : Binds X.K fd ps []) (hx : Passes CX X E) (hr : Room n X.A) : PSet X (yStO C sp E) := by
  intro pins s σ H x y v xv yv vv Q I rx ry rv h
  obtain ⟨a, dx, fs, rfl, ha, hsp⟩ := h
  cases rx
  obtain ⟨mA, J, _⟩ := ins_get I.hok ha
  obtain ⟨od, J, _⟩ := J.look
  obtain ⟨m, hF⟩ := I.fr
  refine PySem.W.ksp_setItem hF I.ok.mod.kin J hq hs hfn ?_
  refine wpAny_mono (run_fn (us := [.ref a, yv, vv]) (vs := [.ref a, y, v]) (dvs := []) F hr hb .nil hx I (.cons rfl (.cons ry (.cons rv .nil))) hsp) (fun r s' q => ?_) fun _ _ e => e
  obtain ⟨z, H', I', rz, q⟩ := q
  exact ⟨H', I', q⟩
end
end XL
set_option Elab.async false
set_option linter.all false
set_option maxRecDepth 100000
set_option maxHeartbeats 4000000
/-! XTup: tuples made by a display or by +, as objects without a dict. -/
namespace XL
open PySem PySem.Spec PyProof.Rows L2
section
variable {X : Cx} {es : List Expr} {t : TA} {pos : Pos}
def tTupF (t : TA) : TE := fun σ H Q => t σ H fun xs H1 => xs.length ≤ sizeLine ∧ ∀ p ob, H1 p = none → ob.dict = none → Q (.ref p) (upd H1 p (.frz ob (.tup xs)))
theorem pe_tupF {x1} (h : PA X es t) : PE X (.Tuple es x1 pos) (tTupF t) := by
  refine ⟨fun pins s σ H Q I hq => ?_⟩
  refine wpAny_Tuple_spliced (thn (h.run pos pins s σ H _ I hq) fun us s1 ⟨xs, H1, I1, r, z, q⟩ => ⟨by rw [← r.length]; exact z, ?_⟩)
  have hf : H1 s1.heap.objs.size = none := I1.hok.fresh (Nat.le_refl _)
  refine ⟨.ref s1.heap.objs.size, _, I1.laid (t' := s1.toks) (o := .frz { cls := .type "tuple", data := .seq us.toArray } (.tup xs)) (fun b u e => Heap.get?_push_of_some _ e) (Nat.le_refl _) ?_, rfl, q _ _ hf rfl⟩
  exact ⟨Heap.get?_push_size _ rfl, z, us, r, ⟨_, Heap.get?_push_size _ rfl, rfl, _, rfl⟩⟩
def rCatF (K : PySem.W.Frag) : R2 := fun x y H Q => ∃ a b xs ys, x = .ref a ∧ y = .ref b ∧ SqT K H a xs ∧ SqT K H b ys ∧ xs.length + ys.length ≤ sizeLine ∧
  (xs = [] → Q (.ref b) H) ∧ (xs ≠ [] → ys = [] → Q (.ref a) H) ∧ (xs ≠ [] → ys ≠ [] → ∀ p ob, H p = none → ob.dict = none → Q (.ref p) (upd H p (.frz ob (.tup (xs ++ ys)))))
theorem op_catFK (K : PySem.W.Frag) (h : X.K = K := by rfl) : OpR X (binaryOp .Add) (rCatF K) := by
  subst h
  intro pins s σ H x y v u Q I rx ry h
  obtain ⟨a, b, xs, ys, rfl, rfl, ha, hb, hz, q0, q1, q2⟩ := h
  by_cases hx : xs = []
  · exact op_catA pins s σ H _ _ v u Q I rx ry ⟨a, b, xs, ys, rfl, rfl, ha, hb, hz, q0, fun z => absurd hx z, fun z => absurd hx z⟩
  · cases rx
    cases ry
    obtain ⟨its, r1, p1, _⟩ := I.tuple ha
    obtain ⟨its2, r2, p2, _⟩ := I.tuple hb
    refine HT.cat_tup p1 p2 (fun z => hx (r1.nil_iff.mp z)) (fun z => ⟨.ref a, H, I, rfl, q1 hx (r2.nil_iff.mp z)⟩) (fun z => ?_) (by rw [← r1.length, ← r2.length]; exact hz)
    refine ⟨.ref s.heap.objs.size, _, I.laid (t' := s.toks) (o := .frz { cls := .type "tuple", data := .seq (its ++ its2).toArray } (.tup (xs ++ ys))) (fun b ob q => Heap.get?_push_of_some _ q) (Nat.le_refl _) ?_, rfl, q2 hx (fun w => z (r2.nil_iff.mpr w)) _ _ (I.hok.fresh (Nat.le_refl _)) rfl⟩
    exact ⟨Heap.get?_push_size _ rfl, by rw [List.length_append]; exact hz, _, r1.append r2, IsTup.new _ _⟩
end
section
variable {K : PySem.W.Frag} {a : Addr} {xs : List V} {Qd : Hp → Prop} {B : V → Hp → (Hp → Prop) → Prop} {H0 : Hp}
/-- a clause of a comprehension over a list -/
theorem loopL (Pv : Nat → Hp → Prop) (h0 : Pv 0 H0) (hl : ∀ k H, Pv k H → SqL K H a xs) (hs : ∀ k x H, xs[k]? = some x → Pv k H → B x H (Pv (k + 1))) (hd : ∀ H, Pv xs.length H → Qd H) :
    ∃ W : Nat → Nat → Hp → Prop, (∃ m, W 0 m H0) ∧ ∀ i m H, W i m H → ((Itl K a).stop i H ∧ Qd H) ∨ ((Itl K a).go i H ∧ ∃ Nx : Hp → Prop, (∀ H', Nx H' → ∃ m', m' < m ∧ W (i + 1) m' H') ∧ ∀ x H', (Itl K a).yld i H x H' → B x H' Nx) := by
  refine ⟨fun i m H => m = xs.length - i ∧ i ≤ xs.length ∧ Pv i H, ⟨xs.length, by simp, Nat.zero_le _, h0⟩, ?_⟩
  rintro i m H ⟨rfl, hi, p⟩
  have q := hl i H p
  by_cases hlt : i < xs.length
  · refine .inr ⟨⟨xs, xs[i], q, by simp [hlt]⟩, Pv (i + 1), fun H' p' => ⟨xs.length - (i + 1), by omega, rfl, hlt, p'⟩, fun x H' y => ?_⟩
    obtain ⟨e, y⟩ := y
    subst e
    exact hs i x _ (y xs q) p
  · have e : i = xs.length := by omega
    subst e
    exact .inl ⟨⟨xs, q, Nat.le_refl _⟩, hd H p⟩
/-- a clause of a comprehension over a range -/
theorem loopR {lo : Int} {n : Nat} (Pv : Nat → Hp → Prop) (h0 : Pv 0 H0) (hs : ∀ k H, k < n → Pv k H → B (.int (lo + k)) H (Pv (k + 1))) (hd : ∀ H, Pv n H → Qd H) :
    ∃ W : Nat → Nat → Hp → Prop, (∃ m, W 0 m H0) ∧ ∀ i m H, W i m H → ((Itr lo n).stop i H ∧ Qd H) ∨ ((Itr lo n).go i H ∧ ∃ Nx : Hp → Prop, (∀ H', Nx H' → ∃ m', m' < m ∧ W (i + 1) m' H') ∧ ∀ x H', (Itr lo n).yld i H x H' → B x H' Nx) := by
  refine ⟨fun i m H => m = n - i ∧ i ≤ n ∧ Pv i H, ⟨n, by simp, Nat.zero_le _, h0⟩, ?_⟩
  rintro i m H ⟨rfl, hi, p⟩
  by_cases hlt : i < n
  · refine .inr ⟨hlt, Pv (i + 1), fun H' p' => ⟨n - (i + 1), by omega, rfl, hlt, p'⟩, fun x H' y => ?_⟩
    obtain ⟨e, y⟩ := y
    subst e y
    exact hs i _ hlt p
  · have e : i = n := by omega
    subst e
    exact .inl ⟨Nat.le_refl _, hd H p⟩
/-- row + (item,) -/
theorem cat_one {G H : Hp} {M : List (Addr × HO)} {r : Addr} {n : List Int} {i : Int} {Q : VK} (S : Sep G M H) (hr : TupF G r (n.map V.int)) (hl : n.length ≤ 1000)
    (q : ∀ (p : Addr) (G' H' : Hp), Same G G' → Sep G' M H' → TupF G' p ((n ++ [i]).map V.int) → Q (.ref p) H') :
    [V.int i].length ≤ sizeLine ∧ ∀ p ob, H p = none → ob.dict = none → rCatF K (.ref r) (.ref p) (upd H p (.frz ob (.tup [.int i]))) Q := by
  refine ⟨sz, fun p ob np hob => ?_⟩
  have S1 := S.newG (o := .frz ob (.tup [.int i])) np
  have s1 := S.grow (o := .frz ob (.tup [.int i])) np
  have h1 : TupF (upd G p (.frz ob (.tup [.int i]))) p [.int i] := ⟨ob, hob, upd_same⟩
  refine ⟨r, p, n.map V.int, [.int i], rfl, rfl, ((hr.same s1).same S1.1).tu.sq, (h1.same S1.1).tu.sq, small (by rw [List.length_map]; simp; omega), fun e => ?_, fun _ e => (nomatch e), fun _ _ p2 ob2 np2 hob2 => ?_⟩
  · have e2 : n = [] := List.map_eq_nil_iff.mp e
    subst e2
    exact q p _ _ s1 S1 h1
  · have e3 : n.map V.int ++ [V.int i] = (n ++ [i]).map V.int := by rw [List.map_append]; rfl
    rw [e3]
    exact q p2 _ _ (s1.trans (S1.grow np2)) (S1.newG np2) ⟨ob2, hob2, upd_same⟩
end
end XL
set_option Elab.async false
set_option linter.all false
set_option maxRecDepth 100000
set_option maxHeartbeats 4000000
/-! XExc: an error of the program's own, class E(ScreenError): __init__(self, x): super().__init__(f'..{x!r}'); self.x = x: made, raised, caught. -/
namespace PySem
namespace XExc
open PySem.W PySem.Calls PyProof.Rows PySem.HandSPX
/-! ### the text of __init__ -/
def iA (fld : Str) (p1 p2 : Pos) : Arguments := { posonlyargs := [], args := [{ arg := "self", annotation := none, pos := p1 }, { arg := fld, annotation := none, pos := p2 }], vararg := none, kwonlyargs := [], kw_defaults := [], kwarg := none, defaults := [] }
structure Ps where
  a : Pos
  b : Pos
  c : Pos
  d : Pos
  e : Pos
  f : Pos
  g : Pos
  h : Pos
  i : Pos
  j : Pos
  k : Pos
  l : Pos
  m : Pos
def iSup (q : Ps) : Expr := .Call (.Name "super" q.a) [] [] q.b
def iArg (fld : Str) (msg : Str) (q : Ps) : Expr := .JoinedStr [.Constant (.str msg) 0 q.d, .FormattedValue (.Name fld q.e) 114 none q.f] q.g
def iCall (fld : Str) (msg : Str) (q : Ps) : Expr := .Call (.Attribute (iSup q) "__init__" q.c) [iArg fld msg q] [] q.h
def iB (fld : Str) (msg : Str) (q : Ps) : List Stmt := [.Expr (iCall fld msg q) q.i, .Assign [.Attribute (.Name "self" q.j) fld q.k] (.Name fld q.l) q.m]
/-- how the call is evaluated (the positions decide nothing here) -/
def Evals (fld msg : Str) (q : Ps) : Prop := ∃ pl : Env → Sem Bool, ∀ env : Env, eval (iCall fld msg q) env = (do
  let ov ← attributeBase (iSup q) "__init__" env (eval (iSup q) env)
  standAt q.c.atName
  let (f, first) ← holding [ov] (getMethod ov "__init__" (pl env))
  callWith q.h f first (backTo q.h (starEach [iArg fld msg q] env)) [])
def iN (fld : Str) : List (Str × NameKind) := [(PySem.Str.ofString "self", .local), (fld, .local), (PySem.Str.ofString "__class__", .free), (PySem.Str.ofString "super", .globalImplicit)]
def iS (fld : Str) : Scope := { kind := .function, names := iN fld, isGenerator := false, isCoroutine := false, more := [] }
/-- what the written part says of the class at C and of its __init__ at fI -/
structure ExTxt (P : Program) (K : Frag) (mg : Str → Option Value) (nm fld msg : Str) (C fI : Addr) : Prop where
  gC : mg nm = some (.ref C)
  cls : ∃ nm q N bs bm sn sub ab col dd k0 k1 k2 k3 k5, K.lookup C = some (excClassObj nm q C N bs bm true sn sub ab col dd k0 k1 k2 k3 k5 "ValueError.__new__") ∧ refsVE bm = true
  sa : findIn K (.ref C) "__setattr__" = some (some (.builtin "object.__setattr__"))
  ga : findIn K (.ref C) "__getattribute__" = some (some (.builtin "BaseException.__getattribute__"))
  gg : findIn K (.ref C) "__getattr__" = some none
  noN : findIn K (.ref C) fld = some none
  iC : findIn K (.ref C) "__init__" = some (some (.ref fI))
  tC : typeIn K (.ref fI) = some (.type "function")
  kC : keepIn K (.ref C) = true
  exC : subIn K (.ref C) (.type "BaseException") = some true
  tyC : typeIn K (.ref C) = some (.type "type")
  hdC : hasDictIn K C = true
  fn : ∃ (oc kV doc pm ct : Value) (od an : Option Addr) (osl : Array (Option Value)) (qual : Str) (cda cc : Addr) (p1 p2 : Pos) (q : Ps) (vs : Array Value) (file : Str) (tf : Tok) (ccl cl : Value) (cdd cld : Option Addr) (ccs csl : Array (Option Value)),
    K.lookup fI = some ⟨oc, od, .func (ksFn "__init__" qual (iA fld p1 p2) (iB fld msg q) (iS fld) .none kV doc pm an (.ref cda) ct cc), osl⟩ ∧ codeIn K (.ref cda) qual = true ∧ K.lookup cda = some ⟨ccl, cdd, .fields vs, ccs⟩ ∧ vs[2]? = some (.str file tf) ∧
    ((P.main.file : Str) == file) = true ∧ K.lookup cc = some ⟨cl, cld, .cell (some (.ref C)), csl⟩ ∧ Evals fld msg q ∧
    ∀ x v : Value, bindArgs (ksFn "__init__" qual (iA fld p1 p2) (iB fld msg q) (iS fld) .none kV doc pm an (.ref cda) ct cc) ⟨[x, v], []⟩ = pure [(("self" : Str), x), (fld, v)]
  sup : ks_superIn K C C "__init__" = some (some (.builtin "ValueError.__init__"))
  subV : subIn K (.ref C) (.type "ValueError") = some true
  mroS : mroIn K C (.ref C) = some true
  opq : nsIn K cStatics "thirdparty.any" = some none
  htop : (P.main.scope.names.lookup ("super" : Str)).isSome = false
  hsup : mg "super" = none
  f1 : fld ≠ "self"
  f2 : fld ≠ "__class__"
  f3 : fld ≠ "super"
  f4 : (fld == ("__debug__" : Str)) = false
  ml : msg.length ≤ 1000
/-- where the program stands -/
def PF (P : Program) (fl : Str) : Prop := ((P.main.file : Str) == fl) = true ∧ (P.main.scope.names.lookup ("super" : Str)).isSome = false
/-- what can be told in the message -/
def Rp (v : Value) : Prop := (∃ (y : Str) (t : Tok), v = .str y t ∧ (reprText y).length ≤ 100000) ∨ ∃ (i : Int) (t : Tok), v = .int i t ∧ i.natAbs.log2 < 1920
structure InitEnd (h h' : Heap) (x C dx : Addr) (fld : Str) (v : Value) : Prop where
  keep : ∀ b o, b ≠ x → h.get? b = some o → h'.get? b = some o
  obj : ∃ t1 : Addr, h'.get? x = some { cls := .ref C, dict := some dx, data := .fields #[.ref t1, .none, .none, .none, .bool false, .none] }
  dbig : h.objs.size ≤ dx
  dne : dx ≠ x
  ns : h'.Ns1 dx (fun y => if y = fld then some v else none)
structure OwnMade (h h' : Heap) (e C d : Addr) (fld : Str) (v : Value) : Prop where
  keep : ∀ b o, h.get? b = some o → h'.get? b = some o
  new : h.objs.size ≤ e
  obj : ∃ oe vs, h'.get? e = some oe ∧ oe.cls = .ref C ∧ oe.dict = some d ∧ oe.data = .fields vs ∧ vs[1]? = some .none
  dbig : h.objs.size ≤ d
  dne : d ≠ e
  ns : h'.Ns1 d (fun y => if y = fld then some v else none)
section
variable {prog : Program} {w : World} {A : Around} {E : Value → Shared → Prop} {h : Heap} {g : Array GenState} {d : Drawn} {t : Nat} {os : OsState}
variable {nm q : Str} {C N : Addr} {bs bm : List Value} {hdct : Bool} {sn : List Str} {sub : List Value} {ab : Bool} {col : Option Bool} {dd : Option Addr} {k0 k1 k2 k3 k5 : Option Value}
theorem call_mw {u e t0 : Addr} {rest : List Value} {Q : Value → Shared → Prop}
    (hC : h.get? C = some (excClassObj nm q C N bs bm hdct sn sub ab col dd k0 k1 k2 k3 k5 "ValueError.__new__")) (he : h.get? e = some (excO C t0)) (hu : h.get? u = some (kxs_mw "ValueError.__init__" e)) (hrest : rest.length ≤ sizeLine)
    (hq : ∀ h' t1, (∀ b o, b ≠ e → h.get? b = some o → h'.get? b = some o) → h.objs.size ≤ h'.objs.size → h'.get? e = some (excO C t1) → Q .none ⟨h', g, d, t, os⟩) :
    wpAny (model prog w) A (call (.ref u) rest) Q E ⟨h, g, d, t, os⟩ := by
  refine wpAny_call (codeAny_of_tree ?_)
  show wpAny _ A.in1 (callAny (.ref u) ⟨rest, []⟩) _ _ _
  simp only [callAny]
  refine wpAny_bind (wpAny_load hu ?_)
  simp only [kxs_mw, show (Value.type "method-wrapper" == Value.type "method" || Value.type "method-wrapper" == Value.type "builtin_function_or_method" || Value.type "method-wrapper" == Value.type "method-wrapper") = true by decide, if_true]
  refine W.KFB.if_so (by decide) ?_
  refine wpAny_bind (check_bound_init F.excBase_ValueError.toExcCallFacts hC he rfl ?_)
  refine wpAny_bind (wpAny_pure (wpAny_pure ?_))
  refine ⟨plainId_quiet F.excBase_ValueError.init.plain _, codeAny_builtin F.excBase_ValueError.initEntry ?_⟩
  rw [Around.under_plainId F.excBase_ValueError.init.plain _]
  wp_walk
  refine hq _ h.objs.size (fun b o hb ho => ?_) ?_ ?_
  · rw [Heap.get?_update_other _ _ (Ne.symm hb)]
    exact Heap.get?_push_of_some _ ho
  · simp [Heap.size_push]
  · rw [Heap.get?_update_self _ (Heap.get?_push_of_some _ he) rfl]
    rfl
end
section
variable {prog : Program} {w : World} {A : Around} {E : Value → Shared → Prop} {R : Result → Shared → Prop} {s : Shared} {K : Frag} {mg mb : Str → Option Value} {nm fld msg : Str} {C fI : Addr}
theorem one_size (v : Value) : [v].length ≤ sizeLine := by
  rw [sizeLine_eq]
  exact (by decide : 1 ≤ 16777216)
/-- f'..{v!r}' -/
theorem told_ok {env : Env} {q : Ps} {m : Str → Option Value} {v : Value} {Q : Value → Shared → Prop} (hn : s.heap.Ns env.locals m) (hv : m fld = some v) (hr : Rp v) (hml : msg.length ≤ 1000) (hk : env.scope.kind = .function) (hl : env.kindOf fld = some .local) (hd : (fld == ("__debug__" : Str)) = false)
    (h : ∀ u tk, Q u { s with toks := tk }) : wpAny (model prog w) A (eval (iArg fld msg q) env) Q E s := by
  unfold iArg
  have sm : ∀ n : Nat, n ≤ 200000 → n ≤ sizeLine := fun n hn => Nat.le_trans hn (by decide)
  refine wpAny_JoinedStr ?_
  have e0 : evalEach [Expr.Constant (.str msg) 0 q.d, .FormattedValue (.Name fld q.e) 114 none q.f] env = [eval (.Constant (.str msg) 0 q.d) env, eval (.FormattedValue (.Name fld q.e) 114 none q.f) env] := by first | rfl | simp [evalEach]
  rw [e0]
  refine Calls.Constant_str ⟨msg, _, rfl, ?_, ?_⟩
  · rw [Str.length_append]
    exact sm _ (by show 0 + msg.length ≤ _; omega)
  refine wpAny_FormattedValue_repr (ESX.ldL hn hv ?_ hk hl hd)
  rcases hr with ⟨y, t, rfl, hz⟩ | ⟨i, t, rfl, hz⟩
  · have hz' : (reprText y).length ≤ sizeLine := sm _ (by omega)
    have out : ∀ (tk : Tok) (tt : Nat), ∃ (y' : Str) (t' : Tok), Value.str (reprText y) tk = .str y' t' ∧ (Str.empty ++ msg ++ y').length ≤ sizeLine ∧ Joins (model prog w) A E [] (Str.empty ++ msg ++ y') (fun out s₁ => out.length ≤ sizeLine ∧ Q (.str out s₁.toks) { s₁ with toks := s₁.toks + 1 }) { s with toks := tt } := fun tk tt => by
      have hl : (Str.empty ++ msg ++ reprText y).length ≤ sizeLine := by
        rw [Str.length_append, Str.length_append]
        exact sm _ (by show 0 + msg.length + _ ≤ _; omega)
      exact ⟨_, _, rfl, hl, hl, h _ _⟩
    exact pyReprObj_str (wpAny_formatField_str (out _ _) (out _ _) hz') hz'
  · have hz' := int_text_fits hz
    have ln : (toString i : Str).length ≤ 100000 := by
      have e := int_text_length_le (k := 1920) (by decide) hz
      show (Str.ofString (toString i)).length ≤ 100000
      rw [ofString_length]
      omega
    have out : ∀ (tk : Tok) (tt : Nat), ∃ (y' : Str) (t' : Tok), Value.str (toString i) tk = .str y' t' ∧ (Str.empty ++ msg ++ y').length ≤ sizeLine ∧ Joins (model prog w) A E [] (Str.empty ++ msg ++ y') (fun out s₁ => out.length ≤ sizeLine ∧ Q (.str out s₁.toks) { s₁ with toks := s₁.toks + 1 }) { s with toks := tt } := fun tk tt => by
      have hl : (Str.empty ++ msg ++ (toString i : Str)).length ≤ sizeLine := by
        rw [Str.length_append, Str.length_append]
        exact sm _ (by show 0 + msg.length + _ ≤ _; omega)
      exact ⟨_, _, rfl, hl, hl, h _ _⟩
    exact pyReprObj_int hz (wpAny_formatField_str (out _ _) (out _ _) hz')
end
section
variable {prog : Program} {w : World} {A : Around} {E : Value → Shared → Prop} {R : Result → Shared → Prop} {K : Frag} {mg mb : Str → Option Value} {nm fld msg : Str} {C fI : Addr}
theorem kept_but {K : Frag} {h h' : Heap} {x : Addr} (X : K.In h) (hx : K.lookup x = none) (k : ∀ b o, b ≠ x → h.get? b = some o → h'.get? b = some o) : K.In h' := fun a o e =>
  k a o (fun z => by rw [z, hx] at e; cases e) (X a o e)
theorem exc_init (T : ExTxt prog K mg nm fld msg C fI) {x t0 : Addr} {v : Value} {hp : Heap} {g : Array GenState} {dr : Drawn} {tk : Nat} {os : OsState} (X : K.In hp) (hlim : hp.NoLimit) (hG : hp.Ns mainGlobals mg) (hB : hp.Ns builtinsNs mb) (hbb : ∀ x : Str, x ≠ "__name__" → mb x = bootBuiltins x)
    (hx : hp.get? x = some (excO C t0)) (hnx : K.lookup x = none) (hroom : A.depth < recursionLimit) (hr : Rp v)
    (hq : ∀ h' tk' dx, InitEnd hp h' x C dx fld v → R (.ok (.ret .none)) ⟨h', g, dr, tk', os⟩) :
    codeAny (model prog w) A (.call (.ref fI) ⟨[.ref x, v], []⟩) R ⟨hp, g, dr, tk, os⟩ := by
  obtain ⟨oc, kV, doc, pm, ct, od, an, osl, qual, cda, cc, p1, p2, q, vs, file, tf, ccl, cl, cdd, cld, ccs, csl, ho, hcd, hcda, hvs, hfile, hcc, ⟨pl, hev⟩, hbind⟩ := T.fn
  obtain ⟨nm', q', N, bs, bm, sn, sub, ab, col, dd, k0, k1, k2, k3, k5, hC, hbm⟩ := T.cls
  have hcl : clsIn K C = some { name := nm', bases := bs, mro := .ref C :: bm, ns := N, qualname := q', hasDict := true, slotNames := sn, subclasses := sub, abstract := ab, collection := col, hasDel := false } := by unfold clsIn; rw [hC] <;> rfl
  have e1 : (iS fld).names.lookup fld = some .local := by
    show (iN fld).lookup fld = _
    unfold iN
    have z : (fld == PySem.Str.ofString "self") = false := by simpa using T.f1
    simp [List.lookup, z]
  have e2 : (iS fld).names.lookup ("self" : Str) = some .local := rfl
  have e3 : (iS fld).names.lookup ("__class__" : Str) = some .free := by
    show (iN fld).lookup ("__class__" : Str) = _
    unfold iN
    have z : (("__class__" : Str) == fld) = false := by simpa using Ne.symm T.f2
    have z2 : (("__class__" : Str) == PySem.Str.ofString "self") = false := by decide
    simp [List.lookup, z, z2]
  have e4 : (iS fld).names.lookup ("super" : Str) = some .globalImplicit := by
    show (iN fld).lookup ("super" : Str) = _
    unfold iN
    have z : (("super" : Str) == fld) = false := by simpa using Ne.symm T.f3
    have z2 : (("super" : Str) == PySem.Str.ofString "self") = false := by decide
    have z3 : (("super" : Str) == PySem.Str.ofString "__class__") = false := by decide
    simp [List.lookup, z, z2, z3]
  refine ks_codeAny_call_defAt (fd := ksFn "__init__" qual (iA fld p1 p2) (iB fld msg q) (iS fld) .none kV doc pm an (.ref cda) ct cc) (body := iB fld msg q) (binds := [("self", .ref x), (fld, v)]) hroom (X _ _ ho) rfl hlim (codeRec_of X hcd) rfl (BindsTo.of_eq (hbind _ _)) ?_ ?_ (fun h₁ hn k => ?_) rfl rfl rfl
  · intro y hy
    have hy : y ∈ iN fld := hy
    unfold iN at hy
    simp only [List.mem_cons, List.not_mem_nil, or_false] at hy
    rcases hy with rfl | rfl | rfl | rfl <;> exact fun z => nomatch z
  · intro y hy
    simp only [List.mem_cons, List.not_mem_nil, or_false] at hy
    rcases hy with rfl | rfl
    · exact e2
    · exact e1
  have X₁ : K.In h₁ := X.keeps k
  have hxL : hp.objs.size ≠ x := Nat.ne_of_gt (Heap.lt_size hx)
  have hx₁ := k _ _ hx
  have mS : List.lookup ("self" : Str) (List.reverse [(("self" : Str), Value.ref x), (fld, v)]) = some (.ref x) := by
    show List.lookup ("self" : Str) [(fld, v), (("self" : Str), Value.ref x)] = _
    have z : (("self" : Str) == fld) = false := by simpa using Ne.symm T.f1
    simp [List.lookup, z]
  have mF : List.lookup fld (List.reverse [(("self" : Str), Value.ref x), (fld, v)]) = some v := by
    show List.lookup fld [(fld, v), (("self" : Str), Value.ref x)] = _
    simp [List.lookup]
  refine ks_wpAt_execs_cons (ks_wpAt_Expr_any (ks_wpAt_MethodCall (o := iSup q) (name := "__init__") (he := hev _) ?_))
  have oC := X₁ _ _ hC
  refine ks_wpAt_super_base (env := callEnv (ksFn "__init__" qual (iA fld p1 p2) (iB fld msg q) (iS fld) .none kV doc pm an (.ref cda) ct cc) hp.objs.size fI) e4 e3 (by decide) rfl (X₁ _ _ ho) rfl rfl rfl (X₁ _ _ hcda) rfl hvs hfile T.htop ?_
  refine ks_loadName_global rfl e4 (loadGlobal_builtin (hG.keeps k) T.hsup (hB.keeps k) ((hbb _ (by decide +kernel)).trans (by first | boot_by_name | rfl | kernel_rfl)) ⟨rfl, ?_⟩)
  refine wpAny_loadName_free rfl e3 rfl ⟨_, X₁ _ _ hcc, rfl⟩ ?_
  refine wpAny_loadName_local rfl e2 hn mS ?_
  refine ks_wpAny_isType_cls oC rfl ⟨rfl, ?_⟩
  refine ks_wpAny_call_super oC rfl hx₁ rfl (fun c e => (nomatch e)) (looks_mroIn X₁ T.mroS) (fun h₂ hso k₂ => ?_)
  have X₂ : K.In h₂ := X₁.keeps k₂
  have hx₂ := k₂ _ _ hx₁
  have hsup : alongIn K "__init__" (((Value.ref C :: bm).dropWhile (· != .ref C)).drop 1) = some (some (.builtin "ValueError.__init__")) := by
    have z := T.sup
    unfold ks_superIn at z
    rw [hcl] at z
    exact z
  have I₂ : InstAt h₂ x (excO C t0) C none := ⟨hx₂, rfl, rfl, trivial⟩
  refine kxs_getMethod kxs_ValueError hso (looks_opaque X₂ T.opq) (l₀ := .ref C :: bm) ?_ rfl X₂ hsup (I₂.type.andThen (looks_subIn X₂ T.subV)) (ks_ne X₂ I₂ hcl) (by decide) ?_
  · exact fun A Q E s k q => wpAny_bind ((looks_clsIn X₂ hcl) A _ E s k (wpAny_pure q))
  have hu : (h₂.push (kxs_mw "ValueError.__init__" x)).get? h₂.objs.size = some (kxs_mw "ValueError.__init__" x) := Heap.get?_push_at rfl rfl
  have k₃ : ∀ b o, h₂.get? b = some o → (h₂.push (kxs_mw "ValueError.__init__" x)).get? b = some o := fun b o e => Heap.get?_push_of_some _ e
  have X₃ := X₂.keeps k₃
  have hn₃ : (h₂.push (kxs_mw "ValueError.__init__" x)).Ns hp.objs.size _ := (hn.keeps k₂).keeps k₃
  refine kxs_callWith (i := "ValueError.__init__") (x := x) rfl (evalArgs_plain ?_)
  show wpAny _ _ (spliced ((false, eval (iArg fld msg q) _) :: backTo q.h (starEach [] _))) _ _ _
  refine Calls.spliced_cons (told_ok hn₃ mF hr T.ml rfl e1 T.f4 fun u tk' => Calls.spliced_nil ⟨hu, ?_⟩)
  show wpAny _ _ (call (.ref h₂.objs.size) [u]) _ _ _
  refine call_mw (X₃ _ _ hC) (k₃ _ _ hx₂) hu (one_size _) fun h₄ t1 k₄ sz₄ hx₄ => ?_
  show wpAt _ _ _ (execs _ _) _ _ _
  refine wpAt_of_wpAny ?_
  have X₄ : K.In h₄ := kept_but X₃ hnx k₄
  have hn₄ : h₄.Ns hp.objs.size (fun x_1 => List.lookup x_1 (List.reverse [(("self" : Str), Value.ref x), (fld, v)])) := by
    obtain ⟨oL, es, ep, hL, r⟩ := hn₃
    exact ⟨oL, es, ep, k₄ _ _ hxL hL, r⟩
  refine wpAny_execs_cons (plainObj_wpAny_Assign_Attribute ?_)
  refine ESX.ldL hn₄ mF (ESX.ldL hn₄ mS ?_ rfl e2) rfl e1 T.f4
  refine set_plain X₄ (ox := excO C t1) (od := none) ⟨hx₄, rfl, rfl, trivial⟩ T.sa ?_
  refine exc_osa X₄ hx₄ hcl (show refsVE (.ref C :: bm) = true from hbm) rfl T.noN (fun h₅ tk₅ dx k₅ dn dne hx₅ hn₅ => ?_)
  show wpAny _ _ (execs _ _) _ _ _
  have z : hp.objs.size < h₄.objs.size := hn₄.lt
  exact wpAny_execs_nil (hq h₅ tk₅ dx ⟨fun b o hb e => k₅ b o hb (k₄ b o hb (k₃ b o (k₂ b o (k b o e)))), ⟨t1, hx₅⟩, Nat.le_of_lt (Nat.lt_of_lt_of_le z dn), dne, hn₅⟩)
end
section
variable {prog : Program} {w : World} {A : Around} {R : Result → Shared → Prop} {K : Frag} {mg mb : Str → Option Value} {nm fld msg : Str} {C fI : Addr}
theorem exc_made (T : ExTxt prog K mg nm fld msg C fI) {v : Value} {hp : Heap} {g : Array GenState} {dr : Drawn} {tk : Nat} {os : OsState} (X : K.In hp) (hlim : hp.NoLimit) (hG : hp.Ns mainGlobals mg) (hB : hp.Ns builtinsNs mb) (hbb : ∀ x : Str, x ≠ "__name__" → mb x = bootBuiltins x) (hroom : A.depth + 1 < recursionLimit) (hr : Rp v)
    (hq : ∀ h' tk' e d, OwnMade hp h' e C d fld v → R (.ok (.ret (.ref e))) ⟨h', g, dr, tk', os⟩) :
    codeAny (model prog w) A (.call (.ref C) ⟨[v], []⟩) R ⟨hp, g, dr, tk, os⟩ := by
  obtain ⟨nm', q', N, bs, bm, sn, sub, ab, col, dd, k0, k1, k2, k3, k5, hC, hbm⟩ := T.cls
  have k : ∀ b o, hp.get? b = some o → ((hp.push (kdv_tup [v])).push (excO C hp.objs.size)).get? b = some o := fun b o e => Heap.get?_push_of_some _ (Heap.get?_push_of_some _ e)
  have hget : ((hp.push (kdv_tup [v])).push (excO C hp.objs.size)).get? (hp.objs.size + 1) = some (excO C hp.objs.size) := by heap_get
  have hnx : K.lookup (hp.objs.size + 1) = none := by
    cases e : K.lookup (hp.objs.size + 1) with
    | none => rfl
    | some o =>
      have z : hp.get? (hp.objs.size + 1) = some o := X _ _ e
      exact absurd (Nat.lt_of_succ_lt (Heap.lt_size z)) (Nat.lt_irrefl _)
  refine call_own F.excBase_ValueError (fun X => refsVE_contains X bm hbm) (X _ _ hC) (looks_findIn X T.iC) (fun self => bind_fn X self T.tC) (one_size v) ?_
  refine exc_init (tk := tk) T (X.keeps k) (hlim.keeps k) (hG.keeps k) (hB.keeps k) hbb hget hnx ?_ hr fun h' tk' dx ⟨k', ⟨t1, hx⟩, dn, dne, hns⟩ => ?_
  · show A.depth + 1 < recursionLimit
    exact hroom
  · have old : ∀ b o, hp.get? b = some o → h'.get? b = some o := fun b o e => k' b o (Nat.ne_of_lt (Nat.lt_succ_of_lt (Heap.lt_size e))) (k b o e)
    have z : hp.objs.size + 1 + 1 ≤ dx := by
      first
        | (simpa only [Heap.size_push] using dn)
        | exact dn
        | (have q := dn; rw [Heap.size_push, Heap.size_push] at q; exact q)
    exact ⟨rfl, hq h' tk' (hp.objs.size + 1) dx ⟨old, Nat.le_succ _, ⟨_, _, hx, rfl, rfl, rfl, rfl⟩, Nat.le_trans (Nat.le_trans (Nat.le_succ _) (Nat.le_succ _)) z, dne, hns⟩⟩
end
end XExc
end PySem
namespace XL
open PySem PySem.Spec PyProof.Rows L2
/-! ### the error, over the abstract heap -/
def RpV (v : V) : Prop := (∃ y : Str, v = .str y ∧ (reprText y).length ≤ 100000) ∨ ∃ i : Int, v = .int i ∧ i.natAbs.log2 < 1920
theorem RpV.rp {v : V} {u : Value} (h : RpV v) (r : RelV v u) : PySem.XExc.Rp u := by
  rcases h with ⟨y, rfl, hz⟩ | ⟨i, rfl, hz⟩
  · obtain ⟨t, rfl⟩ := r
    exact .inl ⟨y, t, rfl, hz⟩
  · obtain ⟨t, rfl⟩ := r
    exact .inr ⟨i, t, rfl, hz⟩
theorem relO_one {fld : Str} {v : V} {v' : Value} (r : RelV v v') (f : Str) : RelO (List.lookup f [(fld, v)]) (if f = fld then some v' else none) := by
  by_cases hw : f = fld
  · subst hw
    rw [if_pos rfl]
    have q : List.lookup f [(f, v)] = some v := by simp [List.lookup]
    rw [q]
    exact r
  · rw [if_neg hw]
    have qw : (f == fld) = false := by simpa using hw
    have q2 : List.lookup f [(fld, v)] = none := by simp [List.lookup, qw]
    rw [q2]
    trivial
section
variable {X : Cx} {C fI : Addr} {nm fld msg : Str}
def tMkX (C : Addr) (fld : Str) (ta : TA) : L2.St → Hp → XK → Prop := fun σ H Q => ta σ H fun vs H1 => ∃ v, vs = [v] ∧ RpV v ∧ ∀ d, H1 d = none → Q (.ref C) (some d) (upd H1 d (.xd [(fld, v)]))
theorem pmk_x {a : Expr} {ta : TA} {p pos : Pos} {k : Nat} (T : PySem.XExc.ExTxt X.prog X.K X.mg nm fld msg C fI) (hr : Room (k + 1) X.A) (ha : PA X [a] ta) (hg : Gl X nm := by rfl) (hd : (nm == ("__debug__" : Str)) = false := by decide)
    (he : starEach (a :: []) X.env = (false, eval a X.env) :: starEach [] X.env := by rfl) (hpl : (backTo pos (starEach [] X.env)).any (·.1) = false := by rfl) :
    PMk X (.Call (.Name nm p) [a] [] pos) (tMkX C fld ta) := by
  intro pins s σ H Q I h
  refine wpAny_Call_Name_kw (ld_glob I hg T.gC ?_ hd)
  refine PySem.W.callWith_K (h₀ := X.base) I.ok.mod.kin T.kC (thn (ha.run pos pins s σ H _ I h) fun us s1 hh => ?_) he hpl
  obtain ⟨vs, H1, I1, r1, v, ev, rp, q1⟩ := hh
  subst ev
  refine ⟨I1.kIn, ?_⟩
  cases r1 with
  | cons rv rn =>
    rename_i v' us'
    cases rn
    show wpAny _ _ (call (.ref C) [v']) _ _ _
    have hlim := I1.nolimit
    have hG := I1.mod.glob.keeps I1.bk
    obtain ⟨mb, hB, hbb⟩ := I1.mod.blt
    have hB := hB.keeps I1.bk
    obtain ⟨hp, g, dr, tk, os⟩ := s1
    refine wpAny_call (PySem.XExc.exc_made T I1.kIn hlim hG hB hbb (by have := hr.dp; omega) (rp.rp rv) fun h' tk' e d M => ?_)
    show MkP X pins σ Q (.ref e) ⟨h', g, dr, tk', os⟩
    obtain ⟨oe, fv, hoe, hc, hd, hdat, h1⟩ := M.obj
    have hns := M.ns
    obtain ⟨G', g1, g2⟩ := restrict h' fun b => decide (b ≠ e)
    have gk : ∀ b, b ≠ e → G'.get? b = h'.get? b := fun b hb => g1 b (decide_eq_true hb)
    have ge : G'.get? e = none := g2 e (by simp)
    have old : ∀ b o, hp.get? b = some o → G'.get? b = some o := fun b o q => (gk b (Nat.ne_of_lt (Nat.lt_of_lt_of_le (Heap.lt_size q) M.new))).trans (M.keep b o q)
    have ob : ObjOk X.prog X.w (upd H1 d (.xd [(fld, v)])) G' d (.xd [(fld, v)]) :=
      ⟨_, hns.at (fun o q => (gk d M.dne).trans q), fun f => relO_one rv f⟩
    have J : Inv X pins σ (upd H1 d (.xd [(fld, v)])) ⟨G', g, dr, tk', os⟩ := I1.laid (t' := tk') old M.dbig ob
    refine ⟨e, oe, fv, ⟨G', g, dr, tk', os⟩, _, .ref C, some d, rfl, J, fun b o q => ?_, ge, hoe, ⟨hc, hd⟩, hdat, h1, ?_, rfl, I1.bare, raises_own T.exC T.tyC, q1 d (I1.hok.fresh M.dbig)⟩
    · by_cases hb : b = e
      · have q' : G'.get? b = some o := q
        rw [hb, ge] at q'; cases q'
      · exact (gk b hb).symm.trans q
    · rw [upd_ne (Ne.symm M.dne)]
      exact I1.hok.fresh M.new
def tRaiseX (C : Addr) (fld : Str) (W : WX) (ta : TA) : TS := fun _ σ H => tMkX C fld ta σ H fun cls d H' => W cls d σ H'
theorem ps_raiseX {a : Expr} {ta : TA} {W : WX} {p pos pos2 : Pos} {k : Nat} (hc : X.calm = true) (T : PySem.XExc.ExTxt X.prog X.K X.mg nm fld msg C fI) (hr : Room (k + 1) X.A) (tk : Takes X W) (ha : PA X [a] ta) (hg : Gl X nm := by rfl) (hd : (nm == ("__debug__" : Str)) = false := by decide)
    (he : starEach (a :: []) X.env = (false, eval a X.env) :: starEach [] X.env := by rfl) (hpl : (backTo pos (starEach [] X.env)).any (·.1) = false := by rfl) :
    PS X (.Raise (some (.Call (.Name nm p) [a] [] pos)) none pos2) (tRaiseX C fld W ta) := ps_raise hc tk (pmk_x T hr ha hg hd he hpl)
end
/-! ### isinstance(e, c), isinstance(e, (c, ..)) of a caught error -/
section
variable {X : Cx} {a : Addr} {oe : Obj} {cls : Value} {d : Option Addr} {pn : List (Addr × Obj)}
inductive ClsRs : List V → List Value → Prop where
  | nil : ClsRs [] []
  | cons {c : Addr} {cs : List V} {us : List Value} (h : ClsRs cs us) : ClsRs (.ref c :: cs) (.ref c :: us)
theorem ClsRs.eq : ∀ {cs : List V} {us : List Value}, ClsRs cs us → ∀ {ws : List Value}, Vals cs ws → ws = us
  | _, _, .nil, _, .nil => rfl
  | _, _, .cons h, _, .cons r rs => by
    cases r
    rw [h.eq rs]
def rIsX (K : PySem.W.Frag) (cls : Value) (d : Option Addr) (a : Addr) : List V → Hp → VK → Prop := fun xs H Q => ∃ (D dd : Addr) (fs : List (Str × V)) (b : Bool), cls = .ref D ∧ d = some dd ∧ H dd = some (.xd fs) ∧ ExcC K D ∧
  ((∃ (c : V) (cv : Value), xs = [.ref a, c] ∧ (∀ u, RelV c u → u = cv) ∧ PySem.W.kitOne K (.ref D) cv = some b) ∨ ∃ (p : Addr) (cs : List V) (us : List Value), xs = [.ref a, .ref p] ∧ H p = some (.tup cs) ∧ ClsRs cs us ∧ PySem.W.kitAny K (.ref D) us = some b) ∧ Q (.bl b) H
theorem call_isX (hz : Zc cls d oe) (hf : ∃ vs, oe.data = .fields vs) : CallR (X.suite a ((a, oe) :: pn)) (.builtin "isinstance") (rIsX X.K cls d a) := by
  intro pins s σ H xs us Q I r h
  obtain ⟨D, dd, fs, b, rfl, rfl, hd, C, hcs, q⟩ := h
  obtain ⟨hget, _⟩ := I.pin (a, oe) (List.mem_append.mpr (.inl List.mem_cons_self))
  obtain ⟨vs, hv⟩ := hf
  have hx : ObjOk X.prog X.w H s.heap dd (.xd fs) := I.hok dd _ hd
  obtain ⟨mA, hns, _⟩ := hx
  obtain ⟨od, ho, _⟩ := lookIn_ns hns
  have J : PySem.W.InstAt s.heap a oe D (some od) := ⟨hget, hz.1, by unfold PySem.W.notCls; rw [hv] <;> rfl, by rw [hz.2]; exact ho⟩
  have cl : (PySem.W.clsIn X.K D).isSome = true := by
    obtain ⟨cd, hc, _⟩ := PySem.W.any_some C.hd
    rw [hc]
    rfl
  have Z := PySem.W.kitx_exc (x := a) (ox := oe) (od := some od) cl C.hg C.hk C.hs C.ha C.hn C.ht C.hm
  rcases hcs with ⟨c, cv, rfl, hcv, e⟩ | ⟨p, cs, us2, rfl, hp, hc, e⟩
  · cases r with
    | cons rx rr =>
      cases rr with
      | cons rt rr =>
        cases rr
        cases rx
        have ec := hcv _ rt
        subst ec
        exact PySem.W.kia_one Z I.kIn J e (fun z => nomatch z) fun tk => ⟨.bl b, H, I.kept (t' := tk) fun _ _ z => z, rfl, q⟩
  · cases r with
    | cons rx rr =>
      cases rr with
      | cons rt rr =>
        cases rr
        cases rx
        cases rt
        obtain ⟨_, its, rv, o, h1, h2, n, h3⟩ := (show ObjOk X.prog X.w H s.heap p (.tup cs) from I.hok p _ hp)
        have ei := hc.eq rv
        subst ei
        obtain ⟨oc, od', oda, osl⟩ := o
        dsimp only at h2 h3
        subst h2 h3
        exact PySem.W.kia_tup Z I.kIn J h1 e (fun z => nomatch z) fun tk => ⟨.bl b, H, I.kept (t' := tk) fun _ _ z => z, rfl, q⟩
end
/-! ### own [ ] and [ ] = within a try -/
section
variable {X : Cx} {CX : CXT} {C f : Addr} {fd : FuncData} {ps : List Str} {sp : Sp} {E : L2.St → XK} {n : Nat} {o i e : Expr} {to ti te : TE} {pos pos' : Pos}
def tIxOS (C : Addr) (sp : Sp) (E : L2.St → XK) (to ti : TE) : TE := fun σ H Q => to σ H fun x H1 => ti σ H1 fun y H2 => ∃ a dx fs, x = .ref a ∧ H2 a = some (.ins C dx fs) ∧ sp [.ref a, y] H2 Q (E σ)
theorem pe_ixOS (ho : PE X o to) (hi : PE X i ti) (F : FnOk X.prog X.w X.K X.mg X.base CX n f fd ps sp) (hs : PySem.W.findIn X.K (.ref C) "__getitem__" = some (some (.ref f))) (hf : PySem.W.fnIn X.K f = true) (hfn : PySem.W.isFn X.K (.ref f) = true)
    (hb : Binds X.K fd ps []) (hx : ∀ σ, PassesAt CX X σ (E σ)) (hr : Room (n + 1) X.A) (hsl : ∀ x v, subscripted i true (.ref x) v = runValue (.builtin "lifetime.subscript" ⟨[.ref x, v], []⟩) := by intro _ _; with_unfolding_all rfl) :
    PE X (.Subscript o i pos) (tIxOS C sp E to ti) := by
  refine ⟨fun pins s σ H Q I h => ?_⟩
  refine Subscript_ (thn (ho.run pins s σ H _ I h) fun v s1 ⟨x, H1, I1, r1, q1⟩ => thn (hi.run pins s1 σ H1 _ I1 q1) fun u s2 ⟨y, H2, I2, r2, q2⟩ => ?_)
  obtain ⟨a, dx, fs, rfl, ha, hsp⟩ := q2
  cases r1
  obtain ⟨mA, J, _⟩ := ins_get I2.hok ha
  obtain ⟨od, J, _⟩ := J.look
  obtain ⟨m, hF⟩ := I2.fr
  refine PySem.W.sub_K hF I2.ok.mod.kin J hs hf hfn ?_ (hsl _ _)
  have hl : ([Value.ref a, u] ++ []).length = ps.length := F.len _ _ _ _ hsp
  refine wpAny_call (codeAny_mono (F.run X.A.in1 X.stack s2 H2 ⟨[.ref a, u], []⟩ [.ref a, u] [.ref a, y] Q (E σ) hr.in1 I2.env0.in1 (hb s2 [.ref a, u] I2.kIn hl) (.cons rfl (.cons r2 .nil)) hsp) fun r s' hq => ?_)
  cases r with
  | error e => exact hx σ pins H2 s2 e s' I2 hq
  | ok fl =>
    cases fl with
    | ret u => exact I2.after hq
    | next => exact False.elim hq
    | brk => exact False.elim hq
    | cont => exact False.elim hq
def gSubS (C : Addr) (sp : Sp) (E : L2.St → XK) (to ti : TE) : TG := fun v σ H Q => to σ H fun x H1 => ti σ H1 fun y H2 => ∃ a dx fs, x = .ref a ∧ H2 a = some (.ins C dx fs) ∧ sp [.ref a, y, v] H2 (fun _ H' => Q σ H') (E σ)
theorem pg_subOS (ho : PE X o to) (hi : PE X i ti) (F : FnOk X.prog X.w X.K X.mg X.base CX n f fd ps sp) (hq : PySem.W.noSeq X.K C = true) (hs : PySem.W.findIn X.K (.ref C) "__setitem__" = some (some (.ref f))) (hfn : PySem.W.isFn X.K (.ref f) = true)
    (hb : Binds X.K fd ps []) (hx : ∀ σ, PassesAt CX X σ (E σ)) (hr : Room n X.A)
    (ha : ∀ v, assign (.Subscript o i pos) X.env v = (do
      let ov ← holding [v] (eval o X.env)
      let iv ← holding [v, ov] (eval i X.env)
      standAt pos
      holding [v, ov, iv] (setItem ov iv v)
      release [v, ov, iv] []) := by intro _; rfl) : PG X (.Subscript o i pos) (gSubS C sp E to ti) := by
  refine ⟨fun pins s σ H v u Q I r h => ?_⟩
  rw [ha]
  refine wpAny_bind (wpAny_holding (thn (ho.run pins s σ H _ I h) fun ov s1 ⟨x, H1, I1, r1, q1⟩ => ?_))
  refine wpAny_bind (wpAny_holding (thn (hi.run pins s1 σ H1 _ I1 q1) fun iv s2 ⟨y, H2, I2, r2, q2⟩ => ?_))
  obtain ⟨a, dx, fs, rfl, ha2, hsp⟩ := q2
  cases r1
  obtain ⟨mA, J, _⟩ := ins_get I2.hok ha2
  obtain ⟨od, J, _⟩ := J.look
  obtain ⟨m, hF⟩ := I2.fr
  refine wpAny_bind (wpAny_standAt (wpAny_bind (wpAny_holding (PySem.W.ksp_setItem hF I2.ok.mod.kin J hq hs hfn ?_))))
  refine wpAny_mono (run_fnS (us := [.ref a, iv, u]) (vs := [.ref a, y, v]) (E := E) F hr hb (hx σ) I2 (.cons rfl (.cons r2 (.cons r .nil))) hsp) (fun r s' q => ?_) fun _ _ e => e
  obtain ⟨z, H', I', rz, q⟩ := q
  exact wpAny_release ⟨σ, H', I', q⟩
end
end XL
set_option Elab.async false
set_option linter.all false
set_option maxRecDepth 100000
set_option maxHeartbeats 4000000
/-! XOwnIt: list(o), o an object whose own __iter__ hands on iter(t), t a tuple. -/
namespace XL
open PySem PySem.Spec PyProof.Rows L2
/-- an iterator over the tuple at t, the next place is i -/
def ItT (t it : Addr) (i : Nat) : HO := .ext fun h => IsTupIter h it t i
/-- .. that has ended -/
def ItTE (it : Addr) : HO := .ext fun h => ∃ o, h.get? it = some o
theorem itT_ok {P : Program} {w : World} {H : Hp} {h : Heap} {t it : Addr} {i : Nat} (e : IsTupIter h it t i) : ObjOk P w H h it (ItT t it i) := by
  obtain ⟨o, h1, h2⟩ := e
  exact ⟨⟨o, h1, h2⟩, ⟨_, h1⟩, fun g1 g2 ⟨o', q1, q2⟩ k => ⟨o', k _ q1, q2⟩⟩
theorem itTE_ok {P : Program} {w : World} {H : Hp} {h : Heap} {it : Addr} {o : Obj} (e : h.get? it = some o) : ObjOk P w H h it (ItTE it) := ⟨⟨o, e⟩, ⟨_, e⟩, fun g1 g2 ⟨o', q1⟩ k => ⟨o', k _ q1⟩⟩
section
variable {X : Cx} {pins : List (Addr × Obj)} {σ : L2.St} {H : Hp} {s : Shared}
theorem itT_get {t it : Addr} {i : Nat} (I : Inv X pins σ H s) (e : H it = some (ItT t it i)) : IsTupIter s.heap it t i := (I.hok it _ e).1
theorem call_iter_tup {M : Program} {w : World} {A : Around} {E : Value → Shared → Prop} {s : Shared} {t : Addr} {items : Array Value} {Q : Value → Shared → Prop} (ht : IsTup s.heap t items)
    (h : Q (.ref s.heap.objs.size) { s with heap := s.heap.push { cls := .type "tuple_iterator", data := .fields #[.ref t, .int 0 0] } }) : wpAny (model M w) A (call (.builtin "iter") [.ref t]) Q E s := by
  refine Calls.call_function_entry (by decide +kernel) (by decide +kernel) PySem.W.kdk_entry_iter (PySem.W.kdk_args_iter _) ?_
  unfold Builtin.«iter»
  refine wpAny_bind (m := someArgs "iter" 1 2 _) (wpAny_of_eq (a := [Value.ref t]) (by first | rfl | kernel_rfl!) ?_)
  show wpAny _ _ (pyIter (.ref t) >>= _) _ _ _
  refine wpAny_bind (iter_tuple ht ?_)
  exact wpAny_pure ⟨_, rfl, h⟩
/-- iter(t) -/
def rIterT (K : PySem.W.Frag) : List V → Hp → VK → Prop := fun xs H Q => ∃ (t : Addr) (zs : List V), xs = [.ref t] ∧ SqT K H t zs ∧ ∀ it, H it = none → Q (.ref it) (upd H it (ItT t it 0))
theorem call_iterT : CallR X (.builtin "iter") (rIterT X.K) := by
  intro pins s σ H xs us Q I r h
  obtain ⟨t, zs, rfl, hq, q⟩ := h
  obtain rfl := Vals.ref1 r
  obtain ⟨its, rv, pl, hz⟩ := I.tuple hq
  refine call_iter_tup pl ?_
  exact ⟨.ref s.heap.objs.size, _, I.laid (t' := s.toks) (fun b u e => Heap.get?_push_of_some _ e) (Nat.le_refl _) (itT_ok ⟨_, Heap.get?_push_size _ rfl, rfl, rfl⟩), rfl, q _ (I.hok.fresh (Nat.le_refl _))⟩
theorem call_iterTK (K : PySem.W.Frag) (h : X.K = K := by rfl) : CallR X (.builtin "iter") (rIterT K) := h ▸ call_iterT
theorem sqT_upd {K : PySem.W.Frag} {H : Hp} {t x : Addr} {zs : List V} {o : HO} (h : SqT K H t zs) (hx : ∀ o' xs, H x ≠ some (.tup xs) ∧ H x ≠ some (.frz o' (.tup xs))) : SqT K (upd H x o) t zs := by
  rcases h with (h | ⟨ob, h⟩) | h
  · have ne : t ≠ x := fun z => (hx default zs).1 (by rw [← z]; exact h)
    exact .inl (.inl (by rw [upd_ne ne]; exact h))
  · have ne : t ≠ x := fun z => (hx ob zs).2 (by rw [← z]; exact h)
    exact .inl (.inr ⟨ob, by rw [upd_ne ne]; exact h⟩)
  · exact .inr h
/-- the end of a tuple: the iterator itself stays there -/
theorem next_tup_end {P : Program} {w : World} {A : Around} {E : Value → Shared → Prop} {s : Shared} {it t : Addr} {i : Nat} {items : Array Value} {Q : Option Value → Shared → Prop} (hh : A.handled = none)
    (hit : IsTupIter s.heap it t i) (ht : IsTup s.heap t items) (hx : items[i]? = none)
    (hQ : ∀ h', Heap.ExtBut it s.heap h' → (∃ o, h'.get? it = some o) → Q none { s with heap := h' }) : wpAny (model P w) A (pyNext (.ref it)) Q E s := by
  obtain ⟨o, ho, hc, hd⟩ := id hit
  obtain ⟨ol, hol, _, nl, hdl⟩ := ht
  unfold pyNext
  refine wpAny_bind (wpAny_attempt (wpAny_callSpecial?_slot (name := Str.ofString "__next__") hit.typeIs slot_tupleiter_next (wpAny_call_entry slot_tupleiter_next hit.typeIs entry_tupleiter_next ?_ (args_tupleiter_next _))))
  show wpAny _ _ (field (.ref it) 0 >>= _) _ _ s
  refine wpAny_bind (wpAny_field ho hd (x := .ref t) rfl (PySem.W.KFB.if_not rfl ?_))
  show wpAny _ _ (field (.ref it) 1 >>= _) _ _ s
  refine wpAny_bind (wpAny_field ho hd (x := .int i 0) rfl ?_)
  show wpAny _ _ (seqItems? (.ref t) >>= _) _ _ s
  refine wpAny_bind (wpAny_seqItems hol hdl ?_)
  simp only [Int.toNat_natCast, hx]
  refine wpAny_bind (wpAny_rule (wpAny_bind (wpAny_setField ho hd (by simp) ?_)))
  show wpAny _ _ (newExc (.type "StopIteration") [] >>= _) _ _ _
  refine wpAny_bind ?_
  simp only [newExc, newTuple]
  refine wpAny_bind (wpAny_newObj_type ?_ (by size_fits))
  refine wpAny_bind (m := firstArgMember _ _) (wpAny_of_eq (a := Value.none) (by first | rfl | (simp only [firstArgMember]; rfl)) ?_)
  refine wpAny_newObj_type ?_ (by size_fits)
  simp only [raiseNew]
  refine wpAny_bind (wpAny_handled ?_)
  first | rw [show A.in1.handled = none from hh] | rw [hh]
  refine wpAny_bind (wpAny_pure (wpAny_throw ?_))
  refine wpAny_bind (wpAny_isInstance (T := "StopIteration") (b := true) ⟨_, Heap.get?_push_size _ rfl, rfl⟩ isSubtype_stop ?_)
  exact wpAny_pure (hQ _ (((Heap.SameBut.update ..).extBut.push _).push _) ⟨_, Heap.get?_push_of_some _ (Heap.get?_push_of_some _ (Heap.get?_update_self _ ho (Obj.isFreed_of_fields (Obj.data_mapFields hd _))))⟩)
/-- the loop that fills the list at q -/
theorem loop_tup {A1 : Around} {Rs : Result → Shared → Prop} {q it t : Addr} {zs : List V} (hd : A1.in1.handled = none) (hne : q ≠ it) :
    ∀ (k i : Nat) (H : Hp) (s : Shared), zs.length - i = k → i ≤ zs.length → Inv X pins σ H s → H it = some (ItT t it i) → SqT X.K H t zs → H q = some (.lst (zs.take i)) →
      (∀ s', Inv X pins σ (upd (upd H it (ItTE it)) q (.lst zs)) s' → Rs (.ok (.ret .none)) s') → codeAny (model X.prog X.w) A1 (.builtin "list.extend.loop" ⟨[.ref q, .ref it, .none], []⟩) Rs s := by
  intro k
  induction k with
  | zero =>
    intro i H s hk hi I hit ht hq hR
    obtain ⟨its, rv, pl, hz⟩ := I.tuple ht
    have hin : zs.length = its.length := rv.length
    have mu : Mut (H it) := by rw [hit]; exact True.intro
    refine codeAny_builtin PySem.F.entry_extend_loop ?_
    rw [Around.under_plainId PySem.F.plain_extend_loop _]
    show wpAny _ A1.in1 (pyNext (.ref it) >>= _) _ _ s
    have ei : i = zs.length := by omega
    refine wpAny_bind (next_tup_end hd (itT_get I hit) pl (by rw [List.getElem?_toArray]; exact List.getElem?_eq_none (by omega)) fun h' eb ⟨o, ho⟩ => wpAny_pure ?_)
    have I2 : Inv X pins σ (upd H it (ItTE it)) { s with heap := h' } := I.write (x := it) (e := it) (t' := s.toks) mu (.inl rfl) (fun b o nb z => eb b o nb z) ⟨_, ho⟩ (itTE_ok ho)
    refine hR _ ?_
    have e : upd (upd H it (ItTE it)) q (.lst zs) = upd H it (ItTE it) := by
      funext b
      by_cases hb : b = q
      · rw [hb, upd_same, upd_ne hne, hq, ei, List.take_length]
      · rw [upd_ne hb]
    rw [e]
    exact I2
  | succ k ih =>
    intro i H s hk hi I hit ht hq hR
    obtain ⟨its, rv, pl, hz⟩ := I.tuple ht
    have hin : zs.length = its.length := rv.length
    have mu : Mut (H it) := by rw [hit]; exact True.intro
    have hlt : i < zs.length := by omega
    have hzi := List.getElem?_eq_getElem hlt
    obtain ⟨u, hu, ru⟩ := rv.get hzi
    refine codeAny_builtin PySem.F.entry_extend_loop ?_
    rw [Around.under_plainId PySem.F.plain_extend_loop _]
    show wpAny _ A1.in1 (pyNext (.ref it) >>= _) _ _ s
    refine wpAny_bind (next_tuple_item (itT_get I hit) pl (by rw [List.getElem?_toArray]; exact hu) fun h' hit' sb => ?_)
    obtain ⟨o, ho, _⟩ := id hit'
    have I2 : Inv X pins σ (upd H it (ItT t it (i + 1))) { s with heap := h' } := I.write (x := it) (e := it) (t' := s.toks) mu (.inl rfl) (fun b o nb z => (sb.2 b nb).trans z) ⟨_, ho⟩ (itT_ok hit')
    have hq2 : upd H it (ItT t it (i + 1)) q = some (.lst (zs.take i)) := by rw [upd_ne hne]; exact hq
    show wpAny _ A1.in1 (updateSeq q (·.push u) >>= _) _ _ _
    obtain ⟨z, its2, c, r2, hl, e⟩ := I2.lstM hq2
    have l2 : its2.length ≤ 16777215 := by
      rw [← hl, List.length_take]
      have := hz
      rw [sizeLine_eq] at this
      omega
    refine wpAny_bind (wpAny_updateSeq e rfl (wpAny_pure ⟨plainId_quiet PySem.F.plain_extend_loop _, ?_⟩) (by rw [List.size_toArray, sizeLine_eq]; omega) (by show (its2.toArray.push u).size ≤ sizeLine + 1; rw [Array.size_push, List.size_toArray, sizeLine_eq]; omega))
    have I3 := I2.lset (f := (·.push u)) (its' := its2 ++ [u]) (ys := zs.take i ++ [zs[i]]) (t' := s.toks) hq2 e (by simp) (r2.append (.cons ru .nil)) (by rw [List.length_append, List.length_singleton, List.length_take, sizeLine_eq]; rw [sizeLine_eq] at hz; omega)
    refine ih (i + 1) _ _ (by omega) (by omega) I3 ?_ ?_ ?_ fun s' I4 => hR s' ?_
    · rw [upd_ne (Ne.symm hne), upd_same]
    · exact sqT_upd (sqT_upd ht fun o' xs => ⟨by rw [hit]; exact fun z => (nomatch z), by rw [hit]; exact fun z => (nomatch z)⟩) fun o' xs => ⟨by rw [hq2]; exact fun z => (nomatch z), by rw [hq2]; exact fun z => (nomatch z)⟩
    · rw [upd_same, take_snoc hzi]
    · have e4 : upd (upd (upd (upd H it (ItT t it (i + 1))) q (.lst (zs.take i ++ [zs[i]]))) it (ItTE it)) q (.lst zs) = upd (upd H it (ItTE it)) q (.lst zs) := by
        funext b
        by_cases hb : b = q
        · rw [hb, upd_same, upd_same]
        · rw [upd_ne hb, upd_ne hb]
          by_cases hb2 : b = it
          · rw [hb2, upd_same, upd_same]
          · rw [upd_ne hb2, upd_ne hb2, upd_ne hb, upd_ne hb2]
      rw [← e4]
      exact I4
/-- list(o) -/
def rListIt (K : PySem.W.Frag) (C : Addr) (sp : Sp) (E : XK) : List V → Hp → VK → Prop := fun xs H Q => ∃ a dx fs, xs = [.ref a] ∧ H a = some (.ins C dx fs) ∧
  ∀ q, H q = none → sp [.ref a] (upd H q (.lst [])) (fun v H1 => ∃ (it t : Addr) (zs : List V), v = .ref it ∧ H1 it = some (ItT t it 0) ∧ SqT K H1 t zs ∧ H1 q = some (.lst []) ∧ (∃ dx' fs', H1 a = some (.ins C dx' fs')) ∧ Q (.ref q) (upd (upd H1 it (ItTE it)) q (.lst zs))) E
theorem hint_own {M : Model} {A : Around} {E : Value → Shared → Prop} {s : Shared} {Q : Bool → Shared → Prop} {K : PySem.W.Frag} {C a : Addr} {ox : Obj} {od : Option Obj} (h1 : PySem.W.findIn K (.ref C) "__len__" = some none) (h2 : PySem.W.findIn K (.ref C) "__length_hint__" = some none)
    (hK : K.In s.heap) (J : PySem.W.InstAt s.heap a ox C od) (h : Q true s) : wpAny M A (Builtin.List.listLengthHint (.ref a)) Q E s := by
  unfold Builtin.List.listLengthHint
  refine wpAny_bind (wpAny_bind (J.type.here ((PySem.W.looks_findIn hK h1).here (PySem.W.KFB.if_not rfl (PySem.W.KFB.if_not rfl ?_)))))
  exact wpAny_bind (wpAny_bind (J.type.here ((PySem.W.looks_findIn hK h2).here (wpAny_pure h))))
theorem call_listIt {C f : Addr} {fd : FuncData} {ps : List Str} {sp : Sp} {E : XK} {n : Nat} {CX : CXT} (hs : PySem.W.findIn X.K (.ref C) "__iter__" = some (some (.ref f))) (hfn : PySem.W.isFn X.K (.ref f) = true) (n1 : PySem.W.findIn X.K (.ref C) "__len__" = some none) (n2 : PySem.W.findIn X.K (.ref C) "__length_hint__" = some none)
    (F : FnOk X.prog X.w X.K X.mg X.base CX n f fd ps sp) (hb : Binds X.K fd ps []) (hx : Passes CX X E) (hr : Room (n + 2) X.A) : CallR X (.type "list") (rListIt X.K C sp E) := by
  intro pins s σ H xs us Q I rv h
  obtain ⟨a, dx, fs, rfl, ha, hq⟩ := h
  obtain ⟨u, rfl, ru⟩ := rv.one
  cases ru
  have sb : Sub X n X.A.in1.in1 := (Sub.in1 (Sub.in1 (⟨hr, rfl⟩ : Sub X (n + 2) X.A)))
  refine callType_codes (Q₁ := fun obj s₁ => obj = .ref s.heap.objs.size ∧ s₁ = { s with heap := s.heap.push { cls := .type "list", data := .seq #[] } }) PySem.F.called_list (PySem.F.typeCall_list_1 _) PySem.F.entry_list_init
    (code_list_new _ ⟨rfl, rfl⟩) fun obj s₁ h₁ => ?_
  obtain ⟨rfl, rfl⟩ := h₁
  have hS : (s.heap.push { cls := .type "list", data := .seq #[] }).get? s.heap.objs.size = some { cls := .type "list", data := .seq #[] } := Heap.get?_push_size _ rfl
  refine ⟨⟨_, hS, rfl⟩, PySem.F.args_list_init_2 _ _, ?_⟩
  have fr : H s.heap.objs.size = none := I.hok.fresh (Nat.le_refl _)
  have hsp := hq _ fr
  have I1 : Inv X pins σ (upd H s.heap.objs.size (.lst [])) { s with heap := s.heap.push { cls := .type "list", data := .seq #[] } } := I.lnew (its := []) (t' := s.toks) .nil (Nat.zero_le _)
  show wpAny _ _ (do let old ← Builtin.List.listItems (.ref s.heap.objs.size); Builtin.List.listUpdate (.ref s.heap.objs.size) (fun _ => #[]); letGo old.toList.reverse; Builtin.List.listExtendWith (.ref s.heap.objs.size) (.ref a) .none) _ _ _
  refine wpAny_bind ?_
  unfold Builtin.List.listItems
  refine wpAny_bind (wpAny_seqItems hS rfl (wpAny_pure ?_))
  show wpAny _ _ (updateSeq s.heap.objs.size (fun _ => #[]) >>= fun _ => letGo (#[] : Array Value).toList.reverse >>= fun _ => Builtin.List.listExtendWith (.ref s.heap.objs.size) (.ref a) .none) _ _ _
  refine wpAny_bind (wpAny_updateSeq hS rfl ?_)
  have I2 := I1.lset (f := fun _ => #[]) (its := []) (its' := []) (ys := []) (t' := s.toks) upd_same hS rfl .nil (Nat.zero_le _)
  rw [upd_upd] at I2
  refine wpAny_bind (wpAny_letGo ?_)
  have ha2 : upd H s.heap.objs.size (.lst []) a = some (.ins C dx fs) := by rw [upd_ne (ne_of_none ha fr)]; exact ha
  have hne : s.heap.objs.size ≠ a := Ne.symm (ne_of_none ha fr)
  generalize hH2 : upd H s.heap.objs.size (.lst []) = H2 at *
  generalize s.heap.objs.size = q at *
  obtain ⟨mA, J, _⟩ := ins_get I2.hok ha2
  obtain ⟨od, J, _⟩ := J.look
  obtain ⟨m0, hF⟩ := I2.fr
  unfold Builtin.List.listExtendWith
  refine wpAny_bind (J.type.here ?_)
  have h1 : Builtin.List.listSameRef (.ref q) (.ref a) = false := by simp [Builtin.List.listSameRef, hne]
  have h2 : (Value.ref C == Value.type "list") = false := rfl
  have h3 : (Value.ref C == Value.type "tuple") = false := rfl
  simp only [h1, h2, h3, Bool.or_false, Bool.false_eq_true, if_false]
  refine wpAny_bind (PySem.W.owit_iter hF I2.ok.mod.kin J hs hfn ?_)
  have e0 : ∀ {s : Shared} {H : Hp}, Inv X pins σ H s → Env0 X.prog X.w X.K X.mg X.base X.A.in1.in1 X.stack s H := fun {s H} I => by
    have e := I.env0
    exact ⟨by rw [sb.fr]; exact e.frames, e.mod, e.bs, e.bsz, e.funs, e.frf, e.hok, e.bare⟩
  have hl := F.len _ _ _ _ hsp
  have r2 : Vals [V.ref a] [Value.ref a] := .cons rfl .nil
  refine wpAny_call (codeAny_mono (F.run X.A.in1.in1 X.stack _ _ ⟨[.ref a], []⟩ [.ref a] [.ref a] _ E sb.room (e0 I2) (by
    have := hb _ [.ref a] I2.kIn (by simpa using hl)
    simpa using this) r2 hsp) fun r s' hq' => ?_)
  cases r with
  | error e => exact hx pins σ _ _ e s' I2 hq'
  | ok fl =>
    cases fl with
    | next => exact False.elim hq'
    | brk => exact False.elim hq'
    | cont => exact False.elim hq'
    | ret u =>
      obtain ⟨v, H', I', rv, it, t, zs, ev, hit, ht, hqq, ⟨dx', fs', ha'⟩, hQ⟩ := I2.after hq'
      subst ev
      cases rv
      have hT : s'.TypeIs (.ref it) "tuple_iterator" := (itT_get I' hit).typeIs
      have hqi : q ≠ it := fun z => by
        rw [z, hit] at hqq
        exact (nomatch hqq)
      show wpAny _ _ (specialOf (.ref it) "__next__") _ _ _
      refine wpAny_specialOf hT slot_tupleiter_next.lookup ?_
      obtain ⟨mA', J', _⟩ := ins_get I'.hok ha'
      obtain ⟨od', J', _⟩ := J'.look
      refine wpAny_bind (wpAny_holding (hint_own n1 n2 I'.kIn J' ?_))
      have go : ∀ s'', Inv X pins σ H' s'' → codeAny (model X.prog X.w) X.A.in1 (.builtin "list.extend.loop" ⟨[.ref q, .ref it, .none], []⟩) (wants (fun r s₂ => r = .none ∧ EP X pins σ Q (.ref q) s₂) X.xe) s'' := fun s'' I'' =>
        loop_tup (t := t) (zs := zs) sb.room.hd hqi zs.length 0 H' s'' (by simp) (Nat.zero_le _) I'' hit ht (by rw [hqq]; rfl) fun s3 I3 => ⟨rfl, .ref q, _, I3, rfl, hQ⟩
      obtain ⟨z, its, k, r3, hl3, e3⟩ := I'.lstM hqq
      cases r3
      refine wpAny_ite_split (fun _ => ?_) (fun _ => wpAny_pure ⟨plainId_quiet PySem.F.plain_extend_loop _, go s' I'⟩)
      refine wpAny_bind (wpAny_rule ?_)
      refine wpAny_bind ?_
      show wpAny _ _ (updateSeq q (·.push .none) >>= fun _ => updateSeq q (·.pop)) _ _ _
      refine wpAny_bind (wpAny_updateSeq e3 rfl ?_)
      have I3 := I'.lset (f := (·.push Value.none)) (its' := [Value.none]) (ys := [.non]) (t' := s'.toks) hqq e3 (by simp) (.cons rfl .nil) (by rw [List.length_singleton, sizeLine_eq]; decide)
      obtain ⟨z4, its4, k4, r4, hl4, e4⟩ := I3.lstM upd_same
      obtain ⟨u4, rfl, ru4⟩ := r4.one
      refine wpAny_updateSeq e4 rfl ?_ (by show 1 ≤ sizeLine; rw [sizeLine_eq]; decide) (by show 0 ≤ sizeLine + 1; exact Nat.zero_le _)
      have I4 := I3.lset (f := (·.pop)) (its := [u4]) (its' := []) (ys := []) (t' := s'.toks) upd_same e4 (by rfl) .nil (Nat.zero_le _)
      rw [upd_upd] at I4
      have hH : upd H' q (.lst []) = H' := by
        funext b
        by_cases hb : b = q
        · rw [hb, upd_same, hqq]
        · rw [upd_ne hb]
      rw [hH] at I4
      exact wpAny_pure ⟨plainId_quiet PySem.F.plain_extend_loop _, go _ I4⟩
end
end XL
set_option Elab.async false
set_option linter.all false
set_option maxRecDepth 100000
set_option maxHeartbeats 4000000
/-! XOr: two rules for one piece of text; what classes say of an own error. -/
namespace XL
open PySem PySem.Spec PyProof.Rows L2
section
variable {X : Cx}
theorem pe_or {e : Expr} {t u : TE} (h : PE X e t) (k : PE X e u) : PE X e (fun σ H Q => t σ H Q ∨ u σ H Q) := ⟨fun pins s σ H Q I q => q.elim (h.run pins s σ H Q I) (k.run pins s σ H Q I)⟩
theorem pg_or {e : Expr} {t u : TG} (h : PG X e t) (k : PG X e u) : PG X e (fun v σ H Q => t v σ H Q ∨ u v σ H Q) := ⟨fun pins s σ H v w Q I r q => q.elim (h.run pins s σ H v w Q I r) (k.run pins s σ H v w Q I r)⟩
theorem cr_or {f : Value} {t u : List V → Hp → VK → Prop} (h : CallR X f t) (k : CallR X f u) : CallR X f (fun xs H Q => t xs H Q ∨ u xs H Q) := fun pins s σ H xs us Q I r q => q.elim (h pins s σ H xs us Q I r) (k pins s σ H xs us Q I r)
end
section
variable {P : Program} {w : World} {K : PySem.W.Frag} {mg : Str → Option Value} {base : Heap} {CX : CXT} {k : Nat} {f : Addr} {fd : FuncData} {ps : List Str} {sp sq : Sp}
theorem fn_or (h : FnOk P w K mg base CX k f fd ps sp) (h2 : FnOk P w K mg base CX k f fd ps sq) : FnOk P w K mg base CX k f fd ps (fun vs H Q E => sp vs H Q E ∨ sq vs H Q E) :=
  ⟨fun vs H Q E q => q.elim (h.len vs H Q E) (h2.len vs H Q E), fun A outer s H args us vs Q E hr he hb hv q => q.elim (h.run A outer s H args us vs Q E hr he hb hv) (h2.run A outer s H args us vs Q E hr he hb hv)⟩
end
theorem kit_of {K : PySem.W.Frag} {D C : Addr} {b : Bool} (hne : (Value.ref D == Value.ref C) = false) (h2 : PySem.W.isClsIn K C = true) (h3 : PySem.W.typeIn K (.ref C) = some (.type "type")) (h4 : PySem.W.subIn K (.ref D) (.ref C) = some b) : PySem.W.kitOne K (.ref D) (.ref C) = some b := by
  have e2 : ((PySem.W.clsIn K C).isSome && PySem.W.typeIn K (.ref C) == some (.type "type")) = true := by
    have h2' : (PySem.W.clsIn K C).isSome = true := h2
    rw [h2', h3]
    rfl
  show (if (Value.ref D == Value.ref C) = true then some true else (if ((PySem.W.clsIn K C).isSome && PySem.W.typeIn K (.ref C) == some (.type "type")) = true then PySem.W.subIn K (.ref D) (.ref C) else none)) = some b
  rw [if_neg (by rw [hne]; decide), if_pos e2]
  exact h4
theorem exm_of {K : PySem.W.Frag} {S : Addr} {cls : Value} {b : Bool} (h1 : PySem.W.subIn K (.ref S) (.type "BaseException") = some true) (h2 : PySem.W.isClsIn K S = true) (h3 : PySem.W.typeIn K (.ref S) = some (.type "type")) (h4 : PySem.W.subIn K cls (.ref S) = some b) : PySem.W.exmOne K cls (.ref S) = some b := by
  have e1 : (PySem.W.subIn K (.ref S) (.type "BaseException") == some true) = true := by rw [h1] <;> rfl
  have e2 : ((PySem.W.clsIn K S).isSome && PySem.W.typeIn K (.ref S) == some (.type "type")) = true := by
    have h2' : (PySem.W.clsIn K S).isSome = true := h2
    rw [h2', h3] <;> rfl
  show (if (PySem.W.subIn K (.ref S) (.type "BaseException") == some true) = true then (if ((PySem.W.clsIn K S).isSome && PySem.W.typeIn K (.ref S) == some (.type "type")) = true then PySem.W.subIn K cls (.ref S) else none) else none) = some b
  rw [if_pos e1, if_pos e2]
  exact h4
end XL
set_option Elab.async false
set_option linter.all false
set_option maxRecDepth 100000
set_option maxHeartbeats 4000000
/-! XTxt: texts of small letters; a name that is not used. -/
namespace XL
open PySem PySem.Spec PyProof.Rows L2
def LS : Str := "abcdefghijklmnopqrstuvwxyz"
structure Lt (a b : Nat) (z : Str) : Prop where
  lo : a ≤ z.length
  hi : z.length ≤ b
  ch : ∀ c ∈ z.cps.toList, c ∈ LS.cps.toList
theorem len_tl (z : Str) : z.length = z.cps.toList.length := by
  show z.cps.size = _
  rw [Array.length_toList]
theorem Lt.one {c : Nat} (h : c ∈ LS.cps.toList) : Lt 1 1 ⟨#[c]⟩ := ⟨Nat.le_refl _, Nat.le_refl _, fun d hd => by
  have : d = c := by simpa using hd
  rw [this]
  exact h⟩
theorem Lt.wide {a b a' b' : Nat} {z : Str} (h : Lt a b z) (h1 : a' ≤ a) (h2 : b ≤ b') : Lt a' b' z := ⟨Nat.le_trans h1 h.lo, Nat.le_trans h.hi h2, h.ch⟩
theorem app_len (x y : Str) : (x ++ y).length = x.length + y.length := Str.length_append x y
theorem app_tl (x y : Str) : (x ++ y).cps.toList = x.cps.toList ++ y.cps.toList := by
  rw [Str.cps_append]
  simp
theorem Lt.app {a b c d : Nat} {x y : Str} (h : Lt a b x) (k : Lt c d y) : Lt (a + c) (b + d) (x ++ y) := by
  have h1 := h.lo; have h2 := h.hi; have h3 := k.lo; have h4 := k.hi
  refine ⟨by rw [app_len]; omega, by rw [app_len]; omega, fun e he => ?_⟩
  rw [app_tl] at he
  rcases List.mem_append.mp he with z | z
  · exact h.ch e z
  · exact k.ch e z
theorem cut_mem {z : Str} {lo hi : Option Int} {c : Nat} (h : c ∈ (cutS z lo hi).cps.toList) : c ∈ z.cps.toList := by
  have h2 : c ∈ (z.cps.toList.drop (HT.sIx z.length 0 lo)).take (HT.sIx z.length z.length hi - HT.sIx z.length 0 lo) := by simpa [cutS] using h
  exact List.mem_of_mem_drop (List.mem_of_mem_take h2)
theorem cut_to_len (z : Str) (k : Nat) : (cutS z none (some (k : Int))).length = min k z.length := by
  rw [len_tl]
  show ((z.cps.toList.drop (HT.sIx z.length 0 none)).take (HT.sIx z.length z.length (some (k : Int)) - HT.sIx z.length 0 none)).toArray.toList.length = _
  rw [HT.sIx_nat, HT.sIx_none]
  rw [Nat.sub_zero, List.drop_zero, List.length_take, ← len_tl]
  omega
theorem cut_from_len (z : Str) (k : Nat) (h : k ≤ z.length) : (cutS z (some (k : Int)) none).length = z.length - k := by
  rw [len_tl]
  show ((z.cps.toList.drop (HT.sIx z.length 0 (some (k : Int)))).take (HT.sIx z.length z.length none - HT.sIx z.length 0 (some (k : Int)))).toArray.toList.length = _
  rw [HT.sIx_nat, HT.sIx_none, List.length_take, List.length_drop, ← len_tl]
  omega
theorem Lt.to {a b : Nat} {z : Str} (h : Lt a b z) (k : Nat) : Lt (min k a) (min k b) (cutS z none (some (k : Int))) := by
  have h1 := h.lo; have h2 := h.hi
  exact ⟨by rw [cut_to_len]; omega, by rw [cut_to_len]; omega, fun c hc => h.ch c (cut_mem hc)⟩
theorem joinL_nil : ∀ ps : List (List Nat), TL.joinL [] ps = ps.flatten
  | [] => rfl
  | [p] => by simp [TL.joinL]
  | p :: q :: r => by
    show p ++ ([] ++ TL.joinL [] (q :: r)) = _
    rw [joinL_nil (q :: r)]
    simp
theorem Lt.join {ys : List Str} (h : ∀ y ∈ ys, Lt 1 1 y) : Lt ys.length ys.length (Txt.join "" ys) := by
  have e : (Txt.join "" ys).cps.toList = (ys.map fun y => y.cps.toList).flatten := by
    rw [TL.join_eq]
    exact (TL.tl_join "" ys).trans (joinL_nil _)
  have el : ∀ {ys : List Str}, (∀ y ∈ ys, Lt 1 1 y) → ((ys.map fun y => y.cps.toList).flatten).length = ys.length := by
    intro ys
    induction ys with
    | nil => intro _; rfl
    | cons y r ih =>
      intro h
      have h1 := h y List.mem_cons_self
      have z := ih fun y hy => h y (List.mem_cons_of_mem _ hy)
      have l1 := h1.lo; have l2 := h1.hi
      rw [len_tl] at l1 l2
      rw [List.map_cons, List.flatten_cons, List.length_append, z, List.length_cons]
      omega
  have l := el h
  refine ⟨by rw [len_tl, e, l]; exact Nat.le_refl _, by rw [len_tl, e, l]; exact Nat.le_refl _, fun c hc => ?_⟩
  rw [e] at hc
  obtain ⟨p, hp, hcp⟩ := List.mem_flatten.mp hc
  obtain ⟨y, hy, rfl⟩ := List.mem_map.mp hp
  exact (h y hy).ch c hcp
theorem sum_ones : ∀ {ys : List Str}, (∀ y ∈ ys, Lt 1 1 y) → (ys.map (·.length)).sum = ys.length
  | [], _ => rfl
  | y :: r, h => by
    have h1 := h y List.mem_cons_self
    have z := sum_ones fun y hy => h y (List.mem_cons_of_mem _ hy)
    have l1 := h1.lo; have l2 := h1.hi
    rw [List.map_cons, List.sum_cons, z, List.length_cons]
    omega
/-! ### one that is not used -/
theorem nd_sub {α : Type} [DecidableEq α] : ∀ {xs ys : List α}, xs.Nodup → (∀ x ∈ xs, x ∈ ys) → xs.length ≤ ys.length
  | [], _, _, _ => Nat.zero_le _
  | x :: r, ys, nd, h => by
    have hx := h x List.mem_cons_self
    have nd' := List.nodup_cons.mp nd
    have z := nd_sub (ys := ys.erase x) nd'.2 fun y hy => (List.mem_erase_of_ne (fun e : y = x => nd'.1 (by rw [← e]; exact hy))).mpr (h y (List.mem_cons_of_mem _ hy))
    rw [List.length_erase_of_mem hx] at z
    have : 0 < ys.length := List.length_pos_of_mem hx
    rw [List.length_cons]
    omega
def letter (k : Nat) : Nat := LS.cps.toList.getD k 0
theorem letter_at {k : Nat} (h : k < 26) : LS.cps.toList[k]? = some (letter k) := by
  have z : ∀ j : Nat, j < 26 → LS.cps.toList[j]? = some (letter j) := by decide +kernel
  exact z k h
theorem letter_inj {i j : Nat} (hi : i < 26) (hj : j < 26) (h : letter i = letter j) : i = j := by
  have z : ∀ i : Nat, i < 26 → ∀ j : Nat, j < 26 → letter i = letter j → i = j := by decide +kernel
  exact z i hi j hj h
def tail2 (k : Nat) : Str := (⟨#[letter (k / 26)]⟩ : Str) ++ ⟨#[letter (k % 26)]⟩
theorem tail2_inj {p : Str} {i j : Nat} (hi : i < 676) (hj : j < 676) (h : p ++ tail2 i = p ++ tail2 j) : i = j := by
  have e := congrArg (fun z : Str => z.cps.toList) h
  simp only [app_tl, tail2] at e
  have e2 := List.append_cancel_left e
  have e3 : [letter (i / 26), letter (i % 26)] = [letter (j / 26), letter (j % 26)] := by simpa using e2
  injection e3 with h1 h2
  injection h2 with h2 _
  have a := letter_inj (by omega) (by omega) h1
  have b := letter_inj (by omega) (by omega) h2
  omega
theorem tail2_lt {k : Nat} (h : k < 676) : Lt 2 2 (tail2 k) :=
  (Lt.one (List.mem_of_getElem? (letter_at (by omega)))).app (Lt.one (List.mem_of_getElem? (letter_at (by omega))))
theorem unused (p : Str) (us : List Str) (h : us.length < 676) : ∃ k, k < 676 ∧ p ++ tail2 k ∉ us := by
  apply Classical.byContradiction
  intro no
  have all : ∀ z ∈ (List.range 676).map (fun k => p ++ tail2 k), z ∈ us := fun z hz => by
    obtain ⟨k, hk, rfl⟩ := List.mem_map.mp hz
    apply Classical.byContradiction
    intro q
    exact no ⟨k, List.mem_range.mp hk, q⟩
  have nd : ((List.range 676).map (fun k => p ++ tail2 k)).Nodup := by
    unfold List.Nodup
    rw [List.pairwise_map]
    refine List.Pairwise.imp_of_mem ?_ (List.nodup_range (n := 676))
    intro a b ha hb hab e
    exact hab (tail2_inj (List.mem_range.mp ha) (List.mem_range.mp hb) e)
  have z := nd_sub nd all
  rw [List.length_map, List.length_range] at z
  omega
theorem inV_str {x : Str} (xs : List Str) : inV (.str x) (xs.map V.str) = decide (x ∈ xs) := by
  unfold inV
  induction xs with
  | nil => rfl
  | cons y r ih =>
    rw [List.map_cons, List.any_cons, ih]
    show ((y == x) || decide (x ∈ r)) = decide (x ∈ y :: r)
    by_cases e : x = y
    · subst e; simp
    · have e2 : ¬ y = x := fun q => e q.symm
      simp [e, e2]
theorem strs_flat (xs : List Str) : (xs.map V.str).all flatV = true := by
  rw [List.all_eq_true]
  intro x hx
  obtain ⟨n, _, rfl⟩ := List.mem_map.mp hx
  rfl
end XL
set_option Elab.async false
set_option linter.all false
set_option maxRecDepth 100000
set_option maxHeartbeats 4000000
/-! XLine: C(*row), a method within a try, zip with K said, classes of an own error. -/
namespace XL
open PySem PySem.Spec PyProof.Rows L2
section
variable {X : Cx} {CX : CXT} {k : Nat} {f C : Addr} {fd : FuncData} {ps : List Str} {ds : List Value} {dvs : List V} {sp : Sp} {x m : Str} {p pos apos sp_ : Pos} {e o : Expr} {es : List Expr} {te ta : TE} {t : TA}
def tMakeS (K : PySem.W.Frag) (C : Addr) (sp : Sp) (dvs : List V) (E : XK) (te : TE) : TE := fun σ H Q => te σ H fun y H1 => ∃ a xs, y = V.ref a ∧ (SqT K H1 a xs ∨ SqL K H1 a xs) ∧
  ∀ x dx, H1 x = none → H1 dx = none → dx ≠ x → sp (.ref x :: (xs ++ dvs)) (upd (upd H1 dx (.own x)) x (.ins C dx [])) (fun v H2 => v = .non ∧ Q (.ref x) H2) E
/-- C(*row) -/
theorem pe_makeS {E : XK} (K : PySem.W.Frag) (M : Mk X.K C f) (F : FnOk X.prog X.w X.K X.mg X.base CX k f fd ps sp) (hr : Room (k + 1) X.A) (hg : Gl X x) (hm : X.mg x = some (.ref C)) (hb : Binds X.K fd ps ds) (hd : Vals dvs ds) (hx : Passes CX X E) (he : PE X e te) (hK : X.K = K := by rfl) (hdb : (x == ("__debug__" : Str)) = false := by decide)
    (hst : starEach [.Starred e sp_] X.env = [(true, eval e X.env)] := by rfl) : PE X (.Call (.Name x p) [.Starred e sp_] [] pos) (tMakeS K C sp dvs E te) := by
  subst hK
  refine ⟨fun pins s σ H Q I h => ?_⟩
  refine wpAny_Call_Name_kw (ld_glob I hg hm ?_ hdb)
  refine PySem.W.callWith_S (h₀ := X.base) I.ok.mod.kin M.kp (thn (he.run pins s σ H _ I h) fun v s1 ⟨y, H1, I1, ry, a, xs, ey, hxs, q⟩ => ?_) hst
  subst ey
  obtain rfl : v = Value.ref a := ry
  exact StX.star_any I1 hxs fun us s2 I2 rv => ⟨I2.kIn, run_make M F hr hb hd hx I2 rv q⟩
def tMethS (C : Addr) (m : Str) (sp : Sp) (E : L2.St → XK) (ta : TE) (t : TA) : TE := fun σ H Q => ta σ H fun x H1 => ∃ a dx fs, x = .ref a ∧ H1 a = some (.ins C dx fs) ∧ fs.lookup m = none ∧
  t σ H1 fun vs H2 => sp (x :: vs) H2 Q (E σ)
/-- o.m(..) within a try -/
theorem pe_methT {E : L2.St → XK} {pl : Sem Bool} (he : PE X o ta) (c : Cls X.K C) (hm : Meth X.K C m f) (F : FnOk X.prog X.w X.K X.mg X.base CX k f fd ps sp) (hr : Room k X.A) (hb : Binds X.K fd ps []) (hx : ∀ σ, PassesAt CX X σ (E σ)) (ha : PA X (e :: es) t)
    (hst : starEach (e :: es) X.env = (false, eval e X.env) :: starEach es X.env := by rfl) (hpl : (backTo pos (starEach es X.env)).any (·.1) = false := by rfl)
    (ht : eval (.Call (.Attribute o m apos) (e :: es) [] pos) X.env = (do
      let ov ← eval o X.env
      standAt apos.atName
      let (f, first) ← holding [ov] (getMethod ov m pl)
      callWith pos f first (backTo pos (starEach (e :: es) X.env)) (backToKw pos (keywordEach [] X.env))) := by rfl) :
    PE X (.Call (.Attribute o m apos) (e :: es) [] pos) (tMethS C m sp E ta t) := by
  refine ⟨fun pins s σ H Q I h => ?_⟩
  refine PySem.W.methodCall_KW (pl := pl) (thn (he.run pins s σ H _ I h) fun u s1 ⟨x, H1, I1, rx, a, dx, fs, ex, ea, l, q⟩ => ?_) ht
  subst ex
  obtain rfl : u = Value.ref a := rx
  refine getmeth_ok I1 ea c hm l ?_
  refine PySem.W.callWith_K (first := [.ref a]) (h₀ := X.base) I.ok.mod.kin hm.kp (thn (ha.run pos pins s1 σ H1 _ I1 q) fun us s2 ⟨vs, H2, I2, r, q2⟩ => ⟨I2.kIn, ?_⟩) hst hpl
  exact run_fnS (us := .ref a :: us) (vs := .ref a :: vs) (E := E) F hr hb (hx σ) I2 (.cons rfl r) q2
theorem pe_methT0 {E : L2.St → XK} {pl : Sem Bool} (he : PE X o ta) (c : Cls X.K C) (hm : Meth X.K C m f) (F : FnOk X.prog X.w X.K X.mg X.base CX k f fd ps sp) (hr : Room k X.A) (hb : Binds X.K fd ps []) (hx : ∀ σ, PassesAt CX X σ (E σ))
    (ht : eval (.Call (.Attribute o m apos) [] [] pos) X.env = (do
      let ov ← eval o X.env
      standAt apos.atName
      let (f, first) ← holding [ov] (getMethod ov m pl)
      callWith pos f first (backTo pos (starEach [] X.env)) (backToKw pos (keywordEach [] X.env))) := by rfl) :
    PE X (.Call (.Attribute o m apos) [] [] pos) (tMethS C m sp E ta tNil) := by
  refine ⟨fun pins s σ H Q I h => ?_⟩
  refine PySem.W.methodCall_KW (pl := pl) (thn (he.run pins s σ H _ I h) fun u s1 ⟨x, H1, I1, rx, a, dx, fs, ex, ea, l, q⟩ => ?_) ht
  subst ex
  obtain rfl : u = Value.ref a := rx
  refine getmeth_ok I1 ea c hm l ?_
  exact PySem.W.callWith_K0 (first := [.ref a]) I1.kIn hm.kp (run_fnS (us := [.ref a]) (vs := [.ref a]) (E := E) F hr hb (hx σ) I1 (.cons rfl .nil) q)
theorem pi_zipK {e e2 : Expr} {ta : TA} {p pos tpos : Pos} {elts : List Expr} {kk : Nat} (K : PySem.W.Frag) (hg : Gl X "zip") (hm : X.mg "zip" = none) (ha : PA X [e, e2] ta) (hK : X.K = K := by rfl)
    (hs : starEach [e, e2] X.env = (false, eval e X.env) :: starEach [e2] X.env := by rfl) (hpl : (backTo pos (starEach [e2] X.env)).any (·.1) = false := by rfl) :
    PI X (.Tuple elts kk tpos) (.Call (.Name "zip" p) [e, e2] [] pos) (iZip K ta) := hK ▸ pi_zip hg hm ha hs hpl
end
theorem kit_ty_of {K : PySem.W.Frag} {D : Addr} {T : String} {b : Bool} (h1 : PySem.W.kitMeta T = true) (h2 : PySem.W.subIn K (.ref D) (.type T) = some b) : PySem.W.kitOne K (.ref D) (.type T) = some b := by
  show (if (Value.ref D == Value.type T) = true then some true else (if PySem.W.kitMeta T = true then PySem.W.subIn K (.ref D) (.type T) else none)) = some b
  rw [if_neg (fun h => by cases h), if_pos h1]
  exact h2
end XL
set_option Elab.async false
set_option linter.all false
set_option maxRecDepth 100000
set_option maxHeartbeats 4000000
/-! XHot: a def that raises nothing and walks nothing, called within an except suite. -/
namespace XL
open PySem PySem.Spec PyProof.Rows L2 L2H
/-- what a def promises there -/
structure FnQ (P : Program) (w : World) (K : PySem.W.Frag) (mg : Str → Option Value) (base : Heap) (k : Nat) (f : Addr) (fd : FuncData) (ps : List Str) (sp : Sp) : Prop where
  len : ∀ vs H Q E, sp vs H Q E → vs.length = ps.length
  run : ∀ (A : Around) (outer : List Env) (s : Shared) (H : Hp) (args : Args) (us : List Value) (vs : List V) (Q : VK) (E : XK) (p : Addr × Obj), RoomH k A → PinOk outer H s p → Env0 P w K mg base A outer s H → BindsTo s fd args (ps.zip us) → Vals vs us → sp vs H Q E →
    codeAny (model P w) A (.call (.ref f) args) (CR CX0 outer P w H s Q E) s
theorem okQ {P : Program} {w : World} {K : PySem.W.Frag} {mg : Str → Option Value} {base : Heap} {x qual : Str} {st : Stmt} {f : Addr} {fd : FuncData} {N ps : List Str} {k : Nat} {sp : Sp} (F : Fun K x qual st f fd) (S : FnScope N ps (defScope st)) (len : ∀ vs H Q E, sp vs H Q E → vs.length = ps.length)
    (hbody : ∀ (cdv : Value) (A : Around) (outer : List Env) (s : Shared) (H : Hp) (vs : List V) (Q : VK) (E : XK) (p : Addr × Obj), RoomH k (A.deeper (envOfC qual (defScope st) s.heap.objs.size f cdv)) → sp vs H Q E →
      ∃ t, PSs (cxH CX0 P w K mg base N qual (defScope st) f cdv A outer s H E p) (defBody st) t ∧ t { nx := fun _ H' => Q .non H', rt := Q } (L2.start N vs) H) : FnQ P w K mg base (k + 1) f fd ps sp := by
  obtain ⟨oc, od, kV, doc, pm, an, cdv, ct, osl, rfl, lk, hcd⟩ := F.ex
  refine ⟨len, fun A outer s H args us vs Q E p hr hpin e0 hb r hsp => ?_⟩
  have hl := len _ _ _ _ hsp
  have KX : K.In s.heap := e0.mod.kin.keeps fun b o e => (e0.bs b o e).1
  have lim : s.heap.NoLimit := e0.mod.nolimit.keeps fun b o e => (e0.bs b o e).1
  have hkind : ∀ y ∈ ps.zip us, (defScope st).names.lookup y.1 = some .local ∨ ((defScope st).names.lookup y.1 = some .cell ∧ ((cellsFrom (s.heap.objs.size + 1) (defScope st).names []).lookup y.1).isSome = true) := fun ⟨n, v⟩ hy => by
    rcases S.par n (List.of_mem_zip hy).1 with q | q
    · exact .inl q
    · exact .inr ⟨q, PySem.W.cellsFrom_some _ _ _ (.inl q)⟩
  refine codeAny_call_function hr.depth (KX _ _ lk) rfl S.co S.gen rfl (PySem.W.codeRec_of KX hcd) (hb _ _ _ _ ?_)
  refine wpAny_newFunctionEnv_cells S.kind hkind fun env he s1 x => ?_
  subst he
  refine ⟨lim.keeps x.toInCall.keep, codeAny_func ?_⟩
  obtain ⟨t, ht, hq⟩ := hbody cdv A outer s H vs Q E p (hr.deeper _) hsp
  have I : Inv (cxH CX0 P w K mg base N qual (defScope st) f cdv A outer s H E p) [] (L2.start N vs) H s1 := inv_startH S hpin e0 hl r x
  refine wpAny_mono (ht.run [] s1 (L2.start N vs) H _ I hq) (fun fl s' hs => ?_) fun e s' hs => hs
  have fin : ∀ {σ' : L2.St} {H' : Hp} {v : V} {u : Value}, Inv (cxH CX0 P w K mg base N qual (defScope st) f cdv A outer s H E p) [] σ' H' s' → RelV v u → Q v H' → CE outer P w H s Q u s' :=
    fun {σ' H' v u} J rv q => ⟨v, H', J.os, J.bare, J.base, J.hok, rv, q⟩
  cases fl with
  | ret u =>
    obtain ⟨v, σ', H', J, rv, q⟩ := hs
    exact fin J rv q
  | next =>
    obtain ⟨σ', H', J, q⟩ := hs
    exact fin (v := V.non) (u := Value.none) J rfl q
  | brk =>
    obtain ⟨_, _, _, q⟩ := hs
    exact False.elim q
  | cont =>
    obtain ⟨_, _, _, q⟩ := hs
    exact False.elim q
section
variable {X : Cx} {k : Nat} {f : Addr} {fd : FuncData} {ps : List Str} {sp : Sp} {E : XK} {x : Str} {q pos : Pos} {e : Expr} {es : List Expr} {t : TA}
theorem pe_callQ (F : FnQ X.prog X.w X.K X.mg X.base k f fd ps sp) (hr : RoomH k X.A) (hc : ∃ p, p ∈ X.pn) (hg : Gl X x) (hm : X.mg x = some (.ref f)) (hk : PySem.W.keepIn X.K (.ref f) = true) (hb : Binds X.K fd ps []) (hx : Passes CX0 X E)
    (ha : PA X (e :: es) t) (hdb : (x == ("__debug__" : Str)) = false := by decide) (he : starEach (e :: es) X.env = (false, eval e X.env) :: starEach es X.env := by rfl) (hpl : (backTo pos (starEach es X.env)).any (·.1) = false := by rfl) :
    PE X (.Call (.Name x q) (e :: es) [] pos) (fun σ H Q => t σ H fun vs H1 => sp vs H1 Q E) := by
  refine ⟨fun pins s σ H Q I h => ?_⟩
  refine wpAny_Call_Name_kw (ld_glob I hg hm ?_ hdb)
  refine PySem.W.callWith_K (h₀ := X.base) I.ok.mod.kin hk (thn (ha.run pos pins s σ H _ I h) fun us s1 ⟨vs, H1, I1, r, q⟩ => ⟨I1.kIn, ?_⟩) he hpl
  obtain ⟨p, hp⟩ := hc
  have hl : us.length = ps.length := by rw [← r.length]; exact F.len _ _ _ _ q
  have b := hb s1 us I1.kIn (by rw [List.append_nil]; exact hl)
  rw [List.append_nil] at b
  have P1 := I1.pin p (List.mem_append_left _ hp)
  have hpin : PinOk X.stack H1 s1 p := ⟨P1.1, P1.2.1, fun hm => (List.mem_cons.mp (I1.stkSub p.1 hm)).elim P1.2.2.1 P1.2.2.2.1, P1.2.2.2.2⟩
  refine wpAny_call (codeAny_mono (F.run X.A X.stack s1 H1 ⟨us, []⟩ us vs Q E p hr hpin I1.env0 b r q) fun r s' hq => ?_)
  cases r with
  | error e => exact hx pins σ _ _ e s' I1 hq
  | ok fl =>
    cases fl with
    | ret u => exact I1.after hq
    | next => exact False.elim hq
    | brk => exact False.elim hq
    | cont => exact False.elim hq
end
theorem roomQ {X : Cx} {k j : Nat} {a : Addr} {pn : List (Addr × Obj)} (hr : Room k X.A) (h : j ≤ k) : RoomH j (X.suite a pn).A := ⟨(hr.mono h).dp, (hr.mono h).un⟩
end XL
set_option Elab.async false
set_option linter.all false
set_option maxRecDepth 100000
set_option maxHeartbeats 4000000
/-! XGuard: defs that are called while no repr is under way (Around.guards is known to be empty); repr of data there. -/
namespace XL
open PySem PySem.Spec PyProof.Rows L2
/-- what a def promises when no repr is under way -/
structure FnG (P : Program) (w : World) (K : PySem.W.Frag) (mg : Str → Option Value) (base : Heap) (CX : CXT) (k : Nat) (f : Addr) (fd : FuncData) (ps : List Str) (sp : Sp) : Prop where
  len : ∀ vs H Q E, sp vs H Q E → vs.length = ps.length
  run : ∀ (A : Around) (outer : List Env) (s : Shared) (H : Hp) (args : Args) (us : List Value) (vs : List V) (Q : VK) (E : XK), Room k A → A.guards = some [] → Env0 P w K mg base A outer s H → BindsTo s fd args (ps.zip us) → Vals vs us → sp vs H Q E →
    codeAny (model P w) A (.call (.ref f) args) (CR CX outer P w H s Q E) s
section
variable {P : Program} {w : World} {K : PySem.W.Frag} {mg : Str → Option Value} {base : Heap} {CX : CXT}
theorem FnG.of {k : Nat} {f : Addr} {fd : FuncData} {ps : List Str} {sp : Sp} (F : FnOk P w K mg base CX k f fd ps sp) : FnG P w K mg base CX k f fd ps sp := ⟨F.len, fun A outer s H args us vs Q E hr _ => F.run A outer s H args us vs Q E hr⟩
theorem fnG_of {x qual : Str} {st : Stmt} {f : Addr} {fd : FuncData} {N ps : List Str} {k : Nat} {sp : Sp} (F : Fun K x qual st f fd) (S : FnScope N ps (defScope st)) (len : ∀ vs H Q E, sp vs H Q E → vs.length = ps.length)
    (hbody : ∀ (cdv : Value) (A : Around) (outer : List Env) (s : Shared) (H : Hp) (vs : List V) (Q : VK) (E : XK), Room k (A.deeper (envOfC qual (defScope st) s.heap.objs.size f cdv)) → A.guards = some [] → sp vs H Q E →
      ∃ t, PSs (cxOf CX P w K mg base N qual (defScope st) f cdv A outer s H E) (defBody st) t ∧ t { nx := fun _ H' => Q .non H', rt := Q } (L2.start N vs) H) : FnG P w K mg base CX (k + 1) f fd ps sp := by
  obtain ⟨oc, od, kV, doc, pm, an, cdv, ct, osl, rfl, lk, hcd⟩ := F.ex
  refine ⟨len, fun A outer s H args us vs Q E hr hg e0 hb r hsp => ?_⟩
  have hl := len _ _ _ _ hsp
  have KX : K.In s.heap := e0.mod.kin.keeps fun b o e => (e0.bs b o e).1
  have lim : s.heap.NoLimit := e0.mod.nolimit.keeps fun b o e => (e0.bs b o e).1
  have hkind : ∀ y ∈ ps.zip us, (defScope st).names.lookup y.1 = some .local ∨ ((defScope st).names.lookup y.1 = some .cell ∧ ((cellsFrom (s.heap.objs.size + 1) (defScope st).names []).lookup y.1).isSome = true) := fun ⟨n, v⟩ hy => by
    rcases S.par n (List.of_mem_zip hy).1 with q | q
    · exact .inl q
    · exact .inr ⟨q, PySem.W.cellsFrom_some _ _ _ (.inl q)⟩
  refine codeAny_call_function hr.depth (KX _ _ lk) rfl S.co S.gen rfl (PySem.W.codeRec_of KX hcd) (hb _ _ _ _ ?_)
  refine wpAny_newFunctionEnv_cells S.kind hkind fun env he s1 x => ?_
  subst he
  refine ⟨lim.keeps x.toInCall.keep, codeAny_func ?_⟩
  obtain ⟨t, ht, hq⟩ := hbody cdv A outer s H vs Q E (hr.deeper _) hg hsp
  have I : Inv (cxOf CX P w K mg base N qual (defScope st) f cdv A outer s H E) [] (L2.start N vs) H s1 := inv_start S hr.hd e0 hl r x
  refine wpAny_mono (ht.run [] s1 (L2.start N vs) H _ I hq) (fun fl s' hs => ?_) fun e s' hs => hs
  cases fl with
  | ret u =>
    obtain ⟨v, σ', H', J, rv, q⟩ := hs
    exact ⟨v, H', J.os, J.bare, J.base, J.hok, rv, q⟩
  | next =>
    obtain ⟨σ', H', J, q⟩ := hs
    exact ⟨V.non, H', J.os, J.bare, J.base, J.hok, rfl, q⟩
  | brk =>
    obtain ⟨_, _, _, q⟩ := hs
    exact False.elim q
  | cont =>
    obtain ⟨_, _, _, q⟩ := hs
    exact False.elim q
/-- a def that raises nothing -/
theorem okG {x qual : Str} {st : Stmt} {f : Addr} {fd : FuncData} {N ps : List Str} {k : Nat} {sp : Sp} (F : Fun K x qual st f fd) (S : FnScope N ps (defScope st)) (len : ∀ vs H Q E, sp vs H Q E → vs.length = ps.length)
    (hbody : ∀ (cdv : Value) (A : Around) (outer : List Env) (s : Shared) (H : Hp) (vs : List V) (Q : VK) (E : XK), Room k (A.deeper (envOfC qual (defScope st) s.heap.objs.size f cdv)) → A.guards = some [] → sp vs H Q E →
      ∃ t, PSs (cxOf CX0 P w K mg base N qual (defScope st) f cdv A outer s H E).nox (defBody st) t ∧ t { nx := fun _ H' => Q .non H', rt := Q } (L2.start N vs) H) : FnG P w K mg base CX0 (k + 1) f fd ps sp :=
  fnG_of F S len fun cdv A outer s H vs Q E hr hg hsp => let ⟨t, h, q⟩ := hbody cdv A outer s H vs Q E hr hg hsp; ⟨t, h.nox, q⟩
end
section
variable {X : Cx} {CX : CXT} {k : Nat} {f : Addr} {fd : FuncData} {ps : List Str} {sp : Sp} {E : XK} {x : Str} {p pos : Pos} {e : Expr} {es : List Expr} {t : TA}
theorem run_fnG {pins : List (Addr × Obj)} {σ : L2.St} {H : Hp} {s : Shared} {Q : VK} {us : List Value} {vs : List V} (F : FnG X.prog X.w X.K X.mg X.base CX k f fd ps sp) (hr : Room k X.A) (hg : X.A.guards = some []) (hb : Binds X.K fd ps []) (hx : Passes CX X E)
    (I : Inv X pins σ H s) (r : Vals vs us) (h : sp vs H Q E) : wpAny (model X.prog X.w) X.A (call (.ref f) us) (EP X pins σ Q) X.xe s := by
  have hl : us.length = ps.length := by rw [← r.length]; exact F.len _ _ _ _ h
  have b := hb s us I.kIn (by rw [List.append_nil]; exact hl)
  rw [List.append_nil] at b
  refine wpAny_call (codeAny_mono (F.run X.A X.stack s H ⟨us, []⟩ us vs Q E hr hg I.env0 b r h) fun r s' hq => ?_)
  cases r with
  | error e => exact hx pins σ _ _ e s' I hq
  | ok fl =>
    cases fl with
    | ret u => exact I.after hq
    | next => exact False.elim hq
    | brk => exact False.elim hq
    | cont => exact False.elim hq
theorem pe_callG (F : FnG X.prog X.w X.K X.mg X.base CX k f fd ps sp) (hr : Room k X.A) (hg : X.A.guards = some []) (hgl : Gl X x) (hm : X.mg x = some (.ref f)) (hk : PySem.W.keepIn X.K (.ref f) = true) (hb : Binds X.K fd ps []) (hx : Passes CX X E)
    (ha : PA X (e :: es) t) (hdb : (x == ("__debug__" : Str)) = false := by decide) (he : starEach (e :: es) X.env = (false, eval e X.env) :: starEach es X.env := by rfl) (hpl : (backTo pos (starEach es X.env)).any (·.1) = false := by rfl) :
    PE X (.Call (.Name x p) (e :: es) [] pos) (fun σ H Q => t σ H fun vs H1 => sp vs H1 Q E) := by
  refine ⟨fun pins s σ H Q I h => ?_⟩
  refine wpAny_Call_Name_kw (ld_glob I hgl hm ?_ hdb)
  refine PySem.W.callWith_K (h₀ := X.base) I.ok.mod.kin hk (thn (ha.run pos pins s σ H _ I h) fun us s1 ⟨vs, H1, I1, r, q⟩ => ⟨I1.kIn, ?_⟩) he hpl
  exact run_fnG F hr hg hb hx I1 r q
theorem u70 {k : Nat} {A : Around} (r : Room k A) : A.units + 70 < cLine := by have := r.un; omega
/-- repr of data -/
def rRepr (K : PySem.W.Frag) : List V → Hp → VK → Prop := fun xs H Q => ∃ v d, xs = [v] ∧ Dp K H v d ∧ d.showable = true ∧ d.hasDict = false ∧ d.depth ≤ 64 ∧ d.shown.length ≤ sizeLine ∧ Q (.str d.shown) H
theorem call_reprG (K : PySem.W.Frag) (hg : X.A.guards = some []) (hu : X.A.units + 70 < cLine) (hK : X.K = K := by rfl) : CallR X (.builtin "repr") (rRepr K) := by
  subst hK
  intro pins s σ H xs us Q I r h
  obtain ⟨v, d, rfl, hd, h1, h2, h3, h4, q⟩ := h
  obtain ⟨u, rfl, ru⟩ : ∃ u, us = [u] ∧ RelV v u := by
    cases r with
    | cons a b =>
      cases b
      exact ⟨_, rfl, a⟩
  obtain ⟨as, rd⟩ := Dp.reads I d v u hd ru
  have big : ∀ a : Addr, u = .ref a → wpAny (model X.prog X.w) X.A (call (.builtin "repr") [u]) (EP X pins σ Q) X.xe s := by
    rintro a rfl
    exact repr_of_reads' rd h1 (PyData.noDict_hsm h2) hg (by omega) (fun _ _ e => e) (fun h' t tk hk => ⟨.str d.shown, H, I.kept hk, ⟨_, rfl⟩, q⟩) h4
  cases hd with
  | non =>
    cases ru
    exact PySem.P.repr_of_none ⟨.str _, H, I.tok _, ⟨_, rfl⟩, by simpa only [PyData.shown] using q⟩
  | bl b =>
    cases ru
    exact PySem.P.repr_of_bool ⟨.str _, H, I.tok _, ⟨_, rfl⟩, by simpa only [PyData.shown] using q⟩
  | int i =>
    obtain ⟨t, rfl⟩ := ru
    exact PySem.P.repr_of_int (by simpa [PyData.showable] using h1) ⟨.str _, H, I.tok _, ⟨_, rfl⟩, by simpa only [PyData.shown] using q⟩
  | str x =>
    obtain ⟨t, rfl⟩ := ru
    exact PySem.P.repr_of_str ⟨.str _, H, I.tok _, ⟨_, rfl⟩, by simpa only [PyData.shown] using q⟩ (by simpa only [PyData.shown] using h4)
  | lst _ _ => exact big _ ru
  | tup _ _ => exact big _ ru
end
/-! ### the law's own call -/
theorem law_callG {P : Program} {w : World} {K : PySem.W.Frag} {mg mb : Str → Option Value} {CX : CXT} {k : Nat} {fa a : Addr} {fd : FuncData} {x : Str} {sp : Sp} {s₁ : Shared} {vs : List Value} {ns : List Int}
    (KX : K.In s₁.heap) (hns : s₁.heap.Ns mainGlobals mg) (hb : s₁.heap.Ns builtinsNs mb) (hbb : ∀ x : Str, x ≠ "__name__" → mb x = bootBuiltins x) (hlim : s₁.heap.NoLimit) (hg : s₁.gens = #[])
    (ha : s₁.heap.get? a = some { cls := .type "list", data := .seq vs.toArray }) (hi : IntsAre vs ns) (hl : ns.length ≤ sizeLine) (hr : Room k callerA)
    (F : ∀ base : Heap, K.In base → base.Ns mainGlobals mg → FnG P w K mg base CX k fa fd [x] sp) (hbind : ∀ (s : Shared) (u : Value), BindsTo s fd ⟨[u], []⟩ [(x, u)])
    (hsp : ∀ H : Hp, Only H → SqL K H a (ns.map V.int) → sp [.ref a] H (fun v _ => v = .bl true) fun _ _ _ => False)
    (hCX : ∀ H e s', CX [] H s₁ (fun _ _ _ => False) e s' → False) :
    codeAny (model P w) callerA (.call (.ref fa) ⟨[.ref a], []⟩) (fun r s' => r = .ok (.ret (.bool true)) ∧ OldK s₁.heap s'.heap ∧ s'.os = s₁.os ∧ AllBare s'.gens) s₁ := by
  have rv := vals_ints hi
  have lenV := hi.length
  -- nothing is tracked but the script
  have main : ∀ H : Hp, (∀ b, H b = none ∨ (b = a ∧ K.lookup a = none ∧ H b = some (.frz { cls := .type "list", data := .seq vs.toArray } (.lst (ns.map V.int))))) → SqL K H a (ns.map V.int) → HOk P w H s₁.heap →
      codeAny (model P w) callerA (.call (.ref fa) ⟨[.ref a], []⟩) (fun r s' => r = .ok (.ret (.bool true)) ∧ OldK s₁.heap s'.heap ∧ s'.os = s₁.os ∧ AllBare s'.gens) s₁ := by
    intro H hH hS hok
    have nsK : ∀ {b : Addr} {m : Str → Option Value}, s₁.heap.Ns b m → (hidT s₁.heap H).Ns b m := fun {b m} ⟨o, es, ep, e, d, r⟩ => by
      refine ⟨o, es, ep, hidT_get e ?_, d, r⟩
      rcases hH b with z | ⟨z, _⟩
      · exact z
      · rw [z, ha] at e
        cases e
        cases d
    have hKb : K.In (hidT s₁.heap H) := fun b o e => hidT_get (KX b o e) (by
      rcases hH b with z | ⟨z, z2, _⟩
      · exact z
      · rw [z, z2] at e
        cases e)
    have hM : Mod K mg (hidT s₁.heap H) := ⟨hKb, nsK hns, ⟨mb, nsK hb, hbb⟩, let ⟨mc, h1, h2⟩ := hlim; ⟨mc, nsK h1, h2⟩⟩
    have e0 : Env0 P w K mg (hidT s₁.heap H) callerA [] s₁ H := ⟨rfl, hM, fun b o e => of_hidT e, Nat.le_of_eq (hidT_size _ _), trivial, fun b hb => (nomatch hb), hok, .of_eq hg⟩
    have hO : Only H := fun b => (hH b).imp id fun z => ⟨_, _, z.2.2⟩
    refine codeAny_mono ((F _ hKb (nsK hns)).run callerA [] s₁ H ⟨[.ref a], []⟩ [.ref a] [.ref a] _ _ hr rfl e0 (hbind s₁ (.ref a)) (.cons rfl .nil) (hsp H hO hS)) fun r s' h => ?_
    cases r with
    | error e => exact (hCX H e s' h).elim
    | ok fl =>
      cases fl with
      | next => exact False.elim h
      | brk => exact False.elim h
      | cont => exact False.elim h
      | ret u =>
        obtain ⟨v, H', os, bare, un, hok', r', q⟩ := h
        have q' : v = .bl true := q
        subst q'
        obtain rfl : u = Value.bool true := r'
        refine ⟨rfl, OldK.of_keep fun b o e => ?_, os, bare⟩
        rcases hH b with z | ⟨_, _, z⟩
        · exact un.keep b o e z (fun y => nomatch y) (by simp)
        · obtain ⟨e1, _⟩ := hok b _ z
          obtain ⟨e2, _⟩ := hok' b _ (un.frzs b _ _ z)
          rw [e] at e1
          cases e1
          exact e2
  cases hk : K.lookup a with
  | some o =>
    have e := KX a o hk
    rw [ha] at e
    cases e
    exact main (fun _ => none) (fun _ => .inl rfl) (.inr ⟨_, vs.toArray, _, hk, rfl, rfl, rfl, by rw [List.size_toArray, lenV]; exact hl, by simpa using rv⟩) (fun b u z => nomatch z)
  | none =>
    refine main (fun b => if b = a then some (.frz { cls := .type "list", data := .seq vs.toArray } (.lst (ns.map V.int))) else none) (fun b => ?_) (.inl (.inr ⟨{ cls := .type "list", data := .seq vs.toArray }, if_pos rfl⟩)) (fun b u z => ?_)
    · by_cases hb : b = a
      · exact .inr ⟨hb, hk, if_pos hb⟩
      · exact .inl (if_neg hb)
    · by_cases hb : b = a
      · have z' := (if_pos hb).symm.trans z
        cases z'
        subst hb
        exact ⟨ha, by rw [List.length_map]; exact hl, vs, _, rv, ha⟩
      · have z' := (if_neg hb).symm.trans z
        cases z'
theorem walk_ofG {l : PySem.W.OpenLaw} {n k : Nat} {q : Program} {loose : List Str} {XP : (Str → Option Value) → Heap → Prop} {YP : World → Heap → Prop} {d : DefRec} {K : Params → PySem.W.Frag} {CX : World → CXT} {sp : World → Sp} {x : Str}
    (hn : l.most = some n) (hn2 : n ≤ sizeLine) (hdf : d.params.defaults = []) (hr : Room k callerA)
    (hY : ∀ (w : World) (h : Heap), YP w h → (K w.params).In h)
    (F : ∀ (w : World) (mg : Str → Option Value) (fa : Addr) (h : Heap), (K w.params).In h → h.Ns mainGlobals mg → mg d.name = some (.ref fa) →
      ∃ fd : FuncData, (∀ (s : Shared) (u : Value), BindsTo s fd ⟨[u], []⟩ [(x, u)]) ∧
        ∀ base : Heap, (K w.params).In base → base.Ns mainGlobals mg → FnG l.prog w (K w.params) mg base (CX w) k fa fd [x] (sp w))
    (hsp : ∀ (w : World) (H : Hp) (a : Addr) (ns : List Int), ns.length ≤ n → Only H → SqL (K w.params) H a (ns.map V.int) → sp w [.ref a] H (fun v _ => v = .bl true) fun _ _ _ => False)
    (hCX : ∀ (w : World) (H : Hp) (s : Shared) (e : Value) (s' : Shared), CX w [] H s (fun _ _ _ => False) e s' → False) :
    PySem.W.WalkO q loose XP YP l.row.toRowW d [] (fun f vs => PySem.call f vs) := by
  refine Att.attach_call hn hdf fun w s₀ s₁ mg mb fa o pm cd doc a vs ns G Y ho hd hcd hmg hobj hints hlen hg => ?_
  have KX := hY w _ Y
  obtain ⟨fd, hb, hF⟩ := F w mg fa _ KX G.T.g hmg
  exact law_callG KX G.T.g G.T.b G.T.builtins G.T.nolimit hg hobj hints (Nat.le_trans hlen hn2) hr hF hb (fun H hO hS => hsp w H a ns hlen hO hS) fun H e s' => hCX w H s₁ e s'
end XL
set_option Elab.async false
set_option linter.all false
set_option maxRecDepth 100000
set_option maxHeartbeats 4000000
/-! XStar: defs with a star parameter, called with plain arguments. -/
namespace XL
open PySem PySem.Spec PyProof.Rows L2
/-! ### list.extend of a tuple -/
theorem ext_tup (l : Addr) (items : Array Value) (n : Nat) (b : Addr) (items2 : Array Value) (n2 : Nat) (dc : Option Addr) (sl : Array (Option Value)) (hs0 : ¬(!items.isEmpty && Builtin.List.listTooLong (items.size + items2.size)) = true) (hs1 : items.size ≤ sizeLine) (hs2 : items.size + items2.size ≤ sizeLine + 1) :
    Meets (Builtin.«list.extend» ⟨[.ref l, .ref b], []⟩) (fun _ R s => s.heap.get? l = some { cls := .type "list", dict := none, data := .seq items n, slots := #[] } ∧ s.heap.get? b = some { cls := .type "tuple", dict := dc, data := .seq items2 n2, slots := sl } ∧ R (.ok (.ret Value.none)) { s with heap := s.heap.update l (Obj.mapSeq fun x => x ++ items2), toks := s.toks }) :=
  .of_wp fun prog w A R s h => by
    obtain ⟨hp, g, d, tk, os⟩ := s
    obtain ⟨hl, hb, h⟩ := h
    have f1 := AutoSeq1.idx_int; have f2 := AutoSeq1.sub_tuple_tuple; have f3 := AutoSeq1.sub_list_list; have f4 := AutoSeq1.sub_tuple_list; have f5 := AutoSeq1.sub_list_tuple
    have hz' : (items ++ items2).size ≤ sizeLine + 1 := by rw [Array.size_append]; exact hs2
    wp_walk using (wpAny_updateSeq hl rfl (hz := hs1) (_hz' := hz')), wpAny_loadPart' hl, wpAny_loadPart' hb
    exact ⟨_, rfl, h⟩
def rExtT (K : PySem.W.Frag) : V → List V → Hp → VK → Prop := fun x vs H Q => ∃ l b xs zs, x = .ref l ∧ vs = [.ref b] ∧ H l = some (.lst xs) ∧ SqT K H b zs ∧ xs.length + zs.length ≤ sizeLine ∧ Q .non (upd H l (.lst (xs ++ zs)))
theorem mt_extT {X : Cx} (K : PySem.W.Frag) (hK : X.K = K := by rfl) : MtM X "list.extend" (rExtT K) := by
  subst hK
  intro pins s σ H x vs v us Q I rx rv h
  obtain ⟨l, b, xs, zs, rfl, rfl, hH, hB, hz, q⟩ := h
  cases rx
  obtain ⟨u, rfl, ru⟩ := rv.one
  cases ru
  obtain ⟨z, its, n, r, hl, e⟩ := I.lstM hH
  obtain ⟨its2, r2, ⟨o2, e2, c2, n2, d2⟩, z2⟩ := I.tuple hB
  have hl2 := r2.length
  obtain ⟨oc, od, odt, osl⟩ := o2
  simp only at c2 d2
  subst c2 d2
  have hsz : its.toArray.size + its2.toArray.size ≤ sizeLine := by rw [List.size_toArray, List.size_toArray]; omega
  have hlong : ¬ (!its.toArray.isEmpty && Builtin.List.listTooLong (its.toArray.size + its2.toArray.size)) = true := by
    rw [notLongL hsz, Bool.and_false]
    exact Bool.false_ne_true
  refine call_meets F.slot_list_extend ⟨_, e, rfl⟩ F.entry_list_extend (F.args_list_extend_2 _ _)
    (ext_tup l its.toArray n b its2.toArray n2 od osl hlong (by rw [List.size_toArray]; omega) (by omega)) ⟨e, e2, ?_⟩
  refine ⟨.non, _, I.lset (its' := its ++ its2) hH e (by simp) (r.append r2) ?_, rfl, q⟩
  rw [List.length_append]
  omega
/-- what a def with a star parameter binds -/
def BindsS (fd : FuncData) (ps : List Str) (pv : Str) : Prop := ∀ us rest : List Value, us.length = ps.length → bindArgs fd ⟨us ++ rest, []⟩ = (newTuple rest >>= fun t => pure (ps.zip us ++ [(pv, t)]))
/-- the promise of a def with a star parameter, from that of its body -/
def spS (n : Nat) (sp : Sp) : Sp := fun vs H Q E => ∃ ws rest, vs = ws ++ rest ∧ ws.length = n ∧ rest.length ≤ sizeLine ∧ ∀ p, H p = Option.none → sp (ws ++ [V.ref p]) (upd H p (.tup rest)) Q E
section
variable {P : Program} {w : World} {K : PySem.W.Frag} {mg : Str → Option Value} {base : Heap}
theorem okS {x qual : Str} {st : Stmt} {f : Addr} {fd : FuncData} {N ps : List Str} {pv : Str} {k : Nat} {sp : Sp} (F : Fun K x qual st f fd) (S : FnScope N (ps ++ [pv]) (defScope st)) (hb : BindsS fd ps pv)
    (hbody : ∀ (cdv : Value) (A : Around) (outer : List Env) (s : Shared) (H : Hp) (vs : List V) (Q : VK) (E : XK), Room k (A.deeper (envOfC qual (defScope st) s.heap.objs.size f cdv)) → sp vs H Q E →
      ∃ t, PSs (cxOf CX0 P w K mg base N qual (defScope st) f cdv A outer s H E).nox (defBody st) t ∧ t { nx := fun _ H' => Q .non H', rt := Q } (L2.start N vs) H) : FnR P w K mg base CX0 (k + 1) f (spS ps.length sp) := by
  obtain ⟨oc, od, kV, doc, pm, an, cdv, ct, osl, rfl, lk, hcd⟩ := F.ex
  refine StX.fn_star (pv := pv) (ps := ps) lk hcd S StX.cxUp_none hb fun A outer s H vs Q E hr hsp => ?_
  obtain ⟨t, h, q⟩ := hbody cdv A outer s H vs Q E hr hsp
  exact ⟨t, h.nox, q⟩
end
section
variable {X : Cx} {CX : CXT} {k : Nat} {f : Addr} {sp : Sp} {E : XK} {x : Str} {p pos : Pos} {e : Expr} {es : List Expr} {t : TA}
/-- x(e, ..) by a positional promise -/
theorem pe_callP (F : FnR X.prog X.w X.K X.mg X.base CX k f sp) (hr : Room k X.A) (hgl : Gl X x) (hm : X.mg x = some (.ref f)) (hk : PySem.W.keepIn X.K (.ref f) = true) (hx : Passes CX X E)
    (ha : PA X (e :: es) t) (hdb : (x == ("__debug__" : Str)) = false := by decide) (he : starEach (e :: es) X.env = (false, eval e X.env) :: starEach es X.env := by rfl) (hpl : (backTo pos (starEach es X.env)).any (·.1) = false := by rfl) :
    PE X (.Call (.Name x p) (e :: es) [] pos) (fun σ H Q => t σ H fun vs H1 => sp vs H1 Q E) := by
  refine ⟨fun pins s σ H Q I h => ?_⟩
  refine wpAny_Call_Name_kw (ld_glob I hgl hm ?_ hdb)
  refine PySem.W.callWith_K (h₀ := X.base) I.ok.mod.kin hk (thn (ha.run pos pins s σ H _ I h) fun us s1 ⟨vs, H1, I1, r, q⟩ => ⟨I1.kIn, ?_⟩) he hpl
  exact wpAny_call (run_fnR F hr hx I1 r q)
/-- x() -/
theorem pe_callP0 (F : FnR X.prog X.w X.K X.mg X.base CX k f sp) (hr : Room k X.A) (hgl : Gl X x) (hm : X.mg x = some (.ref f)) (hk : PySem.W.keepIn X.K (.ref f) = true) (hx : Passes CX X E) (hdb : (x == ("__debug__" : Str)) = false := by decide) :
    PE X (.Call (.Name x p) [] [] pos) (fun _ H Q => sp [] H Q E) := by
  refine ⟨fun pins s σ H Q I h => ?_⟩
  refine wpAny_Call_Name_kw (ld_glob I hgl hm ?_ hdb)
  exact PySem.W.callWith_K0 I.kIn hk (wpAny_call (run_fnR (us := []) F hr hx I .nil h))
end
section
variable {B : List Value → Sem (List (Str × Value))} {p1 p2 p3 p4 pv : Str}
theorem bindS0 (h0 : B [] = (newTuple [] >>= fun t => pure [(pv, t)])) (h1 : ∀ r rs, B (r :: rs) = (newTuple (r :: rs) >>= fun t => pure [(pv, t)])) :
    ∀ us rest : List Value, us.length = ([] : List Str).length → B (us ++ rest) = (newTuple rest >>= fun t => pure (([] : List Str).zip us ++ [(pv, t)]))
  | [], [], _ => h0
  | [], r :: rs, _ => h1 r rs
theorem bindS1 (h0 : ∀ a, B [a] = (newTuple [] >>= fun t => pure [(p1, a), (pv, t)])) (h1 : ∀ a r rs, B (a :: r :: rs) = (newTuple (r :: rs) >>= fun t => pure [(p1, a), (pv, t)])) :
    ∀ us rest : List Value, us.length = [p1].length → B (us ++ rest) = (newTuple rest >>= fun t => pure ([p1].zip us ++ [(pv, t)]))
  | [a], [], _ => h0 a
  | [a], r :: rs, _ => h1 a r rs
theorem bindS4 (h0 : ∀ a b c d, B [a, b, c, d] = (newTuple [] >>= fun t => pure [(p1, a), (p2, b), (p3, c), (p4, d), (pv, t)])) (h1 : ∀ a b c d r rs, B (a :: b :: c :: d :: r :: rs) = (newTuple (r :: rs) >>= fun t => pure [(p1, a), (p2, b), (p3, c), (p4, d), (pv, t)])) :
    ∀ us rest : List Value, us.length = [p1, p2, p3, p4].length → B (us ++ rest) = (newTuple rest >>= fun t => pure ([p1, p2, p3, p4].zip us ++ [(pv, t)]))
  | [a, b, c, d], [], _ => h0 a b c d
  | [a, b, c, d], r :: rs, _ => h1 a b c d r rs
end
end XL
set_option Elab.async false
set_option linter.all false
set_option maxRecDepth 100000
set_option maxHeartbeats 4000000
namespace K32
open PySem PySem.Spec PyProof.Rows L2 XL
def topS (i : Nat) : Stmt := PySem.Challenge.pw_drawnanew_k32_shape_numbers.main.body.getD i (.Pass ⟨0, 0, 0, 0⟩)
abbrev s_text_shape : Stmt := topS 1
theorem sc_text_shape : FnScope ["form"] ["form"] (defScope s_text_shape) := ⟨rfl, rfl, rfl, by decide +kernel, rfl, by decide +kernel, by decide +kernel⟩
abbrev s_button_shape : Stmt := topS 2
theorem sc_button_shape : FnScope ["word"] ["word"] (defScope s_button_shape) := ⟨rfl, rfl, rfl, by decide +kernel, rfl, by decide +kernel, by decide +kernel⟩
abbrev s_row_shape : Stmt := topS 3
theorem sc_row_shape : FnScope ["parts"] ["parts"] (defScope s_row_shape) := ⟨rfl, rfl, rfl, by decide +kernel, rfl, by decide +kernel, by decide +kernel⟩
abbrev s_col_shape : Stmt := topS 4
theorem sc_col_shape : FnScope ["parts"] ["parts"] (defScope s_col_shape) := ⟨rfl, rfl, rfl, by decide +kernel, rfl, by decide +kernel, by decide +kernel⟩
abbrev s_when_shape : Stmt := topS 5
theorem sc_when_shape : FnScope ["form", "first", "second"] ["form", "first", "second"] (defScope s_when_shape) := ⟨rfl, rfl, rfl, by decide +kernel, rfl, by decide +kernel, by decide +kernel⟩
abbrev s_put_shape : Stmt := topS 6
theorem sc_put_shape : FnScope ["component", "forms"] ["component", "forms"] (defScope s_put_shape) := ⟨rfl, rfl, rfl, by decide +kernel, rfl, by decide +kernel, by decide +kernel⟩
abbrev s_each_shape : Stmt := topS 7
theorem sc_each_shape : FnScope ["form", "menu", "key", "component", "forms"] ["form", "menu", "key", "component", "forms"] (defScope s_each_shape) := ⟨rfl, rfl, rfl, by decide +kernel, rfl, by decide +kernel, by decide +kernel⟩
abbrev s_part_shapes : Stmt := topS 8
theorem sc_part_shapes : FnScope ["shape"] ["shape"] (defScope s_part_shapes) := ⟨rfl, rfl, rfl, by decide +kernel, rfl, by decide +kernel, by decide +kernel⟩
abbrev s_numbered : Stmt := topS 9
theorem sc_numbered : FnScope ["shape", "found", "part"] ["shape"] (defScope s_numbered) := ⟨rfl, rfl, rfl, by decide +kernel, rfl, by decide +kernel, by decide +kernel⟩
abbrev s_levels : Stmt := topS 10
theorem sc_levels : FnScope ["shape", "deepest", "part", "beneath"] ["shape"] (defScope s_levels) := ⟨rfl, rfl, rfl, by decide +kernel, rfl, by decide +kernel, by decide +kernel⟩
abbrev s_mixed : Stmt := topS 12
theorem sc_mixed : FnScope ["_law_number_here", "_law_turn", "_law_first", "_law_second"] ["_law_number_here", "_law_turn"] (defScope s_mixed) := ⟨rfl, rfl, rfl, by decide +kernel, rfl, by decide +kernel, by decide +kernel⟩
abbrev s_bag : Stmt := topS 13
theorem sc_bag : FnScope ["_law_script", "_law_cell", "_law_numbers", "_law_seed", "_law_at"] ["_law_script"] (defScope s_bag) := ⟨rfl, rfl, rfl, by decide +kernel, rfl, by decide +kernel, by decide +kernel⟩
abbrev s_pick : Stmt := topS 14
theorem sc_pick : FnScope ["_law_bag_here", "_law_many", "_law_turn", "_law_cell", "_law_worth"] ["_law_bag_here", "_law_many"] (defScope s_pick) := ⟨rfl, rfl, rfl, by decide +kernel, rfl, by decide +kernel, by decide +kernel⟩
abbrev s_choice : Stmt := topS 15
theorem sc_choice : FnScope ["_law_bag_here", "_law_things"] ["_law_bag_here", "_law_things"] (defScope s_choice) := ⟨rfl, rfl, rfl, by decide +kernel, rfl, by decide +kernel, by decide +kernel⟩
abbrev s_mingled : Stmt := topS 16
theorem sc_mingled : FnScope ["_law_bag_here", "_law_things", "_law_left", "_law_out", "_law_step"] ["_law_bag_here", "_law_things"] (defScope s_mingled) := ⟨rfl, rfl, rfl, by decide +kernel, rfl, by decide +kernel, by decide +kernel⟩
abbrev s_number : Stmt := topS 17
theorem sc_number : FnScope ["_law_thing"] ["_law_thing"] (defScope s_number) := ⟨rfl, rfl, rfl, by decide +kernel, rfl, by decide +kernel, by decide +kernel⟩
abbrev s_new_name : Stmt := topS 18
theorem sc_new_name : FnScope ["_law_bag_here", "_law_used", "_law_letters", "_law_told", "_law_near", "_law_at", "_law_tails", "_law_step", "_law_k", "_law_tail"] ["_law_bag_here", "_law_used"] (defScope s_new_name) := ⟨rfl, rfl, rfl, by decide +kernel, rfl, by decide +kernel, by decide +kernel⟩
abbrev s_parts : Stmt := topS 19
theorem sc_parts : FnScope ["_law_shape"] ["_law_shape"] (defScope s_parts) := ⟨rfl, rfl, rfl, by decide +kernel, rfl, by decide +kernel, by decide +kernel⟩
abbrev s_law_numbered : Stmt := topS 20
theorem sc_law_numbered : FnScope ["_law_shape", "_law_out", "_law_part"] ["_law_shape"] (defScope s_law_numbered) := ⟨rfl, rfl, rfl, by decide +kernel, rfl, by decide +kernel, by decide +kernel⟩
abbrev s_row : Stmt := topS 21
theorem sc_row : FnScope ["_law_bag_here", "_law_most", "_law_items"] ["_law_bag_here", "_law_most"] (defScope s_row) := ⟨rfl, rfl, rfl, by decide +kernel, rfl, by decide +kernel, by decide +kernel⟩
abbrev s_simple : Stmt := topS 22
theorem sc_simple : FnScope ["_law_bag_here", "_law_readable", "_law_deep", "_law_way", "_law_word", "_law_test"] ["_law_bag_here", "_law_readable", "_law_deep"] (defScope s_simple) := ⟨rfl, rfl, rfl, by decide +kernel, rfl, by decide +kernel, by decide +kernel⟩
abbrev s_leaf : Stmt := topS 23
theorem sc_leaf : FnScope ["_law_bag_here", "_law_used", "_law_readable", "_law_way", "_law_inner", "_law_forms", "_law_menu", "_law_step"] ["_law_bag_here", "_law_used", "_law_readable"] (defScope s_leaf) := ⟨rfl, rfl, rfl, by decide +kernel, rfl, by decide +kernel, by decide +kernel⟩
abbrev s_grown : Stmt := topS 24
theorem sc_grown : FnScope ["_law_bag_here", "_law_used", "_law_readable", "_law_level", "_law_left", "_law_way", "_law_many", "_law_parts_here", "_law_step", "_law_first", "_law_second"] ["_law_bag_here", "_law_used", "_law_readable", "_law_level", "_law_left"] (defScope s_grown) := ⟨rfl, rfl, rfl, by decide +kernel, rfl, by decide +kernel, by decide +kernel⟩
abbrev s_lined : Stmt := topS 25
theorem sc_lined : FnScope ["_law_word", "_law_p"] ["_law_word", "_law_p"] (defScope s_lined) := ⟨rfl, rfl, rfl, by decide +kernel, rfl, by decide +kernel, by decide +kernel⟩
abbrev s_sown : Stmt := topS 26
theorem sc_sown : FnScope ["_law_called", "_law_f"] ["_law_called", "_law_f"] (defScope s_sown) := ⟨rfl, rfl, rfl, by decide +kernel, rfl, by decide +kernel, by decide +kernel⟩
abbrev s_listed : Stmt := topS 27
theorem sc_listed : FnScope ["_law_test", "_law_menu", "_law_key", "_law_called", "_law_f"] ["_law_test", "_law_menu", "_law_key", "_law_called", "_law_f"] (defScope s_listed) := ⟨rfl, rfl, rfl, by decide +kernel, rfl, by decide +kernel, by decide +kernel⟩
abbrev s_built : Stmt := topS 28
theorem sc_built : FnScope ["_law_shape", "_law_word", "_law_part"] ["_law_shape"] (defScope s_built) := ⟨rfl, rfl, rfl, by decide +kernel, rfl, by decide +kernel, by decide +kernel⟩
abbrev s_high : Stmt := topS 29
theorem sc_high : FnScope ["_law_shape", "_law_high_here", "_law_part", "_law_inner"] ["_law_shape"] (defScope s_high) := ⟨rfl, rfl, rfl, by decide +kernel, rfl, by decide +kernel, by decide +kernel⟩
abbrev s_asked : Stmt := topS 30
theorem sc_asked : FnScope ["_law_shape", "_law_due", "_law_built_here", "_law_told", "_law_high_here", "_law_at", "_law_part"] ["_law_shape"] (defScope s_asked) := ⟨rfl, rfl, rfl, by decide +kernel, rfl, by decide +kernel, by decide +kernel⟩
abbrev s_unchecked : Stmt := topS 31
theorem sc_unchecked : FnScope ["_law_bag_here", "_law_odd", "_law_first", "_law_second", "_law_third"] ["_law_bag_here", "_law_odd"] (defScope s_unchecked) := ⟨rfl, rfl, rfl, by decide +kernel, rfl, by decide +kernel, by decide +kernel⟩
abbrev s_law : Stmt := topS 32
theorem sc_law : FnScope ["_law_script", "_law_bag_here", "_law_used", "_law_step", "_law_readable", "_law_turn", "_law_left"] ["_law_script"] (defScope s_law) := ⟨rfl, rfl, rfl, by decide +kernel, rfl, by decide +kernel, by decide +kernel⟩
/-- what the top leaves -/
structure Top (K : PySem.W.Frag) (mg : Str → Option Value) (W : World) where
  m_abs : mg "abs" = none
  m_bool : mg "bool" = none
  m_enumerate : mg "enumerate" = none
  m_int : mg "int" = none
  m_isinstance : mg "isinstance" = none
  m_len : mg "len" = none
  m_list : mg "list" = none
  m_min : mg "min" = none
  m_range : mg "range" = none
  m_repr : mg "repr" = none
  m_tuple : mg "tuple" = none
  a_text_shape : Addr
  d_text_shape : FuncData
  F_text_shape : Fun K "text_shape" "text_shape" s_text_shape a_text_shape d_text_shape
  b_text_shape : Binds K d_text_shape ["form"] []
  g_text_shape : mg "text_shape" = some (.ref a_text_shape)
  a_button_shape : Addr
  d_button_shape : FuncData
  F_button_shape : Fun K "button_shape" "button_shape" s_button_shape a_button_shape d_button_shape
  b_button_shape : Binds K d_button_shape ["word"] []
  g_button_shape : mg "button_shape" = some (.ref a_button_shape)
  a_row_shape : Addr
  d_row_shape : FuncData
  F_row_shape : Fun K "row_shape" "row_shape" s_row_shape a_row_shape d_row_shape
  b_row_shape : BindsS d_row_shape [] "parts"
  g_row_shape : mg "row_shape" = some (.ref a_row_shape)
  a_col_shape : Addr
  d_col_shape : FuncData
  F_col_shape : Fun K "col_shape" "col_shape" s_col_shape a_col_shape d_col_shape
  b_col_shape : BindsS d_col_shape [] "parts"
  g_col_shape : mg "col_shape" = some (.ref a_col_shape)
  a_when_shape : Addr
  d_when_shape : FuncData
  F_when_shape : Fun K "when_shape" "when_shape" s_when_shape a_when_shape d_when_shape
  b_when_shape : Binds K d_when_shape ["form", "first", "second"] []
  g_when_shape : mg "when_shape" = some (.ref a_when_shape)
  a_put_shape : Addr
  d_put_shape : FuncData
  F_put_shape : Fun K "put_shape" "put_shape" s_put_shape a_put_shape d_put_shape
  b_put_shape : BindsS d_put_shape ["component"] "forms"
  g_put_shape : mg "put_shape" = some (.ref a_put_shape)
  a_each_shape : Addr
  d_each_shape : FuncData
  F_each_shape : Fun K "each_shape" "each_shape" s_each_shape a_each_shape d_each_shape
  b_each_shape : BindsS d_each_shape ["form", "menu", "key", "component"] "forms"
  g_each_shape : mg "each_shape" = some (.ref a_each_shape)
  a_part_shapes : Addr
  d_part_shapes : FuncData
  F_part_shapes : Fun K "part_shapes" "part_shapes" s_part_shapes a_part_shapes d_part_shapes
  b_part_shapes : Binds K d_part_shapes ["shape"] []
  g_part_shapes : mg "part_shapes" = some (.ref a_part_shapes)
  a_numbered : Addr
  d_numbered : FuncData
  F_numbered : Fun K "numbered" "numbered" s_numbered a_numbered d_numbered
  b_numbered : Binds K d_numbered ["shape"] []
  g_numbered : mg "numbered" = some (.ref a_numbered)
  a_levels : Addr
  d_levels : FuncData
  F_levels : Fun K "levels" "levels" s_levels a_levels d_levels
  b_levels : Binds K d_levels ["shape"] []
  g_levels : mg "levels" = some (.ref a_levels)
  a_mixed : Addr
  d_mixed : FuncData
  F_mixed : Fun K "_law_mixed" "_law_mixed" s_mixed a_mixed d_mixed
  b_mixed : Binds K d_mixed ["_law_number_here", "_law_turn"] []
  g_mixed : mg "_law_mixed" = some (.ref a_mixed)
  a_bag : Addr
  d_bag : FuncData
  F_bag : Fun K "_law_bag" "_law_bag" s_bag a_bag d_bag
  b_bag : Binds K d_bag ["_law_script"] []
  g_bag : mg "_law_bag" = some (.ref a_bag)
  a_pick : Addr
  d_pick : FuncData
  F_pick : Fun K "_law_pick" "_law_pick" s_pick a_pick d_pick
  b_pick : Binds K d_pick ["_law_bag_here", "_law_many"] []
  g_pick : mg "_law_pick" = some (.ref a_pick)
  a_choice : Addr
  d_choice : FuncData
  F_choice : Fun K "_law_choice" "_law_choice" s_choice a_choice d_choice
  b_choice : Binds K d_choice ["_law_bag_here", "_law_things"] []
  g_choice : mg "_law_choice" = some (.ref a_choice)
  a_mingled : Addr
  d_mingled : FuncData
  F_mingled : Fun K "_law_mingled" "_law_mingled" s_mingled a_mingled d_mingled
  b_mingled : Binds K d_mingled ["_law_bag_here", "_law_things"] []
  g_mingled : mg "_law_mingled" = some (.ref a_mingled)
  a_number : Addr
  d_number : FuncData
  F_number : Fun K "_law_number" "_law_number" s_number a_number d_number
  b_number : Binds K d_number ["_law_thing"] []
  g_number : mg "_law_number" = some (.ref a_number)
  a_new_name : Addr
  d_new_name : FuncData
  F_new_name : Fun K "_law_new_name" "_law_new_name" s_new_name a_new_name d_new_name
  b_new_name : Binds K d_new_name ["_law_bag_here", "_law_used"] []
  g_new_name : mg "_law_new_name" = some (.ref a_new_name)
  a_parts : Addr
  d_parts : FuncData
  F_parts : Fun K "_law_parts" "_law_parts" s_parts a_parts d_parts
  b_parts : Binds K d_parts ["_law_shape"] []
  g_parts : mg "_law_parts" = some (.ref a_parts)
  a_law_numbered : Addr
  d_law_numbered : FuncData
  F_law_numbered : Fun K "_law_numbered" "_law_numbered" s_law_numbered a_law_numbered d_law_numbered
  b_law_numbered : Binds K d_law_numbered ["_law_shape"] []
  g_law_numbered : mg "_law_numbered" = some (.ref a_law_numbered)
  a_row : Addr
  d_row : FuncData
  F_row : Fun K "_law_row" "_law_row" s_row a_row d_row
  b_row : Binds K d_row ["_law_bag_here", "_law_most"] []
  g_row : mg "_law_row" = some (.ref a_row)
  a_simple : Addr
  d_simple : FuncData
  F_simple : Fun K "_law_simple" "_law_simple" s_simple a_simple d_simple
  b_simple : Binds K d_simple ["_law_bag_here", "_law_readable", "_law_deep"] []
  g_simple : mg "_law_simple" = some (.ref a_simple)
  a_leaf : Addr
  d_leaf : FuncData
  F_leaf : Fun K "_law_leaf" "_law_leaf" s_leaf a_leaf d_leaf
  b_leaf : Binds K d_leaf ["_law_bag_here", "_law_used", "_law_readable"] []
  g_leaf : mg "_law_leaf" = some (.ref a_leaf)
  a_grown : Addr
  d_grown : FuncData
  F_grown : Fun K "_law_grown" "_law_grown" s_grown a_grown d_grown
  b_grown : Binds K d_grown ["_law_bag_here", "_law_used", "_law_readable", "_law_level", "_law_left"] []
  g_grown : mg "_law_grown" = some (.ref a_grown)
  a_lined : Addr
  d_lined : FuncData
  F_lined : Fun K "_law_lined" "_law_lined" s_lined a_lined d_lined
  b_lined : Binds K d_lined ["_law_word", "_law_p"] []
  g_lined : mg "_law_lined" = some (.ref a_lined)
  a_sown : Addr
  d_sown : FuncData
  F_sown : Fun K "_law_sown" "_law_sown" s_sown a_sown d_sown
  b_sown : Binds K d_sown ["_law_called", "_law_f"] []
  g_sown : mg "_law_sown" = some (.ref a_sown)
  a_listed : Addr
  d_listed : FuncData
  F_listed : Fun K "_law_listed" "_law_listed" s_listed a_listed d_listed
  b_listed : Binds K d_listed ["_law_test", "_law_menu", "_law_key", "_law_called", "_law_f"] []
  g_listed : mg "_law_listed" = some (.ref a_listed)
  a_built : Addr
  d_built : FuncData
  F_built : Fun K "_law_built" "_law_built" s_built a_built d_built
  b_built : Binds K d_built ["_law_shape"] []
  g_built : mg "_law_built" = some (.ref a_built)
  a_high : Addr
  d_high : FuncData
  F_high : Fun K "_law_high" "_law_high" s_high a_high d_high
  b_high : Binds K d_high ["_law_shape"] []
  g_high : mg "_law_high" = some (.ref a_high)
  a_asked : Addr
  d_asked : FuncData
  F_asked : Fun K "_law_asked" "_law_asked" s_asked a_asked d_asked
  b_asked : Binds K d_asked ["_law_shape"] []
  g_asked : mg "_law_asked" = some (.ref a_asked)
  a_unchecked : Addr
  d_unchecked : FuncData
  F_unchecked : Fun K "_law_unchecked" "_law_unchecked" s_unchecked a_unchecked d_unchecked
  b_unchecked : Binds K d_unchecked ["_law_bag_here", "_law_odd"] []
  g_unchecked : mg "_law_unchecked" = some (.ref a_unchecked)
  a_law : Addr
  d_law : FuncData
  F_law : Fun K "law" "law" s_law a_law d_law
  b_law : Binds K d_law ["_law_script"] []
  g_law : mg "law" = some (.ref a_law)
/-! ### the bag -/
structure Bag (G : Hp) (o : HO) : Prop where
  ex : ∃ (n : Addr) (ns : List Int) (i g t s : Int), o = .lst [.ref n, .int i, .int g, .int t, .int s] ∧ G n = some (.lst (ns.map V.int)) ∧ 0 ≤ i ∧ 0 ≤ g
theorem Bag.same {G G' : Hp} {o : HO} (e : Same G G') (b : Bag G o) : Bag G' o := by
  obtain ⟨n, ns, i, g, t, s, h1, h2, h3⟩ := b.ex
  exact ⟨n, ns, i, g, t, s, h1, e _ _ h2, h3⟩

section
variable {P : Program} {w : World} {K : PySem.W.Frag} {mg : Str → Option Value} {base : Heap}
def spMixed : Sp := fun vs H Q _ => ∃ n t : Int, vs = [.int n, .int t] ∧ ∀ r : Int, 0 ≤ r → r < 2147483587 → Q (.int r) H
theorem ok_mixed (T : Top K mg w) {k : Nat} : FnOk P w K mg base CX0 (k + 1) T.a_mixed T.d_mixed ["_law_number_here", "_law_turn"] spMixed := by
  refine T.F_mixed.ok sc_mixed (fun vs H Q E h => ?_) (fun cdv A outer s H vs Q E hr h => ?_)
  · obtain ⟨n, t, rfl, _⟩ := h
    rfl
  · obtain ⟨n, t, rfl, q⟩ := h
    refine ⟨_, (pss_cons (ps_set (i := 2) sc_mixed.nd rfl (.inl rfl) (pe_op op_modY (pe_callTy cr_int (by rfl) T.m_int (by decide +kernel) (pa_cons (pe_op op_addY (pe_op op_mulY (pe_op op_addY (xv 0) pe_int) pe_int) (pe_op op_mulY (pe_op op_addY (xv 1) pe_int) pe_int)) pa_nil)) pe_int))
      (pss_cons (ps_set (i := 3) sc_mixed.nd rfl (.inl rfl) (pe_op op_modY (pe_callTy cr_int (by rfl) T.m_int (by decide +kernel) (pa_cons (pe_op op_addY (pe_op op_addY (pe_op op_mulY (xv 2) (xv 2)) (pe_op op_mulY (xv 2) pe_int)) (pe_op op_mulY (pe_op op_addY (xv 1) pe_int) pe_int)) pa_nil)) pe_int))
      (pss_one (ps_ret (pe_op op_modY (pe_callTy cr_int (by rfl) T.m_int (by decide +kernel) (pa_cons (pe_op op_addY (pe_op op_addY (pe_op op_divY (xv 3) pe_int) (pe_op op_mulY (xv 3) pe_int)) (xv 1)) pa_nil)) pe_int))))), ?_⟩
    refine ⟨.inr ⟨by decide, by decide⟩, .inr ⟨by decide, by decide⟩, by decide, fun f _ f0 f1 => ?_⟩
    refine ⟨.inl ⟨by omega, by omega⟩, .inr ⟨by decide, by decide⟩, .inr ⟨by decide, by decide⟩, by decide, fun g _ g0 g1 => ?_⟩
    refine ⟨⟨by decide, by decide⟩, fun d _ _ => ⟨.inr ⟨by decide, by decide⟩, by decide, fun r _ r0 r1 => ?_⟩⟩
    exact q r r0 r1

def spPick : Sp := fun vs H Q _ => ∃ (G : Hp) (M : List (Addr × HO)) (b : Addr) (o : HO) (n : Int), vs = [.ref b, .int n] ∧ Sep G ((b, o) :: M) H ∧ Bag G o ∧ 0 < n ∧ n < 1073741824 ∧
  ∀ (r : Int) (o' : HO) (H' : Hp), 0 ≤ r → r < n → Bag G o' → Sep G ((b, o') :: M) H' → Q (.int r) H'
theorem ok_pick (T : Top K mg w) {k : Nat} (G_mixed : FnOk P w K mg base CX0 (k + 1) T.a_mixed T.d_mixed ["_law_number_here", "_law_turn"] spMixed) :
    FnOk P w K mg base CX0 (k + 2) T.a_pick T.d_pick ["_law_bag_here", "_law_many"] spPick := by
  refine T.F_pick.ok sc_pick (fun vs H Q E h => ?_) (fun cdv A outer s H vs Q E hr h => ?_)
  · obtain ⟨G, M, b, o, n, rfl, _⟩ := h
    rfl
  · obtain ⟨G, M, b, o, n, rfl, S, B, n0, n1, q⟩ := h
    obtain ⟨N, ns, i, g, t, z, rfl, hN, i0, g0⟩ := B.ex
    refine ⟨_, (pss_cons (ps_set (i := 2) sc_pick.nd rfl (.inl rfl) (pe_ix (ix_k K) (xv 0) pe_int (fun _ _ => rfl)))
      (pss_cons (ps_asg (pe_op op_addY (xv 2) pe_int) (pg_sub (xv 0) pe_int set_list))
      (xss_cut (xs_if (PW.pt (xw_and (xt_cmp (op_eqK K hr.units) (pe_ix (ix_k K) (xv 0) pe_int (fun _ _ => rfl)) pe_int (nomark _)) (pw_and1 (xt_cmp op_ltY (pe_ix (ix_k K) (xv 0) pe_int (fun _ _ => rfl)) (pe_callB (cr_lenK K) (by rfl) T.m_len (by decide +kernel) (pa_cons (pe_ix (ix_k K) (xv 0) pe_int (fun _ _ => rfl)) pa_nil)) (nomark _)))))
      (pss_cons (ps_set (i := 3) sc_pick.nd rfl (.inl rfl) (pe_ix (ix_k K) (pe_ix (ix_k K) (xv 0) pe_int (fun _ _ => rfl)) (pe_ix (ix_k K) (xv 0) pe_int (fun _ _ => rfl)) (fun _ _ => rfl)))
      (pss_cons (ps_asg (pe_op op_addY (pe_ix (ix_k K) (xv 0) pe_int (fun _ _ => rfl)) pe_int) (pg_sub (xv 0) pe_int set_list))
      (pss_cons (xs_if (xt_cmp op_ltY (pe_callB cr_abs (by rfl) T.m_abs (by decide +kernel) (pa_cons (xv 3) pa_nil)) (pe_op op_powY pe_int pe_int) (nomark _))
      (pss_one (ps_ret (pe_op op_modY (pe_callTy cr_int (by rfl) T.m_int (by decide +kernel) (pa_cons (pe_call G_mixed (hr.mono (by omega)) (by rfl) T.g_mixed T.F_mixed.kp T.b_mixed .nil pass0 (pa_cons (pe_op op_addY (pe_op op_mulY pe_int (pe_callB cr_abs (by rfl) T.m_abs (by decide +kernel) (pa_cons (xv 3) pa_nil))) (pe_cmpR op_ltY (xv 3) pe_int (nomark _))) (pa_cons (xv 2) pa_nil))) pa_nil)) (xv 1))))
      pss_nil)
      (pss_one (ps_asg (pe_callB cr_abs (by rfl) T.m_abs (by decide +kernel) (pa_cons (xv 3) pa_nil)) (pg_sub (xv 0) pe_int set_list))))))
      pss_nil)
      (pss_cons (xs_if (xt_cmp (op_eqK K hr.units) (pe_ix (ix_k K) (xv 0) pe_int (fun _ _ => rfl)) pe_int (nomark _))
      (pss_one (ps_ret (pe_op op_modY (pe_callTy cr_int (by rfl) T.m_int (by decide +kernel) (pa_cons (pe_call G_mixed (hr.mono (by omega)) (by rfl) T.g_mixed T.F_mixed.kp T.b_mixed .nil pass0 (pa_cons (pe_ix (ix_k K) (xv 0) pe_int (fun _ _ => rfl)) (pa_cons (xv 2) pa_nil))) pa_nil)) (xv 1))))
      pss_nil)
      (pss_cons (ps_set (i := 4) sc_pick.nd rfl (.inl rfl) (pe_op op_modY (pe_callTy cr_int (by rfl) T.m_int (by decide +kernel) (pa_cons (pe_ix (ix_k K) (xv 0) pe_int (fun _ _ => rfl)) pa_nil)) (xv 1)))
      (pss_cons (ps_asg (pe_op op_divY (pe_ix (ix_k K) (xv 0) pe_int (fun _ _ => rfl)) (xv 1)) (pg_sub (xv 0) pe_int set_list))
      (pss_one (ps_ret (xv 4))))))))), ?_⟩
    -- the turn
    refine ⟨_, _, .inl (SqL.of S.hd), rfl, b, _, _, 3, rfl, rfl, S.hd, rfl, ?_⟩
    have S1 := S.set (o' := .lst [.ref N, .int i, .int g, .int (t + 1), .int z])
    have fin : ∀ (j : Int) (g' : Int) (H2 : Hp), 0 ≤ j → 0 ≤ g' → Sep G ((b, .lst [.ref N, .int j, .int g', .int (t + 1), .int z]) :: M) H2 → (g' = 0 → ∀ r : Int, 0 ≤ r → r < n → Q (.int r) H2) ∧
        (∀ (r d : Int), 0 ≤ r → r < n → 0 ≤ d → Q (.int r) (upd H2 b (.lst [.ref N, .int j, .int d, .int (t + 1), .int z]))) := fun j g' H2 j0 h0 S2 =>
      ⟨fun _ r r0 r1 => q r _ _ r0 r1 ⟨N, ns, j, g', t + 1, z, rfl, hN, j0, h0⟩ S2, fun r d r0 r1 d0 => q r _ _ r0 r1 ⟨N, ns, j, d, t + 1, z, rfl, hN, j0, d0⟩ S2.set⟩
    -- the rest, from a bag on
    refine ⟨fun σ H2 => ∃ (y3 y4 : Option V) (j g' : Int), σ = [some (.ref b), some (.int n), some (.int t), y3, y4] ∧ 0 ≤ j ∧ 0 ≤ g' ∧ Sep G ((b, .lst [.ref N, .int j, .int g', .int (t + 1), .int z]) :: M) H2, ?_, fun σ H2 h => ?_⟩
    · have go : ∃ (y3 y4 : Option V) (j g' : Int), ([some (.ref b), some (.int n), some (.int t), none, none] : List (Option V)) = [some (.ref b), some (.int n), some (.int t), y3, y4] ∧ 0 ≤ j ∧ 0 ≤ g' ∧ Sep G ((b, .lst [.ref N, .int j, .int g', .int (t + 1), .int z]) :: M) _ := ⟨_, _, i, g, rfl, i0, g0, S1⟩
      refine ⟨_, _, .inl (SqL.of S1.hd), rfl, fun e => ⟨_, _, .inl (SqL.of S1.hd), rfl, _, _, .inl (SqL.of S1.hd), rfl, _, .inl (SqL.of (S1.st hN)), fun e => ?_, fun e => go⟩, fun e => ⟨ff, fun _ => go⟩⟩
      have hi : i < (ns.map V.int).length := of_decide_eq_true e
      obtain ⟨v, hv, hm⟩ := atI_in i0 hi
      obtain ⟨c, _, rfl⟩ := List.mem_map.mp hm
      refine ⟨_, _, .inl (SqL.of S1.hd), rfl, _, _, .inl (SqL.of S1.hd), rfl, _, _, .inl (SqL.of (S1.st hN)), hv, ?_⟩
      refine ⟨_, _, .inl (SqL.of S1.hd), rfl, b, _, _, 1, rfl, rfl, S1.hd, rfl, ?_⟩
      have S2 := S1.set (o' := .lst [.ref N, .int (i + 1), .int g, .int (t + 1), .int z])
      refine ⟨⟨by decide, by decide, by decide⟩, fun p _ => ⟨fun e => ?_, fun e => ?_⟩⟩
      · refine ⟨.inl ⟨by decide, by decide⟩, _, _, rfl, fun m _ _ => ⟨n0, fun r _ r0 r1 => ?_⟩⟩
        exact q r _ _ r0 r1 ⟨N, ns, i + 1, g, t + 1, z, rfl, hN, by omega, g0⟩ S2
      · refine ⟨b, _, _, 2, rfl, rfl, S2.hd, rfl, ?_⟩
        exact ⟨_, _, i + 1, c.natAbs, rfl, by omega, by omega, S2.set⟩
    · obtain ⟨y3, y4, j, g', rfl, j0, h0, S2⟩ := h
      obtain ⟨f1, f2⟩ := fin j g' H2 j0 h0 S2
      refine ⟨_, _, .inl (SqL.of S2.hd), rfl, fun e => ?_, fun e => ?_⟩
      · refine ⟨_, _, .inl (SqL.of S2.hd), rfl, _, _, rfl, fun m _ _ => ⟨n0, fun r _ r0 r1 => ?_⟩⟩
        exact f1 (of_decide_eq_true e) r r0 r1
      · refine ⟨_, _, .inl (SqL.of S2.hd), rfl, n0, fun r _ r0 r1 => ?_⟩
        refine ⟨_, _, .inl (SqL.of S2.hd), rfl, ⟨n0, n1⟩, fun d _ d0 => ⟨b, _, _, 2, rfl, rfl, S2.hd, rfl, ?_⟩⟩
        exact f2 r d r0 r1 (d0 h0)

def spBag (K : PySem.W.Frag) : Sp := fun vs H Q _ => ∃ (G : Hp) (M : List (Addr × HO)) (a : Addr) (ns : List Int), vs = [.ref a] ∧ Sep G M H ∧ SqL K G a (ns.map V.int) ∧ ns.length ≤ 63 ∧
  ∀ (b : Addr) (o : HO) (G' H' : Hp), Same G G' → Bag G' o → Sep G' ((b, o) :: M) H' → Q (.ref b) H'
theorem ok_bag (T : Top K mg w) {k : Nat} : FnOk P w K mg base CX0 (k + 1) T.a_bag T.d_bag ["_law_script"] (spBag K) := by
  refine T.F_bag.ok sc_bag (fun vs H Q E h => ?_) (fun cdv A outer s H vs Q E hr h => ?_)
  · obtain ⟨G, M, a, ns, rfl, _⟩ := h
    rfl
  · obtain ⟨G, M, a, ns, rfl, S, hA, hl, q⟩ := h
    refine ⟨_, (pss_cons (ps_setLc (i := 2) (own := [("_law_cell", 1)]) (by rfl) sc_bag.nd rfl rfl (sw_true rfl rfl rfl (by decide +kernel)) (pi_listK K (xv 0)) (blkOk_by (N := ["_law_script", "_law_cell", "_law_numbers", "_law_seed", "_law_at"]) (sc := defScope s_bag) (by decide +kernel)) (fun _ _ _ _ _ => (pg_name (i := 1) sc_bag.nd rfl (.inl rfl))) (fun _ _ _ _ _ => pts_nil) (fun _ _ _ _ _ => (pe_callTy cr_int (by rfl) T.m_int (by decide +kernel) (pa_cons (xv 1) pa_nil))))
      (pss_cons (ps_set (i := 3) sc_bag.nd rfl (.inl rfl) (pe_callB (cr_lenK K) (by rfl) T.m_len (by decide +kernel) (pa_cons (xv 2) pa_nil)))
      (pss_cons (ps_for PassesOwn.never rfl (pi_enum (by rfl) T.m_enumerate (pa_cons (pe_slice (sl_listK K) (xv 2) po_none (po_some pe_int)) pa_nil)) (pg_tupK K 2 (pgs_cons (pg_name (i := 4) sc_bag.nd rfl (.inl rfl)) (pgs_cons (pg_name (i := 1) sc_bag.nd rfl (.inl rfl)) pgs_nil)))
      (pss_one (ps_set (i := 3) sc_bag.nd rfl (.inl rfl) (pe_op op_modY (pe_callTy cr_int (by rfl) T.m_int (by decide +kernel) (pa_cons (pe_op op_addY (pe_op op_addY (pe_op op_mulY (xv 3) pe_int) (pe_op op_modY (pe_callTy cr_int (by rfl) T.m_int (by decide +kernel) (pa_cons (pe_callB cr_abs (by rfl) T.m_abs (by decide +kernel) (pa_cons (xv 1) pa_nil)) pa_nil)) pe_int)) (pe_op op_mulY (pe_op op_addY (xv 4) pe_int) (pe_cmpR op_ltY (xv 1) pe_int (nomark _)))) pa_nil)) pe_int))))
      (pss_one (ps_ret (pe_lst (pa_cons (xv 2) (pa_cons pe_int (pa_cons pe_int (pa_cons pe_int (pa_cons (xv 3) pa_nil))))))))))), ?_⟩
    refine ⟨a, rfl, ⟨_, S.l hA⟩, fun L nL => lc_pre (xs := ns.map V.int) (fun pre H' => Sep G ((L, .lst pre) :: M) H') (S.new nL) (fun pre H' p => p.l hA) (fun _ => rfl) (fun pre x post H' e p => ?_) (fun H' S1 => ?_)⟩
    · obtain ⟨c, _, rfl⟩ := List.mem_map.mp (show x ∈ ns.map V.int by rw [e]; simp)
      have hz : pre.length ≤ 63 := by
        have z := congrArg List.length e
        rw [List.length_map, List.length_append] at z
        omega
      exact ⟨_, p.hd, smallL (by omega), p.set⟩
    · -- the seed
      have S2 := S1.frz
      have hN : upd G L (.lst (ns.map V.int)) L = some (.lst (ns.map V.int)) := upd_same
      refine ⟨_, .inl (SqL.of (S2.st hN)), ?_⟩
      refine ⟨63, rfl, L, _, rfl, SqL.of (S2.st hN), fun c nc => ?_⟩
      have S3 := S2.newG (o := .lst (cutV (ns.map V.int) none (some 63))) nc
      have s3 := S2.grow (o := .lst (cutV (ns.map V.int) none (some 63))) nc
      refine ⟨c, _, rfl, SqL.of (S3.st upd_same), for_enum (xs := cutV (ns.map V.int) none (some 63)) (fun pre σ H' => ∃ (y1 y4 : Option V) (z : Int) (G' : Hp), σ = [some (.ref a), y1, some (.ref L), some (.int z), y4] ∧
        Same (upd (upd G L (.lst (ns.map V.int))) c (.lst (cutV (ns.map V.int) none (some 63)))) G' ∧ Sep G' M H') ⟨_, _, _, _, rfl, Same.refl _, S3⟩ (fun pre σ H' h => ?_) (fun pre x post σ H' W e h nW => ?_) (fun σ H' h => ?_)⟩
      · obtain ⟨_, _, _, G', _, s4, S4⟩ := h
        exact SqL.of (S4.st (s4 _ _ upd_same))
      · obtain ⟨y1, y4, z, G', rfl, s4, S4⟩ := h
        have hx : x ∈ ns.map V.int := by
          have hm : x ∈ cutV (ns.map V.int) none (some 63) := by rw [e]; simp
          exact List.mem_of_mem_drop (List.mem_of_mem_take hm)
        obtain ⟨v, _, rfl⟩ := List.mem_map.mp hx
        have S5 := S4.newG (o := .tup [.int (pre.length : Nat), .int v]) nW
        refine ⟨.inr ⟨by decide, by decide⟩, by decide, fun r _ r0 r1 => ⟨by decide, fun u _ u0 u1 => ?_⟩⟩
        exact ⟨_, _, _, _, rfl, s4.trans (S4.grow nW), S5⟩
      · obtain ⟨y1, y4, z, G', rfl, s4, S4⟩ := h
        refine ⟨sz, fun b nb => ?_⟩
        exact q b _ G' _ ((S1.frzS).trans (s3.trans s4)) ⟨L, ns, 0, 0, 0, z, rfl, s4 _ _ (s3 _ _ hN), by decide, by decide⟩ (S4.new nb)

def spChoice (K : PySem.W.Frag) : Sp := fun vs H Q _ => ∃ (G : Hp) (M : List (Addr × HO)) (b : Addr) (o : HO) (l : Addr) (xs : List V), vs = [.ref b, .ref l] ∧ Sep G ((b, o) :: M) H ∧ Bag G o ∧ SqL K G l xs ∧ 0 < xs.length ∧ xs.length < 100000 ∧
  ∀ (v : V) (o' : HO) (H' : Hp), v ∈ xs → Bag G o' → Sep G ((b, o') :: M) H' → Q v H'
theorem ok_choice (T : Top K mg w) {k : Nat} (G_pick : FnOk P w K mg base CX0 k T.a_pick T.d_pick ["_law_bag_here", "_law_many"] spPick) : FnOk P w K mg base CX0 (k + 1) T.a_choice T.d_choice ["_law_bag_here", "_law_things"] (spChoice K) := by
  refine T.F_choice.ok sc_choice (fun vs H Q E h => ?_) (fun cdv A outer s H vs Q E hr h => ?_)
  · obtain ⟨G, M, b, o, l, xs, rfl, _⟩ := h
    rfl
  · obtain ⟨G, M, b, o, l, xs, rfl, S, B, hl, x0, x1, q⟩ := h
    refine ⟨_, (pss_one (ps_ret (pe_ix (ix_k K) (xv 1) (pe_call G_pick (hr.mono (by omega)) (by rfl) T.g_pick T.F_pick.kp T.b_pick .nil pass0 (pa_cons (xv 0) (pa_cons (pe_callB (cr_lenK K) (by rfl) T.m_len (by decide +kernel) (pa_cons (xv 1) pa_nil)) pa_nil))) (fun _ _ => rfl)))), ?_⟩
    refine ⟨_, .inl (S.l hl), G, M, b, o, _, rfl, S, B, by omega, by omega, fun r o' H' r0 r1 B' S' => ?_⟩
    obtain ⟨v, hv, hm⟩ := atI_in r0 r1
    exact ⟨_, v, .inl (S'.l hl), hv, q v o' H' hm B' S'⟩

def spMingled (K : PySem.W.Frag) : Sp := fun vs H Q _ => ∃ (G : Hp) (M : List (Addr × HO)) (b : Addr) (o : HO) (l : Addr) (xs : List V), vs = [.ref b, .ref l] ∧ Sep G ((b, o) :: M) H ∧ Bag G o ∧ SqL K G l xs ∧ xs.length < 100000 ∧
  ∀ (p : Addr) (ys : List V) (o' : HO) (G' H' : Hp), Same G G' → G' p = some (.lst ys) → ys.Perm xs → Bag G' o' → Sep G' ((b, o') :: M) H' → Q (.ref p) H'
theorem ok_mingled (T : Top K mg w) {k : Nat} (G_pick : FnOk P w K mg base CX0 k T.a_pick T.d_pick ["_law_bag_here", "_law_many"] spPick) : FnOk P w K mg base CX0 (k + 1) T.a_mingled T.d_mingled ["_law_bag_here", "_law_things"] (spMingled K) := by
  refine T.F_mingled.ok sc_mingled (fun vs H Q E h => ?_) (fun cdv A outer s H vs Q E hr h => ?_)
  · obtain ⟨G, M, b, o, l, xs, rfl, _⟩ := h
    rfl
  · obtain ⟨G, M, b, o, l, xs, rfl, S, B, hl, x1, q⟩ := h
    refine ⟨_, (pss_cons (ps_set (i := 2) sc_mingled.nd rfl (.inl rfl) (pe_callTy (call_listK K) (by rfl) T.m_list (by decide +kernel) (pa_cons (xv 1) pa_nil)))
      (pss_cons (ps_set (i := 3) sc_mingled.nd rfl (.inl rfl) (pe_lst pa_nil))
      (pss_cons (ps_for PassesOwn.never rfl (pi_range1 (by rfl) T.m_range (pa_cons (pe_callB (cr_lenK K) (by rfl) T.m_len (by decide +kernel) (pa_cons (xv 1) pa_nil)) pa_nil)) (pg_name (i := 4) sc_mingled.nd rfl (.inl rfl))
      (pss_one (ps_expr (pe_bmK K PySem.F.plainAttrs_list PySem.F.slot_list_append PySem.F.type_list_append mt_append (xv 3) (pa_cons (pe_bmK K PySem.F.plainAttrs_list PySem.F.slot_list_pop PySem.F.type_list_pop mt_popAt (xv 2) (pa_cons (pe_call G_pick (hr.mono (by omega)) (by rfl) T.g_pick T.F_pick.kp T.b_pick .nil pass0 (pa_cons (xv 0) (pa_cons (pe_callB (cr_lenK K) (by rfl) T.m_len (by decide +kernel) (pa_cons (xv 2) pa_nil)) pa_nil))) pa_nil)) pa_nil)))))
      (pss_one (ps_ret (xv 3)))))), ?_⟩
    refine ⟨l, xs, rfl, .inl (S.l hl), fun L nL => ?_⟩
    have S1 := S.new (o := .lst xs) nL
    refine ⟨sz, fun O nO => ?_⟩
    have S2 := S1.new (o := .lst []) nO
    refine ⟨_, .inl (S2.l hl), _, rfl, by omega, by omega, for_range (lo := 0) (n := (xs.length : Int).toNat) (fun i σ H' => ∃ (y4 : Option V) (o' : HO) (ls os : List V), σ = [some (.ref b), some (.ref l), some (.ref L), some (.ref O), y4] ∧
      Bag G o' ∧ Sep G ((O, .lst os) :: (L, .lst ls) :: (b, o') :: M) H' ∧ ls.length + i = xs.length ∧ os.length = i ∧ (os ++ ls).Perm xs) ?_ (fun i σ H' hi h => ?_) (fun σ H' h => ?_)⟩
    · exact ⟨_, o, xs, [], rfl, B, S2, by omega, rfl, List.Perm.refl _⟩
    · obtain ⟨y4, o', ls, os, rfl, B', S3, e1, e2, pm⟩ := h
      have S4 := (S3.sw).perm (List.Perm.cons _ (List.Perm.swap _ _ _))
      have S5 := S4.sw
      -- out.append(left.pop(pick(bag, len(left))))
      refine ⟨.inl ⟨rfl, _, SqL.of S3.hd⟩, .inl ⟨rfl, _, SqL.of S4.hd⟩, _, .inl (SqL.of S4.hd), G, _, b, o', _, rfl, S5, B', by omega, by omega, fun r o2 H2 r0 r1 B2 S6 => ?_⟩
      have S7 := S6.sw
      obtain ⟨v, hv, hm⟩ := atI_in r0 r1
      have S8 := S7.set (o' := .lst (ls.eraseIdx r.toNat))
      have S9 := (S8.perm (List.Perm.cons _ (List.Perm.swap _ _ _))).sw
      refine ⟨L, ls, r, r.toNat, v, rfl, rfl, S7.hd, by omega, by omega, seqIdx r0 r1, atN r0 hv, O, os, v, rfl, rfl, S9.hd, smallL (by omega), ?_⟩
      refine ⟨_, o2, ls.eraseIdx r.toNat, os ++ [v], rfl, B2, S9.set, ?_, ?_, ?_⟩
      · rw [List.length_eraseIdx_of_lt (by omega)]
        omega
      · rw [List.length_append, e2]
        rfl
      · refine List.Perm.trans ?_ pm
        rw [List.append_assoc, List.singleton_append]
        refine List.Perm.append_left _ ?_
        exact perm_erase (atN r0 hv)
    · obtain ⟨y4, o', ls, os, rfl, B', S3, e1, e2, pm⟩ := h
      have S4 := ((S3.frz).drop)
      exact q O os o' _ _ S3.frzS upd_same (by
        have e3 : ls = [] := List.eq_nil_of_length_eq_zero (by omega)
        rw [e3, List.append_nil] at pm
        exact pm) (B'.same S3.frzS) S4

def spNumber : Sp := fun vs H Q _ => ∃ i : Int, vs = [.int i] ∧ Q (.bl true) H
theorem ok_number (T : Top K mg w) {k : Nat} : FnOk P w K mg base CX0 (k + 1) T.a_number T.d_number ["_law_thing"] spNumber := by
  refine T.F_number.ok sc_number (fun vs H Q E h => ?_) (fun cdv A outer s H vs Q E hr h => ?_)
  · obtain ⟨i, rfl, _⟩ := h
    rfl
  · obtain ⟨i, rfl, q⟩ := h
    refine ⟨_, (pss_one (ps_ret (xe_and (pe_callB (call_isK K) (by rfl) T.m_isinstance (by decide +kernel) (pa_cons (xv 0) (pa_cons (pe_bltn (v := .ty "int") (by rfl) T.m_int (by decide +kernel) rfl) pa_nil))) (pe_one (xe_not (pe_callB (call_isK K) (by rfl) T.m_isinstance (by decide +kernel) (pa_cons (xv 0) (pa_cons (pe_bltn (v := .ty "bool") (by rfl) T.m_bool (by decide +kernel) rfl) pa_nil)))))))), ?_⟩
    refine ⟨_, _, _, _, true, rfl, .ty _, .base (.int _), kit_ty (by decide +kernel), fun _ => ⟨_, _, _, _, false, rfl, .ty _, .base (.int _), kit_ty (by decide +kernel), ?_⟩, fun e => nomatch e⟩
    exact q

end
end K32
set_option Elab.async false
set_option linter.all false
set_option maxRecDepth 100000
set_option maxHeartbeats 4000000
namespace K32
open PySem PySem.Spec PyProof.Rows L2 XL
section
variable {P : Program} {w : World} {K : PySem.W.Frag} {mg : Str → Option Value} {base : Heap}
/-! ### a new name -/
def spNew : Sp := fun vs H Q _ => ∃ (G : Hp) (M : List (Addr × HO)) (b : Addr) (o : HO) (l : Addr) (zs : List Str), vs = [.ref b, .ref l] ∧ Sep G ((b, o) :: (l, .lst (zs.map V.str)) :: M) H ∧ Bag G o ∧ (∀ z ∈ zs, Lt 1 8 z) ∧ zs.length ≤ 100 ∧
  ∀ (z : Str) (o' : HO) (H' : Hp), Lt 1 8 z → z ∉ zs → z ≠ "item" → z ≠ "at" → Bag G o' → Sep G ((b, o') :: (l, .lst ((zs ++ [z]).map V.str)) :: M) H' → Q (.str z) H'
theorem letter_ix {r : Int} (h0 : 0 ≤ r) (h1 : r < 26) : ∃ c, atI LS.cps.toList r = some c ∧ c ∈ LS.cps.toList := by
  obtain ⟨k, rfl⟩ := Int.eq_ofNat_of_zero_le h0
  have z := letter_at (show k < 26 by omega)
  exact ⟨_, atI_nat z, List.mem_of_getElem? z⟩
theorem LS_len : LS.length ≤ sizeLine := by decide +kernel
theorem lt_small {a b : Nat} {z : Str} (h : Lt a b z) (hb : b ≤ 100) : z.length ≤ sizeLine := Nat.le_trans h.hi (Nat.le_trans hb (by decide))
def freshOf (p : Str) (zs : List Str) (ts : List Str) : List Str := (ts.filter fun t => !decide (p ++ t ∈ zs)).map fun t => p ++ t
theorem fresh_snoc (p : Str) (us ts : List Str) (t2 : Str) : freshOf p us (ts ++ [t2]) = freshOf p us ts ++ (if !decide (p ++ t2 ∈ us) then [p ++ t2] else []) := by
  unfold freshOf
  rw [List.filter_append, List.map_append]
  congr 1
  by_cases h : p ++ t2 ∈ us <;> simp [h]
theorem ok_new_name (T : Top K mg w) {k : Nat} (G_pick : FnOk P w K mg base CX0 k T.a_pick T.d_pick ["_law_bag_here", "_law_many"] spPick) : FnOk P w K mg base CX0 (k + 1) T.a_new_name T.d_new_name ["_law_bag_here", "_law_used"] spNew := by
  refine T.F_new_name.ok sc_new_name (fun vs H Q E h => ?_) (fun cdv A outer s H vs Q E hr h => ?_)
  · obtain ⟨G, M, b, o, l, zs, rfl, _⟩ := h
    rfl
  · obtain ⟨G, M, b, o, l, zs, rfl, S, B, hz, zl, q⟩ := h
    refine ⟨_, (pss_cons (ps_set (i := 2) sc_new_name.nd rfl (.inr rfl) pe_str)
      (pss_cons (ps_set (i := 3) sc_new_name.nd rfl (.inr rfl) (pe_join pe_str (pe_lc (own := [("_law_step", 7)]) (by rfl) sc_new_name.nd (pi_range1 (by rfl) T.m_range (pa_cons (pe_op op_addY pe_int (pe_call G_pick (hr.mono (by omega)) (by rfl) T.g_pick T.F_pick.kp T.b_pick .nil pass0 (pa_cons (xv 0) (pa_cons pe_int pa_nil)))) pa_nil)) (blkOk_by (N := ["_law_bag_here", "_law_used", "_law_letters", "_law_told", "_law_near", "_law_at", "_law_tails", "_law_step", "_law_k", "_law_tail"]) (sc := defScope s_new_name) (by decide +kernel)) (fun _ _ _ _ _ => (pg_name (i := 7) sc_new_name.nd rfl (.inl rfl))) (fun _ _ _ _ _ => pts_nil) (fun _ _ _ _ _ => (pe_ix (ix_k K) (xv 2) (pe_call G_pick (hr.mono (by omega)) (by rfl) T.g_pick T.F_pick.kp T.b_pick .nil pass0 (pa_cons (xv 0) (pa_cons pe_int pa_nil))) (fun _ _ => rfl))))))
      (xss_cut (xs_if (PW.pt (xw_and (xt_truK K (xv 1)) (pw_and1 (xt_cmp (op_eqK K hr.units) (pe_call G_pick (hr.mono (by omega)) (by rfl) T.g_pick T.F_pick.kp T.b_pick .nil pass0 (pa_cons (xv 0) (pa_cons pe_int pa_nil))) pe_int (nomark _)))))
      (pss_cons (ps_set (i := 4) sc_new_name.nd rfl (.inl rfl) (pe_slice sl_str (pe_ix (ix_k K) (xv 1) (pe_call G_pick (hr.mono (by omega)) (by rfl) T.g_pick T.F_pick.kp T.b_pick .nil pass0 (pa_cons (xv 0) (pa_cons (pe_callB (cr_lenK K) (by rfl) T.m_len (by decide +kernel) (pa_cons (xv 1) pa_nil)) pa_nil))) (fun _ _ => rfl)) po_none (po_some pe_int)))
      (pss_cons (ps_set (i := 5) sc_new_name.nd rfl (.inl rfl) (pe_call G_pick (hr.mono (by omega)) (by rfl) T.g_pick T.F_pick.kp T.b_pick .nil pass0 (pa_cons (xv 0) (pa_cons (pe_callB (cr_lenK K) (by rfl) T.m_len (by decide +kernel) (pa_cons (xv 4) pa_nil)) pa_nil))))
      (pss_one (ps_set (i := 3) sc_new_name.nd rfl (.inr rfl) (pe_op op_addY (pe_op op_addY (pe_slice sl_str (xv 4) po_none (po_some (xv 5))) (pe_ix (ix_k K) (xv 2) (pe_call G_pick (hr.mono (by omega)) (by rfl) T.g_pick T.F_pick.kp T.b_pick .nil pass0 (pa_cons (xv 0) (pa_cons pe_int pa_nil))) (fun _ _ => rfl))) (pe_slice sl_str (xv 4) (po_some (pe_op op_addY (xv 5) pe_int)) po_none))))))
      pss_nil)
      (xss_cut (xs_if (xt_cmp (in_seqK K) (xv 3) (pe_op op_addY (xv 1) (pe_lst (pa_cons pe_str (pa_cons pe_str pa_nil)))) (by rfl))
      (pss_cons (ps_setLc (i := 6) (own := [("_law_k", 8)]) (by rfl) sc_new_name.nd rfl rfl (sw_true rfl rfl rfl (by decide +kernel)) (pi_range1 (by rfl) T.m_range (pa_cons pe_int pa_nil)) (blkOk_by (N := ["_law_bag_here", "_law_used", "_law_letters", "_law_told", "_law_near", "_law_at", "_law_tails", "_law_step", "_law_k", "_law_tail"]) (sc := defScope s_new_name) (by decide +kernel)) (fun _ _ _ _ _ => (pg_name (i := 8) sc_new_name.nd rfl (.inl rfl))) (fun _ _ _ _ _ => pts_nil) (fun _ _ _ _ _ => (pe_op op_addY (pe_ix (ix_k K) (xv 2) (pe_op op_divY (xv 8) pe_int) (fun _ _ => rfl)) (pe_ix (ix_k K) (xv 2) (pe_op op_modY (pe_callTy cr_int (by rfl) T.m_int (by decide +kernel) (pa_cons (xv 8) pa_nil)) pe_int) (fun _ _ => rfl)))))
      (pss_one (ps_set (i := 3) sc_new_name.nd rfl (.inr rfl) (pe_ix (ix_k K) (pe_lc (own := [("_law_tail", 9)]) (by rfl) sc_new_name.nd (pi_listK K (xv 6)) (blkOk_by (N := ["_law_bag_here", "_law_used", "_law_letters", "_law_told", "_law_near", "_law_at", "_law_tails", "_law_step", "_law_k", "_law_tail"]) (sc := defScope s_new_name) (by decide +kernel)) (fun _ _ _ _ _ => (pg_name (i := 9) sc_new_name.nd rfl (.inl rfl))) (fun _ _ _ _ _ => (pts_one (xt_cmp (notin_seqK K) (pe_op op_addY (pe_slice sl_str (xv 3) po_none (po_some pe_int)) (xv 9)) (pe_op op_addY (xv 1) (pe_lst (pa_cons pe_str pa_nil))) (by rfl)))) (fun _ _ _ _ _ => (pe_op op_addY (pe_slice sl_str (xv 3) po_none (po_some pe_int)) (xv 9)))) pe_int (fun _ _ => rfl)))))
      pss_nil)
      (pss_cons (ps_expr (pe_bmK K PySem.F.plainAttrs_list PySem.F.slot_list_append PySem.F.type_list_append mt_append (xv 1) (pa_cons (xv 3) pa_nil)))
      (pss_one (ps_ret (xv 3)))))))), ?_⟩
    -- letters in a row
    refine ⟨⟨_, rfl⟩, G, _, b, o, 6, rfl, S, B, by decide, by decide, fun r1 o1 H1 r10 r11 B1 S1 => ⟨_, rfl, by omega, by omega, fun D nD => lc_range (lo := 0) (n := (1 + r1).toNat) (fun i H' => ∃ (o' : HO) (ys : List Str), Bag G o' ∧ Sep G ((D, .lst (ys.map V.str)) :: (b, o') :: (l, .lst (zs.map V.str)) :: M) H' ∧ ys.length = i ∧ ∀ y ∈ ys, Lt 1 1 y)
      ⟨o1, [], B1, S1.new nD, rfl, fun y hy => absurd hy (by simp)⟩ (fun i H' hi p => ?_) (fun H' p => ?_)⟩⟩
    · obtain ⟨o', ys, B', S', yl, hy⟩ := p
      refine ⟨rfl, G, _, b, o', 26, rfl, S'.sw, B', by decide, by decide, fun r2 o2 H2 r20 r21 B2 S2 => ?_⟩
      obtain ⟨c, hc, hm⟩ := letter_ix r20 r21
      refine ⟨c, LS_len, hc, ys.map V.str, S2.sw.hd, by rw [List.length_map]; exact smallL (by omega), o2, ys ++ [⟨#[c]⟩], B2, ?_, by rw [List.length_append, yl]; rfl, fun y hy' => ?_⟩
      · rw [List.map_append]
        exact S2.sw.set
      · rcases List.mem_append.mp hy' with z | z
        · exact hy y z
        · rw [List.mem_singleton.mp z]
          exact Lt.one hm
    obtain ⟨o2, ys, B2, S2, yl, hy⟩ := p
    refine ⟨_, D, ys, rfl, rfl, .inl (SqL.of S2.hd), ?_, ?_⟩
    · rw [sum_ones hy, show Str.length ("" : Str) = 0 from rfl, Nat.mul_zero]
      omega
    have S3 := S2.drop
    have lt1 : Lt 1 6 (Txt.join "" ys) := (Lt.join hy).wide (by omega) (by omega)
    generalize Txt.join "" ys = t1 at *
    -- near another one
    refine ⟨fun σ H' => ∃ (y4 y5 : Option V) (o' : HO) (t : Str), σ = [some (.ref b), some (.ref l), some (.str LS), some (.str t), y4, y5, none, none, none, none] ∧ Lt 1 6 t ∧ Bag G o' ∧ Sep G ((b, o') :: (l, .lst (zs.map V.str)) :: M) H', ?_, fun σ H4 h => ?_⟩
    · have stay : ∀ (o' : HO) (H' : Hp), Bag G o' → Sep G ((b, o') :: (l, .lst (zs.map V.str)) :: M) H' → ∃ (y4 y5 : Option V) (o' : HO) (t : Str), ([some (.ref b), some (.ref l), some (.str LS), some (.str t1), none, none, none, none, none, none] : List (Option V)) = [some (.ref b), some (.ref l), some (.str LS), some (.str t), y4, y5, none, none, none, none] ∧ Lt 1 6 t ∧ Bag G o' ∧ Sep G ((b, o') :: (l, .lst (zs.map V.str)) :: M) H' :=
        fun o' H' B' S' => ⟨_, _, o', t1, rfl, lt1, B', S'⟩
      refine ⟨_, .inl ⟨_, SqL.of S3.sw.hd, rfl⟩, fun ne => ⟨G, _, b, o2, 3, rfl, S3, B2, by decide, by decide, fun r4 o4 H4 _ _ B4 S4 => ⟨fun _ => ?_, fun _ => stay o4 H4 B4 S4⟩⟩, fun _ => ⟨ff, fun _ => stay o2 _ B2 S3⟩⟩
      have z0 : 0 < zs.length := by
        cases zs with
        | nil => cases ne
        | cons _ _ => simp
      refine ⟨_, .inl (SqL.of S4.sw.hd), G, _, b, o4, _, rfl, S4, B4, by rw [List.length_map]; omega, by rw [List.length_map]; omega, fun r5 o5 H5 r50 r51 B5 S5 => ?_⟩
      obtain ⟨v5, hv5, hm5⟩ := atI_in r50 r51
      obtain ⟨z5, hz5, rfl⟩ := List.mem_map.mp hm5
      have l5 := hz z5 hz5
      refine ⟨_, _, .inl (SqL.of S5.sw.hd), hv5, _, rfl, z5, rfl, lt_small l5 (by decide), ?_⟩
      have ln : Lt 1 6 (cutS z5 none (some (6 : Int))) := (l5.to 6).wide (by decide) (by decide)
      generalize cutS z5 none (some (6 : Int)) = nr at *
      have nlo := ln.lo
      have nhi := ln.hi
      refine ⟨lt_small ln (by decide), G, _, b, o5, _, rfl, S5, B5, by omega, by omega, fun r6 o6 H6 r60 r61 B6 S6 => ?_⟩
      obtain ⟨k6, rfl⟩ := Int.eq_ofNat_of_zero_le r60
      refine ⟨_, rfl, nr, rfl, lt_small ln (by decide), G, _, b, o6, 26, rfl, S6, B6, by decide, by decide, fun r7 o7 H7 r70 r71 B7 S7 => ?_⟩
      obtain ⟨c, hc, hm⟩ := letter_ix r70 r71
      have a1 : (cutS nr none (some (k6 : Int))).length = k6 := by rw [cut_to_len]; omega
      have a2 : (cutS nr (some ((k6 + 1 : Nat) : Int)) none).length = nr.length - (k6 + 1) := cut_from_len nr (k6 + 1) (by omega)
      refine ⟨c, LS_len, hc, ?_, fun t2 et2 => ⟨_, rfl, nr, rfl, lt_small ln (by decide), ?_, fun t3 et3 => ⟨_, _, o7, t3, rfl, ?_, B7, S7⟩⟩⟩
      · rw [a1]
        exact small (by show k6 + 1 ≤ 100000; omega)
      · rw [et2, app_len, a1]
        show k6 + 1 + (cutS nr (some ((k6 + 1 : Nat) : Int)) none).length ≤ sizeLine
        rw [a2]
        exact small (by omega)
      · rw [et3, et2]
        have p1 : Lt k6 k6 (cutS nr none (some (k6 : Int))) := ⟨by omega, by omega, fun d hd => ln.ch d (cut_mem hd)⟩
        have p2 : Lt (nr.length - (k6 + 1)) (nr.length - (k6 + 1)) (cutS nr (some ((k6 + 1 : Nat) : Int)) none) := ⟨by omega, by omega, fun d hd => ln.ch d (cut_mem hd)⟩
        exact ((p1.app (Lt.one hm)).app p2).wide (by omega) (by omega)
    obtain ⟨y4, y5, o4, t, rfl, lt, B4, S4⟩ := h
    -- one that is used
    refine ⟨fun σ H' => ∃ (y6 : Option V) (z : Str), σ = [some (.ref b), some (.ref l), some (.str LS), some (.str z), y4, y5, y6, none, none, none] ∧ Lt 1 8 z ∧ z ∉ zs ∧ z ≠ "item" ∧ z ≠ "at" ∧ Sep G ((b, o4) :: (l, .lst (zs.map V.str)) :: M) H', ?_, fun σ H5 h => ?_⟩
    · refine ⟨sz, fun A1 nA1 => ?_⟩
      have S5 := S4.new (o := .lst [.str "item", .str "at"]) nA1
      refine ⟨l, A1, zs.map V.str, [.str "item", .str "at"], rfl, rfl, S5.at (show (l, HO.lst (zs.map V.str)) ∈ _ by simp), S5.hd, small (by rw [List.length_map]; simp; omega), fun A2 nA2 => ?_⟩
      have e6 : zs.map V.str ++ [V.str "item", .str "at"] = (zs ++ (["item", "at"] : List Str)).map V.str := by rw [List.map_append]; rfl
      rw [e6]
      have S6 := S5.new (o := .lst ((zs ++ (["item", "at"] : List Str)).map V.str)) nA2
      have S7 := S6.drop.drop
      refine ⟨A2, _, rfl, .inl (SqL.of S6.hd), rfl, strs_flat _, fun e1 => ?_, fun e1 => ?_⟩
      · -- its tails
        refine ⟨676, rfl, by decide, by decide, fun D nD => lc_range (lo := 0) (n := (676 : Int).toNat) (fun i H' => Sep G ((D, .lst (((List.range i).map tail2).map V.str)) :: (b, o4) :: (l, .lst (zs.map V.str)) :: M) H') (S7.new nD) (fun i H' hi p => ?_) (fun H8 S8 => ?_)⟩
        · have hi : i < 676 := hi
          rw [Int.zero_add]
          refine ⟨rfl, ⟨by decide, by decide⟩, fun d ed _ => ⟨letter (i / 26), LS_len, ?_, by decide, fun r er r0 r1 => ⟨letter (i % 26), LS_len, ?_, small (by show 1 + 1 ≤ 100000; decide), fun t2 et2 => ⟨_, p.hd, ?_, ?_⟩⟩⟩⟩
          · have z : d = ((i / 26 : Nat) : Int) := by omega
            rw [z]
            exact atI_nat (letter_at (by omega))
          · have z : r = ((i % 26 : Nat) : Int) := by omega
            rw [z]
            exact atI_nat (letter_at (by omega))
          · rw [List.length_map, List.length_map, List.length_range]
            exact smallL (by omega)
          · rw [List.range_succ, List.map_append, List.map_append, et2]
            exact p.set
        have S8 : Sep G ((D, .lst (((List.range 676).map tail2).map V.str)) :: (b, o4) :: (l, .lst (zs.map V.str)) :: M) H8 := S8
        have ltp : Lt 1 6 (cutS t none (some (6 : Int))) := (lt.to 6).wide (by decide) (by decide)
        generalize ep : cutS t none (some (6 : Int)) = p at *
        have tl : ∀ t2 ∈ (List.range 676).map tail2, Lt 2 2 t2 := fun t2 h => by
          obtain ⟨k2, hk2, rfl⟩ := List.mem_map.mp h
          exact tail2_lt (List.mem_range.mp hk2)
        obtain ⟨ts, ets⟩ : ∃ ts, ts = (List.range 676).map tail2 := ⟨_, rfl⟩
        rw [← ets] at tl S8
        have tsl : ts.length = 676 := by rw [ets]; simp
        refine ⟨D, rfl, ⟨_, SqL.of S8.hd⟩, fun F nF => lc_list (xs := ts.map V.str) (fun i H' => Sep G ((F, .lst ((freshOf p (zs ++ (["item"] : List Str)) (ts.take i)).map V.str)) :: (D, .lst (ts.map V.str)) :: (b, o4) :: (l, .lst (zs.map V.str)) :: M) H')
          (S8.new nF) (fun i H' _ p' => SqL.of p'.sw.hd) (fun i x H' hx p' => ?_) (fun H9 S9 => ?_)⟩
        · rw [List.getElem?_map] at hx
          obtain ⟨t2, ht2, rfl⟩ := Option.map_eq_some_iff.mp hx
          have lt2 := tl t2 (List.mem_of_getElem? ht2)
          have il := (List.getElem?_eq_some_iff.mp ht2).1
          have ltb := ltp.app lt2
          have hb := ltb.hi
          rw [app_len] at hb
          have flen : (freshOf p (zs ++ (["item"] : List Str)) (ts.take i)).length ≤ 676 := by
            unfold freshOf
            rw [List.length_map]
            refine Nat.le_trans (List.length_filter_le _ _) ?_
            rw [List.length_take]
            omega
          have fstep : freshOf p (zs ++ (["item"] : List Str)) (ts.take (i + 1)) = freshOf p (zs ++ (["item"] : List Str)) (ts.take i) ++ (if !decide (p ++ t2 ∈ zs ++ (["item"] : List Str)) then [p ++ t2] else []) := by
            rw [XL.take_snoc ht2]
            exact fresh_snoc _ _ _ _
          rw [fstep]
          refine ⟨rfl, _, rfl, t, rfl, lt_small lt (by decide), ?_⟩
          rw [ep]
          refine ⟨small (by omega), fun u1 eu1 => ⟨sz, fun A3 nA3 => ?_⟩⟩
          have Sa := p'.new (o := .lst [.str "item"]) nA3
          refine ⟨l, A3, zs.map V.str, [.str "item"], rfl, rfl, Sa.at (show (l, HO.lst (zs.map V.str)) ∈ _ by simp), Sa.hd, small (by rw [List.length_map]; simp; omega), fun A4 nA4 => ?_⟩
          have e7 : zs.map V.str ++ [V.str "item"] = (zs ++ (["item"] : List Str)).map V.str := by rw [List.map_append]; rfl
          rw [e7]
          have Sb := Sa.new (o := .lst ((zs ++ (["item"] : List Str)).map V.str)) nA4
          refine ⟨A4, _, rfl, .inl (SqL.of Sb.hd), rfl, strs_flat _, ?_⟩
          have e8 : (if true = true then !inV (V.str u1) ((zs ++ (["item"] : List Str)).map V.str) else inV (V.str u1) ((zs ++ (["item"] : List Str)).map V.str)) = !decide (p ++ t2 ∈ zs ++ (["item"] : List Str)) := by rw [if_pos rfl, inV_str, eu1]
          rw [e8]
          have Sc := Sb.drop.drop
          refine tst (fun e9 => ?_) (fun e9 => ?_)
          · rw [if_pos e9]
            refine ⟨_, rfl, t, rfl, lt_small lt (by decide), ?_⟩
            rw [ep]
            refine ⟨small (by omega), fun u2 eu2 => ⟨_, Sc.hd, by rw [List.length_map]; exact smallL (by omega), ?_⟩⟩
            rw [List.map_append, eu2]
            exact Sc.set
          · rw [if_neg (by rw [e9]; exact Bool.false_ne_true), List.append_nil]
            exact Sc
        rw [List.length_map, List.take_length] at S9
        obtain ⟨k0, hk0, no⟩ := unused p (zs ++ (["item"] : List Str)) (by rw [List.length_append]; simp; omega)
        have mem : p ++ tail2 k0 ∈ freshOf p (zs ++ (["item"] : List Str)) ts := by
          unfold freshOf
          refine List.mem_map.mpr ⟨tail2 k0, List.mem_filter.mpr ⟨?_, by simpa using no⟩, rfl⟩
          rw [ets]
          exact List.mem_map.mpr ⟨k0, List.mem_range.mpr hk0, rfl⟩
        cases ef : freshOf p (zs ++ (["item"] : List Str)) ts with
        | nil => rw [ef] at mem; cases mem
        | cons z0 zr =>
          rw [ef] at S9
          have hz0 : z0 ∈ freshOf p (zs ++ (["item"] : List Str)) ts := by rw [ef]; exact List.mem_cons_self
          unfold freshOf at hz0
          obtain ⟨t2, ht2, rfl⟩ := List.mem_map.mp hz0
          obtain ⟨h1, h2⟩ := List.mem_filter.mp ht2
          have no2 : p ++ t2 ∉ zs ++ (["item"] : List Str) := by simpa using h2
          have l2 := ltp.app (tl t2 h1)
          refine ⟨_, .str (p ++ t2), .inl (SqL.of S9.hd), (show atI _ ((0 : Nat) : Int) = some _ from atI_nat rfl), _, p ++ t2, rfl, l2.wide (by decide) (by decide), fun h => no2 (List.mem_append_left _ h), fun h => no2 (List.mem_append_right _ (by rw [h]; simp)), fun h => ?_, S9.drop.drop⟩
          have l3 := l2.lo
          rw [h] at l3
          exact absurd l3 (by decide +kernel)
      · have e2 : inV (.str t) ((zs ++ (["item", "at"] : List Str)).map V.str) = false := e1
        rw [inV_str] at e2
        have no := of_decide_eq_false e2
        exact ⟨_, t, rfl, lt.wide (by decide) (by decide), fun h => no (List.mem_append_left _ h), fun h => no (List.mem_append_right _ (by rw [h]; simp)), fun h => no (List.mem_append_right _ (by rw [h]; simp)), S7⟩
    obtain ⟨y6, z, rfl, ltz, f1, f2, f3, S5⟩ := h
    refine ⟨.inl ⟨rfl, _, SqL.of S5.sw.hd⟩, l, _, _, rfl, rfl, S5.sw.hd, smallL (by rw [List.length_map]; omega), ?_⟩
    refine q z o4 _ ltz f1 f2 f3 B4 ?_
    rw [List.map_append]
    exact (S5.sw.set).sw

end
end K32
set_option Elab.async false
set_option linter.all false
set_option maxRecDepth 100000
set_option maxHeartbeats 4000000
namespace K32
open PySem PySem.Spec PyProof.Rows L2 XL
/-! ### data of a bounded size -/
theorem showAll : ∀ {xs : List PyData}, (∀ x ∈ xs, x.showable = true) → PyData.showableAll xs = true
  | [], _ => by simp only [PyData.showableAll]
  | x :: xs, h => by
    simp only [PyData.showableAll, h x (by simp), showAll (xs := xs) fun y hy => h y (List.mem_cons_of_mem _ hy), Bool.and_self]
theorem layAll : ∀ {xs : List PyData}, (∀ x ∈ xs, x.canLay0 = true) → PyData.canLayAll0 xs = true
  | [], _ => by simp only [PyData.canLayAll0]
  | x :: xs, h => by
    simp only [PyData.canLayAll0, h x (by simp), layAll (xs := xs) fun y hy => h y (List.mem_cons_of_mem _ hy), Bool.and_self]
theorem depthAll_le {n : Nat} : ∀ {xs : List PyData}, (∀ x ∈ xs, x.depth ≤ n) → PyData.depthAll xs ≤ n
  | [], _ => by simp only [PyData.depthAll]; omega
  | x :: xs, h => by
    have h1 := h x (by simp)
    have h2 := depthAll_le (xs := xs) fun y hy => h y (List.mem_cons_of_mem _ hy)
    simp only [PyData.depthAll]
    omega
theorem shortAll {n : Nat} : ∀ {xs : List PyData}, (∀ x ∈ xs, x.leavesShort n = true) → PyData.leavesShortAll n xs = true
  | [], _ => by simp only [PyData.leavesShortAll]
  | x :: xs, h => by
    simp only [PyData.leavesShortAll, h x (by simp), shortAll (xs := xs) fun y hy => h y (List.mem_cons_of_mem _ hy), Bool.and_self]
theorem weightAll_le {n : Nat} : ∀ {xs : List PyData}, (∀ x ∈ xs, x.weight ≤ n) → PyData.weightAll xs ≤ xs.length * (n + 1)
  | [], _ => by simp only [PyData.weightAll]; omega
  | x :: xs, h => by
    have h1 := h x (by simp)
    have h2 := weightAll_le (xs := xs) fun y hy => h y (List.mem_cons_of_mem _ hy)
    simp only [PyData.weightAll, List.length_cons, Nat.add_mul]
    omega
structure Fit (w dp : Nat) (d : PyData) : Prop where
  cl : d.canLay0 = true
  sh : d.showable = true
  ls : d.leavesShort 8 = true
  dp : d.depth ≤ dp
  wt : d.weight ≤ w
theorem Fit.mono {w dp w' dp' : Nat} {d : PyData} (h : Fit w dp d) (h1 : w ≤ w') (h2 : dp ≤ dp') : Fit w' dp' d := ⟨h.cl, h.sh, h.ls, Nat.le_trans h.dp h2, Nat.le_trans h.wt h1⟩
theorem Fit.shaped {w dp : Nat} {d : PyData} (h : Fit w dp d) (h2 : dp ≤ 64) : SeqAt.shaped d = true := by
  unfold SeqAt.shaped
  rw [h.cl, decide_eq_true (Nat.le_trans h.dp h2)]
  rfl
theorem Fit.self {w dp : Nat} {d : PyData} (h : Fit w dp d) : PyData.eqv d d = true := SeqAt.eqv_refl d h.cl
structure Shw (d : PyData) : Prop where
  sh : d.showable = true
  nd : d.hasDict = false
  dp : d.depth ≤ 64
  ln : d.shown.length ≤ sizeLine
theorem Fit.shw {w dp : Nat} {d : PyData} (h : Fit w dp d) (h1 : w ≤ 1048576) (h2 : dp ≤ 64) : Shw d :=
  ⟨h.sh, PyData.hasDict_of_canLay d h.cl, Nat.le_trans h.dp h2, PyData.shown_fits (B := 8) (by decide) (by decide) h.ls (Nat.le_trans h.wt (Nat.le_trans h1 (by decide)))⟩
theorem Fit.tup {w dp : Nat} {ds : List PyData} (hw : PyData.weightAll ds ≤ w) (h : ∀ d ∈ ds, ∃ w', Fit w' dp d) : Fit w (dp + 1) (.tuple ds) := by
  have dl := depthAll_le (n := dp) fun d hd => (h d hd).choose_spec.dp
  refine ⟨?_, ?_, ?_, ?_, ?_⟩
  · simp only [PyData.canLay0]; exact layAll fun d hd => (h d hd).choose_spec.cl
  · simp only [PyData.showable]; exact showAll fun d hd => (h d hd).choose_spec.sh
  · simp only [PyData.leavesShort]; exact shortAll fun d hd => (h d hd).choose_spec.ls
  · simp only [PyData.depth]; omega
  · simp only [PyData.weight]; exact hw
theorem Fit.lst {w dp : Nat} {ds : List PyData} (hw : PyData.weightAll ds ≤ w) (h : ∀ d ∈ ds, ∃ w', Fit w' dp d) : Fit w (dp + 1) (.list ds) := by
  have dl := depthAll_le (n := dp) fun d hd => (h d hd).choose_spec.dp
  refine ⟨?_, ?_, ?_, ?_, ?_⟩
  · simp only [PyData.canLay0]; exact layAll fun d hd => (h d hd).choose_spec.cl
  · simp only [PyData.showable]; exact showAll fun d hd => (h d hd).choose_spec.sh
  · simp only [PyData.leavesShort]; exact shortAll fun d hd => (h d hd).choose_spec.ls
  · simp only [PyData.depth]; omega
  · simp only [PyData.weight]; exact hw
theorem Fit.tups {w dp : Nat} {ds : List PyData} (h : ∀ d ∈ ds, Fit w dp d) : Fit (ds.length * (w + 1)) (dp + 1) (.tuple ds) := .tup (weightAll_le fun d hd => (h d hd).wt) fun d hd => ⟨w, h d hd⟩
theorem Fit.lsts {w dp : Nat} {ds : List PyData} (h : ∀ d ∈ ds, Fit w dp d) : Fit (ds.length * (w + 1)) (dp + 1) (.list ds) := .lst (weightAll_le fun d hd => (h d hd).wt) fun d hd => ⟨w, h d hd⟩
theorem Fit.str {z : Str} {w : Nat} (h : ∀ c ∈ z.cps.toList, c < 1114112) (l : z.length ≤ w) : Fit w 0 (.str z) := by
  refine ⟨?_, by simp only [PyData.showable], ?_, by simp only [PyData.depth]; omega, ?_⟩
  · simp only [PyData.canLay0]
    unfold PyData.strOk
    rw [← Array.all_toList, List.all_eq_true]
    exact fun c hc => decide_eq_true (h c hc)
  · simp only [PyData.leavesShort]
    rw [List.all_eq_true]
    exact fun c hc => decide_eq_true (Nat.lt_trans (h c hc) (by decide))
  · simp only [PyData.weight]
    exact l
theorem LS_low : ∀ c ∈ LS.cps.toList, c < 1114112 := by decide +kernel
theorem Fit.name {z : Str} {a b : Nat} (h : Lt a b z) : Fit b 0 (.str z) := .str (fun c hc => LS_low c (h.ch c hc)) h.hi
theorem dig_short : ∀ n : Nat, n < 10 → (PyData.shown (.int (n : Nat))).length ≤ 8 ∧ PyData.weight (.int (n : Nat)) ≤ 4 ∧ PyData.showable (.int (n : Nat)) = true := by decide +kernel
theorem Fit.digit {n : Int} (h0 : 0 ≤ n) (h1 : n ≤ 9) : Fit 4 0 (.int n) := by
  obtain ⟨k, rfl⟩ := Int.eq_ofNat_of_zero_le h0
  have z := dig_short k (by omega)
  refine ⟨by simp only [PyData.canLay0], z.2.2, ?_, by simp only [PyData.depth]; omega, z.2.1⟩
  simp only [PyData.leavesShort]
  exact decide_eq_true z.1
/-! ### data at a value -/
theorem dp_tup {K : PySem.W.Frag} {G : Hp} {v : V} {ds : List PyData} (h : Dp K G v (.tuple ds)) : ∃ a xs, v = .ref a ∧ SqT K G a xs ∧ DpAll K G xs ds := by
  cases h with
  | tup h1 h2 => exact ⟨_, _, rfl, h1, h2⟩
theorem dpa_cons {K : PySem.W.Frag} {G : Hp} {xs : List V} {d : PyData} {ds : List PyData} (h : DpAll K G xs (d :: ds)) : ∃ x r, xs = x :: r ∧ Dp K G x d ∧ DpAll K G r ds := by
  cases h with
  | cons h1 h2 => exact ⟨_, _, rfl, h1, h2⟩
theorem dpa_nil {K : PySem.W.Frag} {G : Hp} {xs : List V} (h : DpAll K G xs []) : xs = [] := by
  cases h
  rfl
theorem dp_str {K : PySem.W.Frag} {G : Hp} {v : V} {z : Str} (h : Dp K G v (.str z)) : v = .str z := by
  cases h
  rfl
theorem dpa_len {K : PySem.W.Frag} {G : Hp} : ∀ {xs : List V} {ds : List PyData}, DpAll K G xs ds → xs.length = ds.length
  | _, _, .nil => rfl
  | _, _, .cons _ h => congrArg (· + 1) (dpa_len h)
theorem dpa_get {K : PySem.W.Frag} {G : Hp} : ∀ {xs : List V} {ds : List PyData} {i : Nat} {x : V}, DpAll K G xs ds → xs[i]? = some x → ∃ d, ds[i]? = some d ∧ Dp K G x d
  | _, _, _, _, .nil, h => by simp at h
  | _, _, 0, _, .cons h1 _, h => by
    simp at h
    subst h
    exact ⟨_, rfl, h1⟩
  | _, _, i + 1, _, .cons _ h2, h => by
    rw [List.getElem?_cons_succ] at h
    obtain ⟨d, e1, e2⟩ := dpa_get h2 h
    exact ⟨d, by rw [List.getElem?_cons_succ]; exact e1, e2⟩
theorem dpa_app {K : PySem.W.Frag} {G : Hp} : ∀ {xs ys : List V} {ds es : List PyData}, DpAll K G xs ds → DpAll K G ys es → DpAll K G (xs ++ ys) (ds ++ es)
  | _, _, _, _, .nil, h => h
  | _, _, _, _, .cons h1 h2, h => .cons h1 (dpa_app h2 h)
theorem dpa_take {K : PySem.W.Frag} {G : Hp} : ∀ {xs : List V} {ds : List PyData} (n : Nat), DpAll K G xs ds → DpAll K G (xs.take n) (ds.take n)
  | _, _, 0, _ => .nil
  | _, _, _ + 1, .nil => .nil
  | _, _, n + 1, .cons h1 h2 => .cons h1 (dpa_take n h2)
theorem dpa_drop {K : PySem.W.Frag} {G : Hp} : ∀ {xs : List V} {ds : List PyData} (n : Nat), DpAll K G xs ds → DpAll K G (xs.drop n) (ds.drop n)
  | _, _, 0, h => h
  | _, _, _ + 1, .nil => .nil
  | _, _, n + 1, .cons _ h2 => dpa_drop n h2
theorem dpa_one {K : PySem.W.Frag} {G : Hp} {v : V} {d : PyData} (h : Dp K G v d) : DpAll K G [v] [d] := .cons h .nil
theorem Sep.mk {G H : Hp} {M : List (Addr × HO)} {p : Addr} {o : HO} (S : Sep G M H) (h : H p = none) : ∃ G', Same G G' ∧ Sep G' M (upd H p o) ∧ G' p = some o := ⟨_, S.grow h, S.newG h, upd_same⟩

/-! ### shapes -/
inductive Sh where
  | text (f : PyData)
  | button (w : PyData)
  | put (c : PyData) (fs : List PyData)
  | each (t m k c : PyData) (fs : List PyData)
  | line (col : Bool) (ps : List Sh)
  | wen (f : PyData) (a b : Sh)
def lword (c : Bool) : Str := if c then "col" else "row"
mutual
def toD : Sh → PyData
  | .text f => .tuple [.str "text", f]
  | .button w => .tuple [.str "button", w]
  | .put c fs => .tuple [.str "put", c, .tuple fs]
  | .each t m k c fs => .tuple [.str "each", t, m, k, c, .tuple fs]
  | .line col ps => .tuple [.str (lword col), .tuple (toDs ps)]
  | .wen f a b => .tuple [.str "when", f, toD a, toD b]
def toDs : List Sh → List PyData
  | [] => []
  | s :: r => toD s :: toDs r
end
theorem toDs_eq : ∀ ps, toDs ps = ps.map toD
  | [] => by simp only [toDs, List.map_nil]
  | s :: r => by simp only [toDs, List.map_cons, toDs_eq r]
def parts : Sh → List Sh
  | .line _ ps => ps
  | .wen _ a b => [a, b]
  | _ => []
mutual
def numb : Sh → List Sh
  | .text f => [.text f]
  | .button w => [.button w]
  | .put c fs => [.put c fs]
  | .each t m k c fs => [.each t m k c fs]
  | .line c ps => .line c ps :: numbs ps
  | .wen f a b => .wen f a b :: (numb a ++ numb b)
def numbs : List Sh → List Sh
  | [] => []
  | s :: r => numb s ++ numbs r
end
theorem numb_eq (s : Sh) : numb s = s :: numbs (parts s) := by
  cases s <;> simp only [numb, parts, numbs, List.append_nil]
theorem numbs_app : ∀ xs ys, numbs (xs ++ ys) = numbs xs ++ numbs ys
  | [], ys => by simp only [List.nil_append, numbs]
  | x :: xs, ys => by simp only [List.cons_append, numbs, numbs_app xs ys, List.append_assoc]
theorem numbs_one (p : Sh) : numbs [p] = numb p := by simp only [numbs, List.append_nil]
theorem mem_numbs {x : Sh} : ∀ {ps : List Sh}, x ∈ numbs ps ↔ ∃ p ∈ ps, x ∈ numb p
  | [] => by simp [numbs]
  | p :: r => by simp [numbs, mem_numbs (ps := r)]
mutual
def hgt : Sh → Nat
  | .text _ => 1
  | .button _ => 1
  | .put _ _ => 1
  | .each _ _ _ _ _ => 1
  | .line _ ps => hgts ps + 1
  | .wen _ a b => max (hgt a) (hgt b) + 1
def hgts : List Sh → Nat
  | [] => 0
  | s :: r => max (hgt s) (hgts r)
end
theorem hgt_eq (s : Sh) : hgt s = hgts (parts s) + 1 := by
  cases s <;> simp only [hgt, parts, hgts, Nat.max_zero]
theorem hgts_app : ∀ xs ys, hgts (xs ++ ys) = max (hgts xs) (hgts ys)
  | [], ys => by simp only [List.nil_append, hgts]; omega
  | x :: xs, ys => by simp only [List.cons_append, hgts, hgts_app xs ys]; omega
theorem hgts_one (p : Sh) : hgts [p] = hgt p := by simp only [hgts]; omega
theorem hgt_mem {p : Sh} : ∀ {ps : List Sh}, p ∈ ps → hgt p ≤ hgts ps
  | q :: r, h => by
    rcases List.mem_cons.mp h with rfl | h
    · simp only [hgts]; omega
    · have := hgt_mem h
      simp only [hgts]; omega
theorem hgts_le {n : Nat} : ∀ {ps : List Sh}, (∀ p ∈ ps, hgt p ≤ n) → hgts ps ≤ n
  | [], _ => by simp only [hgts]; omega
  | p :: r, h => by
    have h1 := h p (by simp)
    have h2 := hgts_le (ps := r) fun q hq => h q (List.mem_cons_of_mem _ hq)
    simp only [hgts]; omega
theorem hgt_part {p s : Sh} (h : p ∈ parts s) : hgt p + 1 ≤ hgt s := by
  have := hgt_mem h
  rw [hgt_eq s]
  omega
def cnt (s : Sh) : Nat := (numb s).length
theorem cnt_eq (s : Sh) : cnt s = (numbs (parts s)).length + 1 := by
  unfold cnt
  rw [numb_eq, List.length_cons]
theorem cnt_mem {p : Sh} : ∀ {ps : List Sh}, p ∈ ps → cnt p ≤ (numbs ps).length
  | q :: r, h => by
    simp only [numbs, List.length_append]
    rcases List.mem_cons.mp h with rfl | h
    · unfold cnt; omega
    · have := cnt_mem h
      omega
theorem many_le : ∀ ps : List Sh, ps.length ≤ (numbs ps).length
  | [] => by simp
  | p :: r => by
    have := many_le r
    have := cnt_eq p
    unfold cnt at this
    simp only [numbs, List.length_append, List.length_cons]
    omega
/-- behind the number of a shape stand its own shapes -/
theorem drop_numb : ∀ n s, hgt s ≤ n → ∀ i p, (numb s)[i]? = some p → ∃ r, (numb s).drop i = numb p ++ r
  | 0, s, h, _, _, _ => by rw [hgt_eq] at h; omega
  | n + 1, s, h, 0, p, e => by
    rw [numb_eq s] at e
    obtain rfl : s = p := by simpa using e
    exact ⟨[], by simp⟩
  | n + 1, s, h, i + 1, p, e => by
    have ih := drop_numb n
    have go : ∀ (ps : List Sh), (∀ q ∈ ps, hgt q ≤ n) → ∀ j, (numbs ps)[j]? = some p → ∃ r, (numbs ps).drop j = numb p ++ r := by
      intro ps
      induction ps with
      | nil => intro _ j e; simp [numbs] at e
      | cons q qs ih2 =>
        intro hq j e
        simp only [numbs] at e ⊢
        by_cases hj : j < (numb q).length
        · rw [List.getElem?_append_left hj] at e
          obtain ⟨r, hr⟩ := ih q (hq q (by simp)) j p e
          exact ⟨r ++ numbs qs, by rw [List.drop_append_of_le_length (by omega), hr, List.append_assoc]⟩
        · rw [List.getElem?_append_right (by omega)] at e
          obtain ⟨r, hr⟩ := ih2 (fun x hx => hq x (List.mem_cons_of_mem _ hx)) _ e
          refine ⟨r, ?_⟩
          rw [List.drop_append, List.drop_of_length_le (by omega), List.nil_append]
          exact hr
    rw [numb_eq s] at e ⊢
    rw [List.getElem?_cons_succ] at e
    rw [List.drop_succ_cons]
    exact go _ (fun q hq => by have := hgt_part hq; omega) i e
theorem numb_mem_sub {p : Sh} : ∀ n s, hgt s ≤ n → p ∈ numb s → hgt p ≤ hgt s ∧ cnt p ≤ cnt s ∧ ∀ x ∈ numb p, x ∈ numb s
  | 0, s, h, _ => by rw [hgt_eq] at h; omega
  | n + 1, s, h, hp => by
    rw [numb_eq s] at hp
    rcases List.mem_cons.mp hp with rfl | hp
    · exact ⟨Nat.le_refl _, Nat.le_refl _, fun _ h => h⟩
    · obtain ⟨q, hq, hp⟩ := mem_numbs.mp hp
      have h1 := hgt_part hq
      obtain ⟨a1, a2, a3⟩ := numb_mem_sub n q (by omega) hp
      have h2 := cnt_mem hq
      have h3 := cnt_eq s
      refine ⟨by omega, by omega, fun x hx => ?_⟩
      rw [numb_eq s]
      exact List.mem_cons_of_mem _ (mem_numbs.mpr ⟨q, hq, a3 x hx⟩)
def Loc : Sh → Prop
  | .text f => Fit 1024 3 f
  | .button w => Fit 8 0 w
  | .put c fs => Fit 8 0 c ∧ fs.length ≤ 3 ∧ ∀ f ∈ fs, Fit 256 2 f
  | .each t m k c fs => Fit 256 2 t ∧ Fit 104 2 m ∧ Fit 256 2 k ∧ Fit 8 0 c ∧ fs.length ≤ 3 ∧ ∀ f ∈ fs, Fit 256 2 f
  | .line _ ps => ps.length ≤ 8 ∨ ps.length = 11
  | .wen f _ _ => Fit 1024 3 f
def SOk (s : Sh) : Prop := ∀ p ∈ numb s, Loc p
theorem SOk.loc {s : Sh} (h : SOk s) : Loc s := h s (by rw [numb_eq]; simp)
theorem SOk.part {s p : Sh} (h : SOk s) (hp : p ∈ parts s) : SOk p := fun x hx => h x (by rw [numb_eq s]; exact List.mem_cons_of_mem _ (mem_numbs.mpr ⟨p, hp, hx⟩))
theorem SOk.mk {s : Sh} (h : Loc s) (hp : ∀ p ∈ parts s, SOk p) : SOk s := fun x hx => by
  rw [numb_eq s] at hx
  rcases List.mem_cons.mp hx with rfl | hx
  · exact h
  · obtain ⟨p, h1, h2⟩ := mem_numbs.mp hx
    exact hp p h1 x h2
theorem SOk.sub {s p : Sh} (h : SOk s) (hp : p ∈ numb s) : SOk p := fun x hx => h x ((numb_mem_sub _ s (Nat.le_refl _) hp).2.2 x hx)
theorem fit_word (z : Str) (n : Nat) (h : ∀ c ∈ z.cps.toList, c < 1114112) (l : z.length ≤ n) : Fit n 0 (.str z) := .str h l
theorem fit_forms {fs : List PyData} (h : fs.length ≤ 3) (hf : ∀ f ∈ fs, Fit 256 2 f) : Fit 771 3 (.tuple fs) := (Fit.tups hf).mono (by have := Nat.mul_le_mul_right (256 + 1) h; omega) (by decide)
theorem fits_w {ps : List Sh} (h : ∀ p ∈ ps, (toD p).weight + 10 ≤ 2000 * cnt p) : PyData.weightAll (ps.map toD) ≤ 2000 * (numbs ps).length := by
  induction ps with
  | nil => simp only [List.map_nil, PyData.weightAll]; omega
  | cons p r ih =>
    have h1 := h p (by simp)
    have h2 := ih fun q hq => h q (List.mem_cons_of_mem _ hq)
    have h3 : (numb p).length = cnt p := rfl
    simp only [List.map_cons, PyData.weightAll, numbs, List.length_append, h3, Nat.mul_add]
    omega
theorem fit_sh : ∀ n s, hgt s ≤ n → SOk s → Fit (2000 * cnt s - 10) (2 * hgt s + 3) (toD s) ∧ (toD s).weight + 10 ≤ 2000 * cnt s
  | 0, s, h, _ => by rw [hgt_eq] at h; omega
  | n + 1, s, h, ok => by
    have ih := fun p (hp : p ∈ parts s) => fit_sh n p (by have := hgt_part hp; omega) (ok.part hp)
    have c1 := cnt_eq s
    have h1 := hgt_eq s
    have main : Fit (2000 * cnt s - 10) (2 * hgt s + 3) (toD s) := by
      have lc := ok.loc
      have w4 : ∀ z : Str, z ∈ ([("text" : Str), "button", "put", "each", "col", "row", "when"] : List Str) → Fit 6 0 (.str z) := fun z hz => by
        refine .str ?_ ?_
        · have : ∀ z ∈ ([("text" : Str), "button", "put", "each", "col", "row", "when"] : List Str), ∀ c ∈ z.cps.toList, c < 1114112 := by decide +kernel
          exact this z hz
        · have : ∀ z ∈ ([("text" : Str), "button", "put", "each", "col", "row", "when"] : List Str), z.length ≤ 6 := by decide +kernel
          exact this z hz
      cases s with
      | text f =>
        have f1 := w4 "text" (by simp)
        have f2 : Fit 1024 3 f := lc
        have a1 := f1.wt; have a2 := f2.wt
        simp only [toD]
        refine (Fit.tup (w := 1900) (dp := 3) ?_ fun d hd => ?_).mono (by omega) (by omega)
        · simp only [PyData.weightAll]; omega
        · simp only [List.mem_cons, List.not_mem_nil, or_false] at hd
          rcases hd with rfl | rfl
          · exact ⟨_, f1.mono (Nat.le_refl _) (by decide)⟩
          · exact ⟨_, f2⟩
      | button w =>
        have f1 := w4 "button" (by simp)
        have f2 : Fit 8 0 w := lc
        have a1 := f1.wt; have a2 := f2.wt
        simp only [toD]
        refine (Fit.tup (w := 1900) (dp := 3) ?_ fun d hd => ?_).mono (by omega) (by omega)
        · simp only [PyData.weightAll]; omega
        · simp only [List.mem_cons, List.not_mem_nil, or_false] at hd
          rcases hd with rfl | rfl
          · exact ⟨_, f1.mono (Nat.le_refl _) (by decide)⟩
          · exact ⟨_, f2.mono (Nat.le_refl _) (by decide)⟩
      | put c fs =>
        have f1 := w4 "put" (by simp)
        obtain ⟨f2, l3, f3⟩ : Fit 8 0 c ∧ fs.length ≤ 3 ∧ ∀ f ∈ fs, Fit 256 2 f := lc
        have f4 := fit_forms l3 f3
        have a1 := f1.wt; have a2 := f2.wt; have a3 := f4.wt
        simp only [toD]
        refine (Fit.tup (w := 1900) (dp := 3) ?_ fun d hd => ?_).mono (by omega) (by omega)
        · simp only [PyData.weightAll]; omega
        · simp only [List.mem_cons, List.not_mem_nil, or_false] at hd
          rcases hd with rfl | rfl | rfl
          · exact ⟨_, f1.mono (Nat.le_refl _) (by decide)⟩
          · exact ⟨_, f2.mono (Nat.le_refl _) (by decide)⟩
          · exact ⟨_, f4⟩
      | each t m k c fs =>
        have f1 := w4 "each" (by simp)
        obtain ⟨f2, f5, f6, f7, l3, f3⟩ : Fit 256 2 t ∧ Fit 104 2 m ∧ Fit 256 2 k ∧ Fit 8 0 c ∧ fs.length ≤ 3 ∧ ∀ f ∈ fs, Fit 256 2 f := lc
        have f4 := fit_forms l3 f3
        have a1 := f1.wt; have a2 := f2.wt; have a3 := f4.wt; have a5 := f5.wt; have a6 := f6.wt; have a7 := f7.wt
        simp only [toD]
        refine (Fit.tup (w := 1900) (dp := 3) ?_ fun d hd => ?_).mono (by omega) (by omega)
        · simp only [PyData.weightAll]; omega
        · simp only [List.mem_cons, List.not_mem_nil, or_false] at hd
          rcases hd with rfl | rfl | rfl | rfl | rfl | rfl
          · exact ⟨_, f1.mono (Nat.le_refl _) (by decide)⟩
          · exact ⟨_, f2.mono (Nat.le_refl _) (by decide)⟩
          · exact ⟨_, f5.mono (Nat.le_refl _) (by decide)⟩
          · exact ⟨_, f6.mono (Nat.le_refl _) (by decide)⟩
          · exact ⟨_, f7.mono (Nat.le_refl _) (by decide)⟩
          · exact ⟨_, f4⟩
      | line col ps =>
        have f1 := w4 (lword col) (by cases col <;> simp [lword])
        have a1 := f1.wt
        have hw := fits_w (ps := ps) fun p hp => (ih p hp).2
        have fi : Fit (2000 * (numbs ps).length) (2 * hgts ps + 3 + 1) (.tuple (ps.map toD)) := .tup hw fun d hd => by
          obtain ⟨p, hp, rfl⟩ := List.mem_map.mp hd
          have := hgt_mem hp
          exact ⟨_, (ih p hp).1.mono (Nat.le_refl _) (by omega)⟩
        have a2 := fi.wt
        have c2 : cnt (.line col ps) = (numbs ps).length + 1 := c1
        have h2 : hgt (.line col ps) = hgts ps + 1 := h1
        simp only [toD, toDs_eq]
        refine (Fit.tup (w := 2000 * (numbs ps).length + 20) (dp := 2 * hgts ps + 3 + 1) ?_ fun d hd => ?_).mono (by omega) (by omega)
        · simp only [PyData.weightAll]; omega
        · simp only [List.mem_cons, List.not_mem_nil, or_false] at hd
          rcases hd with rfl | rfl
          · exact ⟨_, f1.mono (Nat.le_refl _) (Nat.zero_le _)⟩
          · exact ⟨_, fi⟩
      | wen f a b =>
        have f1 := w4 "when" (by simp)
        have f2 : Fit 1024 3 f := lc
        have f3 := ih a (by simp [parts])
        have f4 := ih b (by simp [parts])
        have a1 := f1.wt; have a2 := f2.wt
        have c2 : cnt (.wen f a b) = cnt a + cnt b + 1 := by
          rw [c1]
          show (numbs [a, b]).length + 1 = _
          simp only [numbs, List.append_nil, List.length_append]
          rfl
        have h2 : hgt (.wen f a b) = max (hgt a) (hgt b) + 1 := by simp only [hgt]
        simp only [toD]
        refine (Fit.tup (w := 2000 * cnt a + 2000 * cnt b + 1100) (dp := 2 * max (hgt a) (hgt b) + 3) ?_ fun d hd => ?_).mono (by omega) (by omega)
        · simp only [PyData.weightAll]; omega
        · simp only [List.mem_cons, List.not_mem_nil, or_false] at hd
          rcases hd with rfl | rfl | rfl | rfl
          · exact ⟨_, f1.mono (Nat.le_refl _) (Nat.zero_le _)⟩
          · exact ⟨_, f2.mono (Nat.le_refl _) (by omega)⟩
          · exact ⟨_, f3.1.mono (Nat.le_refl _) (by omega)⟩
          · exact ⟨_, f4.1.mono (Nat.le_refl _) (by omega)⟩
    have := main.wt
    exact ⟨main, by omega⟩
theorem SOk.fit {s : Sh} (h : SOk s) (c : cnt s ≤ 16) (g : hgt s ≤ 5) : Fit 32000 13 (toD s) := (fit_sh _ s (Nat.le_refl _) h).1.mono (by omega) (by omega)
/-- what a shape's tuple holds -/
def word : Sh → Str
  | .text _ => "text"
  | .button _ => "button"
  | .put _ _ => "put"
  | .each _ _ _ _ _ => "each"
  | .line c _ => lword c
  | .wen _ _ _ => "when"
def args : Sh → List PyData
  | .text f => [f]
  | .button w => [w]
  | .put c fs => [c, .tuple fs]
  | .each t m k c fs => [t, m, k, c, .tuple fs]
  | .line _ ps => [.tuple (ps.map toD)]
  | .wen f a b => [f, toD a, toD b]
theorem toD_eq (s : Sh) : toD s = .tuple (.str (word s) :: args s) := by
  cases s <;> simp only [toD, word, args, toDs_eq]
theorem sh_at {K : PySem.W.Frag} {G : Hp} {v : V} {s : Sh} (h : Dp K G v (toD s)) : ∃ a rest, v = .ref a ∧ SqT K G a (.str (word s) :: rest) ∧ DpAll K G rest (args s) := by
  rw [toD_eq] at h
  obtain ⟨a, xs, rfl, h1, h2⟩ := dp_tup h
  obtain ⟨x, r, rfl, h3, h4⟩ := dpa_cons h2
  rw [dp_str h3] at h1
  exact ⟨a, r, rfl, h1, h4⟩

section
variable {P : Program} {w : World} {K : PySem.W.Frag} {mg : Str → Option Value} {base : Heap}
end
end K32
set_option Elab.async false
set_option linter.all false
set_option maxRecDepth 100000
set_option maxHeartbeats 4000000
namespace K32
open PySem PySem.Spec PyProof.Rows L2 XL
section
variable {P : Program} {w : World} {K : PySem.W.Frag} {mg : Str → Option Value} {base : Heap}
/-! ### the builders -/
def spB (n : Nat) (wd : Str) : Sp := fun vs H Q _ => ∃ (G : Hp) (M : List (Addr × HO)), vs.length = n ∧ Sep G M H ∧ ∀ (q : Addr) (G' H' : Hp), Same G G' → G' q = some (.tup (.str wd :: vs)) → Sep G' M H' → Q (.ref q) H'
theorem len1 {vs : List V} (h : vs.length = 1) : ∃ a, vs = [a] := List.length_eq_one_iff.mp h
theorem len2 {vs : List V} (h : vs.length = 2) : ∃ a b, vs = [a, b] := by
  match vs, h with
  | [a, b], _ => exact ⟨a, b, rfl⟩
theorem len3 {vs : List V} (h : vs.length = 3) : ∃ a b c, vs = [a, b, c] := by
  match vs, h with
  | [a, b, c], _ => exact ⟨a, b, c, rfl⟩
theorem len5 {vs : List V} (h : vs.length = 5) : ∃ a b c d e, vs = [a, b, c, d, e] := by
  match vs, h with
  | [a, b, c, d, e], _ => exact ⟨a, b, c, d, e, rfl⟩
theorem ok_text_shape (T : Top K mg w) {k : Nat} : FnOk P w K mg base CX0 (k + 1) T.a_text_shape T.d_text_shape ["form"] (spB 1 "text") := by
  refine T.F_text_shape.ok sc_text_shape (fun vs H Q E h => ?_) (fun cdv A outer s H vs Q E hr h => ?_)
  · obtain ⟨G, M, l, _⟩ := h
    exact l
  · obtain ⟨G, M, l, S, q⟩ := h
    obtain ⟨a, rfl⟩ := len1 l
    refine ⟨_, (pss_one (ps_ret (pe_tup (pa_cons pe_str (pa_cons (xv 0) pa_nil))))), sz, fun p np => ?_⟩
    obtain ⟨G1, s1, S1, h1⟩ := Sep.mk (o := .tup [.str "text", a]) S np
    exact q p G1 _ s1 h1 S1
theorem ok_button_shape (T : Top K mg w) {k : Nat} : FnOk P w K mg base CX0 (k + 1) T.a_button_shape T.d_button_shape ["word"] (spB 1 "button") := by
  refine T.F_button_shape.ok sc_button_shape (fun vs H Q E h => ?_) (fun cdv A outer s H vs Q E hr h => ?_)
  · obtain ⟨G, M, l, _⟩ := h
    exact l
  · obtain ⟨G, M, l, S, q⟩ := h
    obtain ⟨a, rfl⟩ := len1 l
    refine ⟨_, (pss_one (ps_ret (pe_tup (pa_cons pe_str (pa_cons (xv 0) pa_nil))))), sz, fun p np => ?_⟩
    obtain ⟨G1, s1, S1, h1⟩ := Sep.mk (o := .tup [.str "button", a]) S np
    exact q p G1 _ s1 h1 S1
theorem ok_when_shape (T : Top K mg w) {k : Nat} : FnOk P w K mg base CX0 (k + 1) T.a_when_shape T.d_when_shape ["form", "first", "second"] (spB 3 "when") := by
  refine T.F_when_shape.ok sc_when_shape (fun vs H Q E h => ?_) (fun cdv A outer s H vs Q E hr h => ?_)
  · obtain ⟨G, M, l, _⟩ := h
    exact l
  · obtain ⟨G, M, l, S, q⟩ := h
    obtain ⟨a, b, c, rfl⟩ := len3 l
    refine ⟨_, (pss_one (ps_ret (pe_tup (pa_cons pe_str (pa_cons (xv 0) (pa_cons (xv 1) (pa_cons (xv 2) pa_nil))))))), sz, fun p np => ?_⟩
    obtain ⟨G1, s1, S1, h1⟩ := Sep.mk (o := .tup [.str "when", a, b, c]) S np
    exact q p G1 _ s1 h1 S1
theorem ok_row_shape (T : Top K mg w) {k : Nat} : FnR P w K mg base CX0 (k + 1) T.a_row_shape (spS 0 (spB 1 "row")) := by
  refine okS (ps := []) T.F_row_shape sc_row_shape T.b_row_shape (fun cdv A outer s H vs Q E hr h => ?_)
  obtain ⟨G, M, l, S, q⟩ := h
  obtain ⟨a, rfl⟩ := len1 l
  refine ⟨_, (pss_one (ps_ret (pe_tup (pa_cons pe_str (pa_cons (xv 0) pa_nil))))), sz, fun p np => ?_⟩
  obtain ⟨G1, s1, S1, h1⟩ := Sep.mk (o := .tup [.str "row", a]) S np
  exact q p G1 _ s1 h1 S1
theorem ok_col_shape (T : Top K mg w) {k : Nat} : FnR P w K mg base CX0 (k + 1) T.a_col_shape (spS 0 (spB 1 "col")) := by
  refine okS (ps := []) T.F_col_shape sc_col_shape T.b_col_shape (fun cdv A outer s H vs Q E hr h => ?_)
  obtain ⟨G, M, l, S, q⟩ := h
  obtain ⟨a, rfl⟩ := len1 l
  refine ⟨_, (pss_one (ps_ret (pe_tup (pa_cons pe_str (pa_cons (xv 0) pa_nil))))), sz, fun p np => ?_⟩
  obtain ⟨G1, s1, S1, h1⟩ := Sep.mk (o := .tup [.str "col", a]) S np
  exact q p G1 _ s1 h1 S1
theorem ok_put_shape (T : Top K mg w) {k : Nat} : FnR P w K mg base CX0 (k + 1) T.a_put_shape (spS 1 (spB 2 "put")) := by
  refine okS (ps := ["component"]) T.F_put_shape sc_put_shape T.b_put_shape (fun cdv A outer s H vs Q E hr h => ?_)
  obtain ⟨G, M, l, S, q⟩ := h
  obtain ⟨a, b, rfl⟩ := len2 l
  refine ⟨_, (pss_one (ps_ret (pe_tup (pa_cons pe_str (pa_cons (xv 0) (pa_cons (xv 1) pa_nil)))))), sz, fun p np => ?_⟩
  obtain ⟨G1, s1, S1, h1⟩ := Sep.mk (o := .tup [.str "put", a, b]) S np
  exact q p G1 _ s1 h1 S1
theorem ok_each_shape (T : Top K mg w) {k : Nat} : FnR P w K mg base CX0 (k + 1) T.a_each_shape (spS 4 (spB 5 "each")) := by
  refine okS (ps := ["form", "menu", "key", "component"]) T.F_each_shape sc_each_shape T.b_each_shape (fun cdv A outer s H vs Q E hr h => ?_)
  obtain ⟨G, M, l, S, q⟩ := h
  obtain ⟨a, b, c, d, e, rfl⟩ := len5 l
  refine ⟨_, (pss_one (ps_ret (pe_tup (pa_cons pe_str (pa_cons (xv 0) (pa_cons (xv 1) (pa_cons (xv 2) (pa_cons (xv 3) (pa_cons (xv 4) pa_nil))))))))), sz, fun p np => ?_⟩
  obtain ⟨G1, s1, S1, h1⟩ := Sep.mk (o := .tup [.str "each", a, b, c, d, e]) S np
  exact q p G1 _ s1 h1 S1
/-! ### part_shapes, numbered, levels -/
def spParts (K : PySem.W.Frag) : Sp := fun vs H Q _ => ∃ (G : Hp) (M : List (Addr × HO)) (v : V) (s : Sh), vs = [v] ∧ Sep G M H ∧ Dp K G v (toD s) ∧ ∀ (v' : V) (G' H' : Hp), Same G G' → Dp K G' v' (.tuple ((parts s).map toD)) → Sep G' M H' → Q v' H'
theorem word_row {s : Sh} (e : word s = "row") : ∃ ps, s = .line false ps := by
  cases s with
  | text f => exact absurd (show ("text" : Str) = "row" from e) (by decide +kernel)
  | button f => exact absurd (show ("button" : Str) = "row" from e) (by decide +kernel)
  | put f g => exact absurd (show ("put" : Str) = "row" from e) (by decide +kernel)
  | each a1 a2 a3 a4 a5 => exact absurd (show ("each" : Str) = "row" from e) (by decide +kernel)
  | wen f a b => exact absurd (show ("when" : Str) = "row" from e) (by decide +kernel)
  | line c ps =>
    cases c with
    | false => exact ⟨ps, rfl⟩
    | true => exact absurd (show ("col" : Str) = "row" from e) (by decide +kernel)
theorem word_col {s : Sh} (e : word s = "col") : ∃ ps, s = .line true ps := by
  cases s with
  | text f => exact absurd (show ("text" : Str) = "col" from e) (by decide +kernel)
  | button f => exact absurd (show ("button" : Str) = "col" from e) (by decide +kernel)
  | put f g => exact absurd (show ("put" : Str) = "col" from e) (by decide +kernel)
  | each a1 a2 a3 a4 a5 => exact absurd (show ("each" : Str) = "col" from e) (by decide +kernel)
  | wen f a b => exact absurd (show ("when" : Str) = "col" from e) (by decide +kernel)
  | line c ps =>
    cases c with
    | true => exact ⟨ps, rfl⟩
    | false => exact absurd (show ("row" : Str) = "col" from e) (by decide +kernel)
theorem word_when {s : Sh} (e : word s = "when") : ∃ f a b, s = .wen f a b := by
  cases s with
  | text f => exact absurd (show ("text" : Str) = "when" from e) (by decide +kernel)
  | button f => exact absurd (show ("button" : Str) = "when" from e) (by decide +kernel)
  | put f g => exact absurd (show ("put" : Str) = "when" from e) (by decide +kernel)
  | each a1 a2 a3 a4 a5 => exact absurd (show ("each" : Str) = "when" from e) (by decide +kernel)
  | wen f a b => exact ⟨f, a, b, rfl⟩
  | line c ps =>
    cases c with
    | true => exact absurd (show ("col" : Str) = "when" from e) (by decide +kernel)
    | false => exact absurd (show ("row" : Str) = "when" from e) (by decide +kernel)
theorem word_text {s : Sh} (e : word s = "text") : ∃ f, s = .text f := by
  cases s with
  | button f => exact absurd (show ("button" : Str) = "text" from e) (by decide +kernel)
  | put f g => exact absurd (show ("put" : Str) = "text" from e) (by decide +kernel)
  | each a1 a2 a3 a4 a5 => exact absurd (show ("each" : Str) = "text" from e) (by decide +kernel)
  | wen f a b => exact absurd (show ("when" : Str) = "text" from e) (by decide +kernel)
  | text f => exact ⟨f, rfl⟩
  | line c ps =>
    cases c with
    | true => exact absurd (show ("col" : Str) = "text" from e) (by decide +kernel)
    | false => exact absurd (show ("row" : Str) = "text" from e) (by decide +kernel)
theorem word_button {s : Sh} (e : word s = "button") : ∃ f, s = .button f := by
  cases s with
  | text f => exact absurd (show ("text" : Str) = "button" from e) (by decide +kernel)
  | put f g => exact absurd (show ("put" : Str) = "button" from e) (by decide +kernel)
  | each a1 a2 a3 a4 a5 => exact absurd (show ("each" : Str) = "button" from e) (by decide +kernel)
  | wen f a b => exact absurd (show ("when" : Str) = "button" from e) (by decide +kernel)
  | button f => exact ⟨f, rfl⟩
  | line c ps =>
    cases c with
    | true => exact absurd (show ("col" : Str) = "button" from e) (by decide +kernel)
    | false => exact absurd (show ("row" : Str) = "button" from e) (by decide +kernel)
theorem word_put {s : Sh} (e : word s = "put") : ∃ f g, s = .put f g := by
  cases s with
  | text f => exact absurd (show ("text" : Str) = "put" from e) (by decide +kernel)
  | button f => exact absurd (show ("button" : Str) = "put" from e) (by decide +kernel)
  | each a1 a2 a3 a4 a5 => exact absurd (show ("each" : Str) = "put" from e) (by decide +kernel)
  | wen f a b => exact absurd (show ("when" : Str) = "put" from e) (by decide +kernel)
  | put f g => exact ⟨f, g, rfl⟩
  | line c ps =>
    cases c with
    | true => exact absurd (show ("col" : Str) = "put" from e) (by decide +kernel)
    | false => exact absurd (show ("row" : Str) = "put" from e) (by decide +kernel)
theorem word_each {s : Sh} (e : word s = "each") : ∃ a1 a2 a3 a4 a5, s = .each a1 a2 a3 a4 a5 := by
  cases s with
  | text f => exact absurd (show ("text" : Str) = "each" from e) (by decide +kernel)
  | button f => exact absurd (show ("button" : Str) = "each" from e) (by decide +kernel)
  | put f g => exact absurd (show ("put" : Str) = "each" from e) (by decide +kernel)
  | wen f a b => exact absurd (show ("when" : Str) = "each" from e) (by decide +kernel)
  | each a1 a2 a3 a4 a5 => exact ⟨a1, a2, a3, a4, a5, rfl⟩
  | line c ps =>
    cases c with
    | true => exact absurd (show ("col" : Str) = "each" from e) (by decide +kernel)
    | false => exact absurd (show ("row" : Str) = "each" from e) (by decide +kernel)
theorem line_word {c : Bool} : lword c = "row" ∨ lword c = "col" := by cases c <;> simp [lword]
theorem ok_part_shapes (T : Top K mg w) {k : Nat} : FnOk P w K mg base CX0 (k + 1) T.a_part_shapes T.d_part_shapes ["shape"] (spParts K) := by
  refine T.F_part_shapes.ok sc_part_shapes (fun vs H Q E h => ?_) (fun cdv A outer s H vs Q E hr h => ?_)
  · obtain ⟨G, M, v, sh, rfl, _⟩ := h
    rfl
  · obtain ⟨G, M, v, sh, rfl, S, hv, q⟩ := h
    refine ⟨_, (pss_cons (xs_if (PW.pt (xw_or (xt_cmp (op_eqK K hr.units) (pe_ix (ix_k K) (xv 0) pe_int (fun _ _ => rfl)) pe_str (nomark _)) (pw_or1 (xt_cmp (op_eqK K hr.units) (pe_ix (ix_k K) (xv 0) pe_int (fun _ _ => rfl)) pe_str (nomark _)))))
      (pss_one (ps_ret (pe_ix (ix_k K) (xv 0) pe_int (fun _ _ => rfl))))
      pss_nil)
      (pss_cons (xs_if (xt_cmp (op_eqK K hr.units) (pe_ix (ix_k K) (xv 0) pe_int (fun _ _ => rfl)) pe_str (nomark _))
      (pss_one (ps_ret (pe_tup (pa_cons (pe_ix (ix_k K) (xv 0) pe_int (fun _ _ => rfl)) (pa_cons (pe_ix (ix_k K) (xv 0) pe_int (fun _ _ => rfl)) pa_nil)))))
      pss_nil)
      (pss_one (ps_ret (pe_tup pa_nil))))), ?_⟩
    obtain ⟨a, rest, rfl, ha, hr'⟩ := sh_at hv
    have h0 : atI (V.str (word sh) :: rest) 0 = some (.str (word sh)) := atI_nat (j := 0) rfl
    have isL : ∀ c ps, sh = .line c ps → (∃ xs v, (SqL K H a xs ∨ SqT K H a xs) ∧ atI xs 1 = some v ∧ Q v H) := fun c ps e => by
      subst e
      obtain ⟨x, r, rfl, h1, h2⟩ := dpa_cons hr'
      exact ⟨_, x, .inr (S.t ha), atI_nat (j := 1) rfl, q x G H (Same.refl _) h1 S⟩
    have noL : (∀ c ps, sh ≠ .line c ps) ∨ ∃ c ps, sh = .line c ps := by
      cases sh with
      | line c ps => exact .inr ⟨c, ps, rfl⟩
      | _ => exact .inl (fun _ _ h => nomatch h)
    have isW : ∀ f x y, sh = .wen f x y → (word sh = "when" ∧ ∃ v1 v2 v3, rest = [v1, v2, v3] ∧ Dp K G v2 (toD x) ∧ Dp K G v3 (toD y)) := fun f x y e => by
      subst e
      obtain ⟨x1, r1, rfl, h1, h2⟩ := dpa_cons hr'
      obtain ⟨x2, r2, rfl, h3, h4⟩ := dpa_cons h2
      obtain ⟨x3, r3, rfl, h5, h6⟩ := dpa_cons h4
      rw [dpa_nil h6]
      exact ⟨rfl, _, _, _, rfl, h3, h5⟩
    refine ⟨_, _, .inr (S.t ha), h0, fun e1 => ⟨fun _ => ?_, tt⟩, fun e1 => ⟨_, _, .inr (S.t ha), h0, fun e2 => ?_, fun e2 => ?_⟩⟩
    · obtain ⟨ps, e⟩ := word_row (of_decide_eq_true e1)
      exact isL _ ps e
    · obtain ⟨ps, e⟩ := word_col (of_decide_eq_true e2)
      exact isL _ ps e
    · have nl : ∀ c ps, sh ≠ .line c ps := fun c ps e => by
        subst e
        rcases line_word (c := c) with z | z
        · exact of_decide_eq_false e1 z
        · exact of_decide_eq_false e2 z
      refine ⟨_, _, .inr (S.t ha), h0, fun e3 => ?_, fun e3 => ⟨sz, fun p np => ?_⟩⟩
      · have := word_when (of_decide_eq_true e3)
        obtain ⟨f, x, y, e⟩ := this
        obtain ⟨_, v1, v2, v3, rfl, d2, d3⟩ := isW f x y e
        subst e
        refine ⟨_, _, .inr (S.t ha), atI_nat (j := 2) rfl, _, _, .inr (S.t ha), atI_nat (j := 3) rfl, sz, fun p np => ?_⟩
        obtain ⟨G1, s1, S1, h1⟩ := Sep.mk (o := .tup [v2, v3]) S np
        exact q _ G1 _ s1 (.tup (SqT.of h1) (.cons (dp_same s1 d2) (.cons (dp_same s1 d3) .nil))) S1
      · obtain ⟨G1, s1, S1, h1⟩ := Sep.mk (o := .tup []) S np
        have e0 : parts sh = [] := by
          cases sh with
          | line c ps => exact absurd rfl (nl c ps)
          | wen f x y => exact absurd rfl (of_decide_eq_false e3)
          | _ => rfl
        refine q _ G1 _ s1 ?_ S1
        rw [e0]
        exact .tup (SqT.of h1) .nil
theorem map_get {ps : List Sh} {i : Nat} {d : PyData} (h : (ps.map toD)[i]? = some d) : ∃ p, ps[i]? = some p ∧ d = toD p := by
  rw [List.getElem?_map] at h
  obtain ⟨p, h1, h2⟩ := Option.map_eq_some_iff.mp h
  exact ⟨p, h1, h2.symm⟩
def spNumb (K : PySem.W.Frag) (n : Nat) : Sp := fun vs H Q _ => ∃ (G : Hp) (M : List (Addr × HO)) (v : V) (s : Sh), vs = [v] ∧ Sep G M H ∧ Dp K G v (toD s) ∧ hgt s ≤ n ∧ cnt s ≤ 1000 ∧
  ∀ (v' : V) (G' H' : Hp), Same G G' → Dp K G' v' (.tuple ((numb s).map toD)) → Sep G' M H' → Q v' H'
theorem numbs_take_le {ps : List Sh} (i : Nat) : (numbs (ps.take i)).length ≤ (numbs ps).length := by
  have e : numbs ps = numbs (ps.take i) ++ numbs (ps.drop i) := by rw [← numbs_app, List.take_append_drop]
  rw [e, List.length_append]
  omega
theorem ok_numbered (T : Top K mg w) (G_part_shapes : FnOk P w K mg base CX0 1 T.a_part_shapes T.d_part_shapes ["shape"] (spParts K)) : ∀ n, FnOk P w K mg base CX0 (n + 2) T.a_numbered T.d_numbered ["shape"] (spNumb K n) := by
  intro n
  induction n with
  | zero =>
    refine T.F_numbered.ok sc_numbered (fun vs H Q E h => ?_) (fun cdv A outer s H vs Q E hr h => ?_)
    · obtain ⟨G, M, v, sh, rfl, _⟩ := h
      rfl
    · obtain ⟨G, M, v, sh, rfl, S, hv, hh, _⟩ := h
      rw [hgt_eq] at hh
      omega
  | succ n G_numbered =>
    refine T.F_numbered.ok sc_numbered (fun vs H Q E h => ?_) (fun cdv A outer s H vs Q E hr h => ?_)
    · obtain ⟨G, M, v, sh, rfl, _⟩ := h
      rfl
    · obtain ⟨G, M, v, sh, rfl, S, hv, hh, hc, q⟩ := h
      refine ⟨_, (pss_cons (ps_set (i := 1) sc_numbered.nd rfl (.inl rfl) (pe_lst (pa_cons (xv 0) pa_nil)))
      (pss_cons (ps_for PassesOwn.never rfl (pi_tupK K (pe_call G_part_shapes (hr.mono (by omega)) (by rfl) T.g_part_shapes T.F_part_shapes.kp T.b_part_shapes .nil pass0 (pa_cons (xv 0) pa_nil))) (pg_name (i := 2) sc_numbered.nd rfl (.inl rfl))
      (pss_one (ps_expr (pe_bmK K PySem.F.plainAttrs_list PySem.F.slot_list_extend PySem.F.type_list_extend (mt_extT K) (xv 1) (pa_cons (pe_call G_numbered (hr.mono (by omega)) (by rfl) T.g_numbered T.F_numbered.kp T.b_numbered .nil pass0 (pa_cons (xv 2) pa_nil)) pa_nil)))))
      (pss_one (ps_ret (pe_callTy (call_tupleK K) (by rfl) T.m_tuple (by decide +kernel) (pa_cons (xv 1) pa_nil)))))), ?_⟩
      refine ⟨sz, fun L nL => ?_⟩
      have S1 := S.new (o := .lst [v]) nL
      refine ⟨G, _, v, sh, rfl, S1, hv, fun vp G2 H2 s2 hvp S2 => ?_⟩
      obtain ⟨pa, us, rfl, hpa, hus⟩ := dp_tup hvp
      have ce := cnt_eq sh
      refine ⟨pa, rfl, ⟨us, S2.t hpa⟩, for_tup (xs := us) (fun i σ H' => ∃ (y2 : Option V) (ws : List V) (G' : Hp), σ = [some v, some (.ref L), y2] ∧ Same G2 G' ∧ DpAll K G' ws ((sh :: numbs ((parts sh).take i)).map toD) ∧ Sep G' ((L, .lst ws) :: M) H')
        ⟨_, [v], G2, rfl, Same.refl _, dpa_one (dp_same s2 hv), S2⟩ (fun i σ H' _ h => ?_) (fun i u σ H' hu h => ?_) (fun σ H' h => ?_)⟩
      · obtain ⟨_, _, G', _, s', _, S'⟩ := h
        exact S'.t (same_t s' hpa)
      · obtain ⟨y2, ws, G3, rfl, s3, hws, S3⟩ := h
        obtain ⟨d, hd, hud⟩ := dpa_get hus hu
        obtain ⟨p, hp, rfl⟩ := map_get hd
        have hm := List.mem_of_getElem? hp
        have hg := hgt_part hm
        have wl := dpa_len hws
        have cl : cnt p ≤ (numbs (parts sh)).length := cnt_mem hm
        refine ⟨.inl ⟨rfl, _, SqL.of S3.hd⟩, G3, _, u, p, rfl, S3, dp_same s3 hud, by omega, by omega, fun v4 G4 H4 s4 hv4 S4 => ?_⟩
        obtain ⟨a4, us4, rfl, ha4, hus4⟩ := dp_tup hv4
        have ul := dpa_len hus4
        have tk : numbs ((parts sh).take (i + 1)) = numbs ((parts sh).take i) ++ numb p := by rw [take_snoc hp, numbs_app, numbs_one]
        have tl := numbs_take_le (ps := parts sh) (i + 1)
        rw [tk, List.length_append] at tl
        rw [List.length_map, List.length_cons] at wl
        rw [List.length_map] at ul
        refine ⟨L, a4, ws, us4, rfl, rfl, S4.hd, S4.t ha4, small (by omega), _, ws ++ us4, G4, rfl, s3.trans s4, ?_, S4.set⟩
        rw [tk, ← List.cons_append, List.map_append]
        exact dpa_app (dpa_same s4 hws) hus4
      · obtain ⟨y2, ws, G3, rfl, s3, hws, S3⟩ := h
        have ul := dpa_len hus
        rw [List.length_map] at ul
        rw [ul, List.take_length, ← numb_eq] at hws
        refine ⟨L, ws, rfl, .inl ⟨SqL.of S3.hd, fun t nt => ?_⟩⟩
        obtain ⟨G5, s5, S5, h5⟩ := Sep.mk (o := .tup ws) S3 nt
        exact q _ G5 _ (s2.trans (s3.trans s5)) (.tup (SqT.of h5) (dpa_same s5 hws)) S5.drop
def spLev (K : PySem.W.Frag) (n : Nat) : Sp := fun vs H Q _ => ∃ (G : Hp) (M : List (Addr × HO)) (v : V) (s : Sh), vs = [v] ∧ Sep G M H ∧ Dp K G v (toD s) ∧ hgt s ≤ n ∧
  ∀ (G' H' : Hp), Same G G' → Sep G' M H' → Q (.int (hgt s : Nat)) H'
theorem ok_levels (T : Top K mg w) (G_part_shapes : FnOk P w K mg base CX0 1 T.a_part_shapes T.d_part_shapes ["shape"] (spParts K)) : ∀ n, FnOk P w K mg base CX0 (n + 2) T.a_levels T.d_levels ["shape"] (spLev K n) := by
  intro n
  induction n with
  | zero =>
    refine T.F_levels.ok sc_levels (fun vs H Q E h => ?_) (fun cdv A outer s H vs Q E hr h => ?_)
    · obtain ⟨G, M, v, sh, rfl, _⟩ := h
      rfl
    · obtain ⟨G, M, v, sh, rfl, S, hv, hh, _⟩ := h
      rw [hgt_eq] at hh
      omega
  | succ n G_levels =>
    refine T.F_levels.ok sc_levels (fun vs H Q E h => ?_) (fun cdv A outer s H vs Q E hr h => ?_)
    · obtain ⟨G, M, v, sh, rfl, _⟩ := h
      rfl
    · obtain ⟨G, M, v, sh, rfl, S, hv, hh, q⟩ := h
      refine ⟨_, (pss_cons (ps_set (i := 1) sc_levels.nd rfl (.inl rfl) pe_int)
      (pss_cons (ps_for PassesOwn.never rfl (pi_tupK K (pe_call G_part_shapes (hr.mono (by omega)) (by rfl) T.g_part_shapes T.F_part_shapes.kp T.b_part_shapes .nil pass0 (pa_cons (xv 0) pa_nil))) (pg_name (i := 2) sc_levels.nd rfl (.inl rfl))
      (pss_cons (ps_set (i := 3) sc_levels.nd rfl (.inl rfl) (pe_call G_levels (hr.mono (by omega)) (by rfl) T.g_levels T.F_levels.kp T.b_levels .nil pass0 (pa_cons (xv 2) pa_nil)))
      (pss_one (xs_if (xt_cmp op_gtY (xv 3) (xv 1) (nomark _))
      (pss_one (ps_set (i := 1) sc_levels.nd rfl (.inl rfl) (xv 3)))
      pss_nil))))
      (pss_one (ps_ret (pe_op op_addY (xv 1) pe_int))))), ?_⟩
      refine ⟨G, _, v, sh, rfl, S, hv, fun vp G2 H2 s2 hvp S2 => ?_⟩
      obtain ⟨pa, us, rfl, hpa, hus⟩ := dp_tup hvp
      refine ⟨pa, rfl, ⟨us, S2.t hpa⟩, for_tup (xs := us) (fun i σ H' => ∃ (y2 y3 : Option V) (G' : Hp), σ = [some v, some (.int (hgts ((parts sh).take i) : Nat)), y2, y3] ∧ Same G2 G' ∧ Sep G' M H')
        ⟨_, _, G2, by rw [List.take_zero]; simp only [hgts]; rfl, Same.refl _, S2⟩ (fun i σ H' _ h => ?_) (fun i u σ H' hu h => ?_) (fun σ H' h => ?_)⟩
      · obtain ⟨_, _, G', _, s', S'⟩ := h
        exact S'.t (same_t s' hpa)
      · obtain ⟨y2, y3, G3, rfl, s3, S3⟩ := h
        obtain ⟨d, hd, hud⟩ := dpa_get hus hu
        obtain ⟨p, hp, rfl⟩ := map_get hd
        have hm := List.mem_of_getElem? hp
        have hg := hgt_part hm
        have tk : hgts ((parts sh).take (i + 1)) = max (hgts ((parts sh).take i)) (hgt p) := by rw [take_snoc hp, hgts_app, hgts_one]
        refine ⟨G3, _, u, p, rfl, S3, dp_same s3 hud, by omega, fun G4 H4 s4 S4 => ⟨fun e => ?_, fun e => ?_⟩⟩
        · have e := of_decide_eq_true e
          refine ⟨some u, some (.int (hgt p : Nat)), G4, ?_, s3.trans s4, S4⟩
          rw [tk, show max (hgts ((parts sh).take i)) (hgt p) = hgt p by omega]
          rfl
        · have e := of_decide_eq_false e
          refine ⟨some u, some (.int (hgt p : Nat)), G4, ?_, s3.trans s4, S4⟩
          rw [tk, show max (hgts ((parts sh).take i)) (hgt p) = hgts ((parts sh).take i) by omega]
          rfl
      · obtain ⟨y2, y3, G3, rfl, s3, S3⟩ := h
        have ul := dpa_len hus
        rw [List.length_map] at ul
        rw [ul, List.take_length]
        have z := q G3 H' (s2.trans s3) S3
        rw [hgt_eq] at z
        exact z

end
end K32
set_option Elab.async false
set_option linter.all false
set_option maxRecDepth 100000
set_option maxHeartbeats 4000000
namespace K32
open PySem PySem.Spec PyProof.Rows L2 XL
section
variable {P : Program} {w : World} {K : PySem.W.Frag} {mg : Str → Option Value} {base : Heap}
/-! ### the law's own parts, numbers, levels -/
def spLParts (K : PySem.W.Frag) : Sp := fun vs H Q _ => ∃ (G : Hp) (M : List (Addr × HO)) (v : V) (s : Sh), vs = [v] ∧ Sep G M H ∧ Dp K G v (toD s) ∧ ∀ (l : Addr) (us : List V) (G' H' : Hp), Same G G' → G' l = some (.lst us) → DpAll K G' us ((parts s).map toD) → Sep G' M H' → Q (.ref l) H'
theorem ok_parts (T : Top K mg w) {k : Nat} : FnOk P w K mg base CX0 (k + 1) T.a_parts T.d_parts ["_law_shape"] (spLParts K) := by
  refine T.F_parts.ok sc_parts (fun vs H Q E h => ?_) (fun cdv A outer s H vs Q E hr h => ?_)
  · obtain ⟨G, M, v, sh, rfl, _⟩ := h
    rfl
  · obtain ⟨G, M, v, sh, rfl, S, hv, q⟩ := h
    refine ⟨_, (pss_cons (xs_if (PW.pt (xw_or (xt_cmp (op_eqK K hr.units) (pe_ix (ix_k K) (xv 0) pe_int (fun _ _ => rfl)) pe_str (nomark _)) (pw_or1 (xt_cmp (op_eqK K hr.units) (pe_ix (ix_k K) (xv 0) pe_int (fun _ _ => rfl)) pe_str (nomark _)))))
      (pss_one (ps_ret (pe_callTy (call_listK K) (by rfl) T.m_list (by decide +kernel) (pa_cons (pe_ix (ix_k K) (xv 0) pe_int (fun _ _ => rfl)) pa_nil))))
      pss_nil)
      (pss_cons (xs_if (xt_cmp (op_eqK K hr.units) (pe_ix (ix_k K) (xv 0) pe_int (fun _ _ => rfl)) pe_str (nomark _))
      (pss_one (ps_ret (pe_lst (pa_cons (pe_ix (ix_k K) (xv 0) pe_int (fun _ _ => rfl)) (pa_cons (pe_ix (ix_k K) (xv 0) pe_int (fun _ _ => rfl)) pa_nil)))))
      pss_nil)
      (pss_one (ps_ret (pe_lst pa_nil))))), ?_⟩
    obtain ⟨a, rest, rfl, ha, hr'⟩ := sh_at hv
    have h0 : atI (V.str (word sh) :: rest) 0 = some (.str (word sh)) := atI_nat (j := 0) rfl
    have isL : ∀ c ps, sh = .line c ps → (∃ xs v, (SqL K H a xs ∨ SqT K H a xs) ∧ atI xs 1 = some v ∧ yList K [v] H Q) := fun c ps e => by
      subst e
      obtain ⟨x, r, rfl, h1, h2⟩ := dpa_cons hr'
      obtain ⟨p1, xs, rfl, h3, h4⟩ := dp_tup h1
      refine ⟨_, _, .inr (S.t ha), atI_nat (j := 1) rfl, p1, xs, rfl, .inr (S.t h3), fun l nl => ?_⟩
      obtain ⟨G1, s1, S1, h5⟩ := Sep.mk (o := .lst xs) S nl
      exact q l xs G1 _ s1 h5 (dpa_same s1 h4) S1
    refine ⟨_, _, .inr (S.t ha), h0, fun e1 => ⟨fun _ => ?_, tt⟩, fun e1 => ⟨_, _, .inr (S.t ha), h0, fun e2 => ?_, fun e2 => ?_⟩⟩
    · obtain ⟨ps, e⟩ := word_row (of_decide_eq_true e1)
      exact isL _ ps e
    · obtain ⟨ps, e⟩ := word_col (of_decide_eq_true e2)
      exact isL _ ps e
    · have nl : ∀ c ps, sh ≠ .line c ps := fun c ps e => by
        subst e
        rcases line_word (c := c) with z | z
        · exact of_decide_eq_false e1 z
        · exact of_decide_eq_false e2 z
      refine ⟨_, _, .inr (S.t ha), h0, fun e3 => ?_, fun e3 => ⟨sz, fun p np => ?_⟩⟩
      · obtain ⟨f, x, y, rfl⟩ := word_when (of_decide_eq_true e3)
        obtain ⟨x1, r1, rfl, h1, h2⟩ := dpa_cons hr'
        obtain ⟨x2, r2, rfl, h3, h4⟩ := dpa_cons h2
        obtain ⟨x3, r3, rfl, h5, h6⟩ := dpa_cons h4
        refine ⟨_, _, .inr (S.t ha), atI_nat (j := 2) rfl, _, _, .inr (S.t ha), atI_nat (j := 3) rfl, sz, fun p np => ?_⟩
        obtain ⟨G1, s1, S1, h7⟩ := Sep.mk (o := .lst [x2, x3]) S np
        exact q _ _ G1 _ s1 h7 (.cons (dp_same s1 h3) (.cons (dp_same s1 h5) .nil)) S1
      · obtain ⟨G1, s1, S1, h1⟩ := Sep.mk (o := .lst []) S np
        have e0 : parts sh = [] := by
          cases sh with
          | line c ps => exact absurd rfl (nl c ps)
          | wen f x y => exact absurd rfl (of_decide_eq_false e3)
          | _ => rfl
        refine q _ _ G1 _ s1 h1 ?_ S1
        rw [e0]
        exact .nil
def spLNumb (K : PySem.W.Frag) (n : Nat) : Sp := fun vs H Q _ => ∃ (G : Hp) (M : List (Addr × HO)) (v : V) (s : Sh), vs = [v] ∧ Sep G M H ∧ Dp K G v (toD s) ∧ hgt s ≤ n ∧ cnt s ≤ 1000 ∧
  ∀ (l : Addr) (us : List V) (G' H' : Hp), Same G G' → G' l = some (.lst us) → DpAll K G' us ((numb s).map toD) → Sep G' M H' → Q (.ref l) H'
theorem ok_law_numbered (T : Top K mg w) (G_parts : FnOk P w K mg base CX0 1 T.a_parts T.d_parts ["_law_shape"] (spLParts K)) : ∀ n, FnOk P w K mg base CX0 (n + 2) T.a_law_numbered T.d_law_numbered ["_law_shape"] (spLNumb K n) := by
  intro n
  induction n with
  | zero =>
    refine T.F_law_numbered.ok sc_law_numbered (fun vs H Q E h => ?_) (fun cdv A outer s H vs Q E hr h => ?_)
    · obtain ⟨G, M, v, sh, rfl, _⟩ := h
      rfl
    · obtain ⟨G, M, v, sh, rfl, S, hv, hh, _⟩ := h
      rw [hgt_eq] at hh
      omega
  | succ n G_law_numbered =>
    refine T.F_law_numbered.ok sc_law_numbered (fun vs H Q E h => ?_) (fun cdv A outer s H vs Q E hr h => ?_)
    · obtain ⟨G, M, v, sh, rfl, _⟩ := h
      rfl
    · obtain ⟨G, M, v, sh, rfl, S, hv, hh, hc, q⟩ := h
      refine ⟨_, (pss_cons (ps_set (i := 1) sc_law_numbered.nd rfl (.inl rfl) (pe_lst (pa_cons (xv 0) pa_nil)))
      (pss_cons (ps_for PassesOwn.never rfl (pi_listK K (pe_call G_parts (hr.mono (by omega)) (by rfl) T.g_parts T.F_parts.kp T.b_parts .nil pass0 (pa_cons (xv 0) pa_nil))) (pg_name (i := 2) sc_law_numbered.nd rfl (.inl rfl))
      (pss_one (ps_expr (pe_bmK K PySem.F.plainAttrs_list PySem.F.slot_list_extend PySem.F.type_list_extend mt_extend (xv 1) (pa_cons (pe_call G_law_numbered (hr.mono (by omega)) (by rfl) T.g_law_numbered T.F_law_numbered.kp T.b_law_numbered .nil pass0 (pa_cons (xv 2) pa_nil)) pa_nil)))))
      (pss_one (ps_ret (xv 1))))), ?_⟩
      refine ⟨sz, fun L nL => ?_⟩
      have S1 := S.new (o := .lst [v]) nL
      refine ⟨G, _, v, sh, rfl, S1, hv, fun pa us G2 H2 s2 hpa hus S2 => ?_⟩
      have ce := cnt_eq sh
      refine ⟨pa, rfl, ⟨us, SqL.of (S2.st hpa)⟩, for_list (xs := us) (fun i σ H' => ∃ (y2 : Option V) (ws : List V) (G' : Hp), σ = [some v, some (.ref L), y2] ∧ Same G2 G' ∧ DpAll K G' ws ((sh :: numbs ((parts sh).take i)).map toD) ∧ Sep G' ((L, .lst ws) :: M) H')
        ⟨_, [v], G2, rfl, Same.refl _, dpa_one (dp_same s2 hv), S2⟩ (fun i σ H' _ h => ?_) (fun i u σ H' hu h => ?_) (fun σ H' h => ?_)⟩
      · obtain ⟨_, _, G', _, s', _, S'⟩ := h
        exact SqL.of (S'.st (s' _ _ hpa))
      · obtain ⟨y2, ws, G3, rfl, s3, hws, S3⟩ := h
        obtain ⟨d, hd, hud⟩ := dpa_get hus hu
        obtain ⟨p, hp, rfl⟩ := map_get hd
        have hm := List.mem_of_getElem? hp
        have hg := hgt_part hm
        have wl := dpa_len hws
        have cl : cnt p ≤ (numbs (parts sh)).length := cnt_mem hm
        refine ⟨.inl ⟨rfl, _, SqL.of S3.hd⟩, G3, _, u, p, rfl, S3, dp_same s3 hud, by omega, by omega, fun a4 us4 G4 H4 s4 ha4 hus4 S4 => ?_⟩
        have ul := dpa_len hus4
        have tk : numbs ((parts sh).take (i + 1)) = numbs ((parts sh).take i) ++ numb p := by rw [take_snoc hp, numbs_app, numbs_one]
        have tl := numbs_take_le (ps := parts sh) (i + 1)
        rw [tk, List.length_append] at tl
        rw [List.length_map, List.length_cons] at wl
        rw [List.length_map] at ul
        refine ⟨L, a4, ws, us4, rfl, rfl, S4.hd, S4.st ha4, small (by omega), _, ws ++ us4, G4, rfl, s3.trans s4, ?_, S4.set⟩
        rw [tk, ← List.cons_append, List.map_append]
        exact dpa_app (dpa_same s4 hws) hus4
      · obtain ⟨y2, ws, G3, rfl, s3, hws, S3⟩ := h
        have ul := dpa_len hus
        rw [List.length_map] at ul
        rw [ul, List.take_length, ← numb_eq] at hws
        exact q L ws _ _ (s2.trans (s3.trans S3.frzS)) upd_same (dpa_same S3.frzS hws) S3.frz
theorem ok_high (T : Top K mg w) (G_parts : FnOk P w K mg base CX0 1 T.a_parts T.d_parts ["_law_shape"] (spLParts K)) : ∀ n, FnOk P w K mg base CX0 (n + 2) T.a_high T.d_high ["_law_shape"] (spLev K n) := by
  intro n
  induction n with
  | zero =>
    refine T.F_high.ok sc_high (fun vs H Q E h => ?_) (fun cdv A outer s H vs Q E hr h => ?_)
    · obtain ⟨G, M, v, sh, rfl, _⟩ := h
      rfl
    · obtain ⟨G, M, v, sh, rfl, S, hv, hh, _⟩ := h
      rw [hgt_eq] at hh
      omega
  | succ n G_high =>
    refine T.F_high.ok sc_high (fun vs H Q E h => ?_) (fun cdv A outer s H vs Q E hr h => ?_)
    · obtain ⟨G, M, v, sh, rfl, _⟩ := h
      rfl
    · obtain ⟨G, M, v, sh, rfl, S, hv, hh, q⟩ := h
      refine ⟨_, (pss_cons (ps_set (i := 1) sc_high.nd rfl (.inl rfl) pe_int)
      (pss_cons (ps_for PassesOwn.never rfl (pi_listK K (pe_call G_parts (hr.mono (by omega)) (by rfl) T.g_parts T.F_parts.kp T.b_parts .nil pass0 (pa_cons (xv 0) pa_nil))) (pg_name (i := 2) sc_high.nd rfl (.inl rfl))
      (pss_cons (ps_set (i := 3) sc_high.nd rfl (.inl rfl) (pe_call G_high (hr.mono (by omega)) (by rfl) T.g_high T.F_high.kp T.b_high .nil pass0 (pa_cons (xv 2) pa_nil)))
      (pss_one (xs_if (xt_cmp op_gtY (xv 3) (xv 1) (nomark _))
      (pss_one (ps_set (i := 1) sc_high.nd rfl (.inl rfl) (xv 3)))
      pss_nil))))
      (pss_one (ps_ret (pe_op op_addY (xv 1) pe_int))))), ?_⟩
      refine ⟨G, _, v, sh, rfl, S, hv, fun pa us G2 H2 s2 hpa hus S2 => ?_⟩
      refine ⟨pa, rfl, ⟨us, SqL.of (S2.st hpa)⟩, for_list (xs := us) (fun i σ H' => ∃ (y2 y3 : Option V) (G' : Hp), σ = [some v, some (.int (hgts ((parts sh).take i) : Nat)), y2, y3] ∧ Same G2 G' ∧ Sep G' M H')
        ⟨_, _, G2, by rw [List.take_zero]; simp only [hgts]; rfl, Same.refl _, S2⟩ (fun i σ H' _ h => ?_) (fun i u σ H' hu h => ?_) (fun σ H' h => ?_)⟩
      · obtain ⟨_, _, G', _, s', S'⟩ := h
        exact SqL.of (S'.st (s' _ _ hpa))
      · obtain ⟨y2, y3, G3, rfl, s3, S3⟩ := h
        obtain ⟨d, hd, hud⟩ := dpa_get hus hu
        obtain ⟨p, hp, rfl⟩ := map_get hd
        have hm := List.mem_of_getElem? hp
        have hg := hgt_part hm
        have tk : hgts ((parts sh).take (i + 1)) = max (hgts ((parts sh).take i)) (hgt p) := by rw [take_snoc hp, hgts_app, hgts_one]
        refine ⟨G3, _, u, p, rfl, S3, dp_same s3 hud, by omega, fun G4 H4 s4 S4 => ⟨fun e => ?_, fun e => ?_⟩⟩
        · have e := of_decide_eq_true e
          refine ⟨some u, some (.int (hgt p : Nat)), G4, ?_, s3.trans s4, S4⟩
          rw [tk, show max (hgts ((parts sh).take i)) (hgt p) = hgt p by omega]
          rfl
        · have e := of_decide_eq_false e
          refine ⟨some u, some (.int (hgt p : Nat)), G4, ?_, s3.trans s4, S4⟩
          rw [tk, show max (hgts ((parts sh).take i)) (hgt p) = hgts ((parts sh).take i) by omega]
          rfl
      · obtain ⟨y2, y3, G3, rfl, s3, S3⟩ := h
        have ul := dpa_len hus
        rw [List.length_map] at ul
        rw [ul, List.take_length]
        have z := q G3 H' (s2.trans s3) S3
        rw [hgt_eq] at z
        exact z

end
end K32
set_option Elab.async false
set_option linter.all false
set_option maxRecDepth 100000
set_option maxHeartbeats 4000000
namespace K32
open PySem PySem.Spec PyProof.Rows L2 XL
section
variable {P : Program} {w : World} {K : PySem.W.Frag} {mg : Str → Option Value} {base : Heap}
def spLined (K : PySem.W.Frag) : Sp := fun vs H Q _ => ∃ (G : Hp) (M : List (Addr × HO)) (c : Bool) (l : Addr) (us : List V), vs = [.str (lword c), .ref l] ∧ Sep G M H ∧ SqL K G l us ∧ (us.length ≤ 8 ∨ us.length = 11) ∧
  ∀ (q r : Addr) (G' H' : Hp), Same G G' → G' r = some (.tup us) → G' q = some (.tup [.str (lword c), .ref r]) → Sep G' M H' → Q (.ref q) H'
theorem row_no : decide (lword true = "row") = false := by decide +kernel
theorem row_yes : decide (lword false = "row") = true := by decide +kernel
/-- what row_shape or col_shape is asked -/
theorem lined_end {G : Hp} {M : List (Addr × HO)} {H : Hp} {c : Bool} {us : List V} {Q : VK} {E : XK} (S : Sep G M H) (hl : us.length ≤ 11)
    (q : ∀ (q r : Addr) (G' H' : Hp), Same G G' → G' r = some (.tup us) → G' q = some (.tup [.str (lword c), .ref r]) → Sep G' M H' → Q (.ref q) H') : spS 0 (spB 1 (lword c)) us H Q E := by
  refine ⟨[], us, rfl, rfl, small (by omega), fun p np => ?_⟩
  obtain ⟨G1, s1, S1, h1⟩ := Sep.mk (o := .tup us) S np
  exact ⟨G1, M, rfl, S1, fun r G2 H2 s2 h2 S2 => q r p G2 H2 (s1.trans s2) (s2 _ _ h1) h2 S2⟩
theorem ok_lined (T : Top K mg w) {k : Nat} (G_row_shape : FnR P w K mg base CX0 1 T.a_row_shape (spS 0 (spB 1 "row"))) (G_col_shape : FnR P w K mg base CX0 1 T.a_col_shape (spS 0 (spB 1 "col"))) : FnOk P w K mg base CX0 (k + 2) T.a_lined T.d_lined ["_law_word", "_law_p"] (spLined K) := by
  refine T.F_lined.ok sc_lined (fun vs H Q E h => ?_) (fun cdv A outer s H vs Q E hr h => ?_)
  · obtain ⟨G, M, c, l, us, rfl, _⟩ := h
    rfl
  · obtain ⟨G, M, c, l, us, rfl, S, hl, hn, q⟩ := h
    refine ⟨_, (pss_cons (xs_if (xt_cmp (op_eqK K hr.units) (pe_callB (cr_lenK K) (by rfl) T.m_len (by decide +kernel) (pa_cons (xv 1) pa_nil)) pe_int (nomark _))
      (pss_one (ps_ret (xe_if (xt_cmp (op_eqK K hr.units) (xv 0) pe_str (nomark _)) (pe_callP0 G_row_shape (hr.mono (by omega)) (by rfl) T.g_row_shape T.F_row_shape.kp pass0) (pe_callP0 G_col_shape (hr.mono (by omega)) (by rfl) T.g_col_shape T.F_col_shape.kp pass0))))
      pss_nil)
      (pss_cons (xs_if (xt_cmp (op_eqK K hr.units) (pe_callB (cr_lenK K) (by rfl) T.m_len (by decide +kernel) (pa_cons (xv 1) pa_nil)) pe_int (nomark _))
      (pss_one (ps_ret (xe_if (xt_cmp (op_eqK K hr.units) (xv 0) pe_str (nomark _)) (pe_callP G_row_shape (hr.mono (by omega)) (by rfl) T.g_row_shape T.F_row_shape.kp pass0 (pa_cons (pe_ix (ix_k K) (xv 1) pe_int (fun _ _ => rfl)) pa_nil)) (pe_callP G_col_shape (hr.mono (by omega)) (by rfl) T.g_col_shape T.F_col_shape.kp pass0 (pa_cons (pe_ix (ix_k K) (xv 1) pe_int (fun _ _ => rfl)) pa_nil)))))
      pss_nil)
      (pss_cons (xs_if (xt_cmp (op_eqK K hr.units) (pe_callB (cr_lenK K) (by rfl) T.m_len (by decide +kernel) (pa_cons (xv 1) pa_nil)) pe_int (nomark _))
      (pss_one (ps_ret (xe_if (xt_cmp (op_eqK K hr.units) (xv 0) pe_str (nomark _)) (pe_callP G_row_shape (hr.mono (by omega)) (by rfl) T.g_row_shape T.F_row_shape.kp pass0 (pa_cons (pe_ix (ix_k K) (xv 1) pe_int (fun _ _ => rfl)) (pa_cons (pe_ix (ix_k K) (xv 1) pe_int (fun _ _ => rfl)) pa_nil))) (pe_callP G_col_shape (hr.mono (by omega)) (by rfl) T.g_col_shape T.F_col_shape.kp pass0 (pa_cons (pe_ix (ix_k K) (xv 1) pe_int (fun _ _ => rfl)) (pa_cons (pe_ix (ix_k K) (xv 1) pe_int (fun _ _ => rfl)) pa_nil))))))
      pss_nil)
      (pss_cons (xs_if (xt_cmp (op_eqK K hr.units) (pe_callB (cr_lenK K) (by rfl) T.m_len (by decide +kernel) (pa_cons (xv 1) pa_nil)) pe_int (nomark _))
      (pss_one (ps_ret (xe_if (xt_cmp (op_eqK K hr.units) (xv 0) pe_str (nomark _)) (pe_callP G_row_shape (hr.mono (by omega)) (by rfl) T.g_row_shape T.F_row_shape.kp pass0 (pa_cons (pe_ix (ix_k K) (xv 1) pe_int (fun _ _ => rfl)) (pa_cons (pe_ix (ix_k K) (xv 1) pe_int (fun _ _ => rfl)) (pa_cons (pe_ix (ix_k K) (xv 1) pe_int (fun _ _ => rfl)) pa_nil)))) (pe_callP G_col_shape (hr.mono (by omega)) (by rfl) T.g_col_shape T.F_col_shape.kp pass0 (pa_cons (pe_ix (ix_k K) (xv 1) pe_int (fun _ _ => rfl)) (pa_cons (pe_ix (ix_k K) (xv 1) pe_int (fun _ _ => rfl)) (pa_cons (pe_ix (ix_k K) (xv 1) pe_int (fun _ _ => rfl)) pa_nil)))))))
      pss_nil)
      (pss_cons (xs_if (xt_cmp (op_eqK K hr.units) (pe_callB (cr_lenK K) (by rfl) T.m_len (by decide +kernel) (pa_cons (xv 1) pa_nil)) pe_int (nomark _))
      (pss_one (ps_ret (xe_if (xt_cmp (op_eqK K hr.units) (xv 0) pe_str (nomark _)) (pe_callP G_row_shape (hr.mono (by omega)) (by rfl) T.g_row_shape T.F_row_shape.kp pass0 (pa_cons (pe_ix (ix_k K) (xv 1) pe_int (fun _ _ => rfl)) (pa_cons (pe_ix (ix_k K) (xv 1) pe_int (fun _ _ => rfl)) (pa_cons (pe_ix (ix_k K) (xv 1) pe_int (fun _ _ => rfl)) (pa_cons (pe_ix (ix_k K) (xv 1) pe_int (fun _ _ => rfl)) pa_nil))))) (pe_callP G_col_shape (hr.mono (by omega)) (by rfl) T.g_col_shape T.F_col_shape.kp pass0 (pa_cons (pe_ix (ix_k K) (xv 1) pe_int (fun _ _ => rfl)) (pa_cons (pe_ix (ix_k K) (xv 1) pe_int (fun _ _ => rfl)) (pa_cons (pe_ix (ix_k K) (xv 1) pe_int (fun _ _ => rfl)) (pa_cons (pe_ix (ix_k K) (xv 1) pe_int (fun _ _ => rfl)) pa_nil))))))))
      pss_nil)
      (pss_cons (xs_if (xt_cmp (op_eqK K hr.units) (pe_callB (cr_lenK K) (by rfl) T.m_len (by decide +kernel) (pa_cons (xv 1) pa_nil)) pe_int (nomark _))
      (pss_cons (xs_if (xt_cmp (op_eqK K hr.units) (xv 0) pe_str (nomark _))
      (pss_one (ps_ret (pe_callP G_row_shape (hr.mono (by omega)) (by rfl) T.g_row_shape T.F_row_shape.kp pass0 (pa_cons (pe_ix (ix_k K) (xv 1) pe_int (fun _ _ => rfl)) (pa_cons (pe_ix (ix_k K) (xv 1) pe_int (fun _ _ => rfl)) (pa_cons (pe_ix (ix_k K) (xv 1) pe_int (fun _ _ => rfl)) (pa_cons (pe_ix (ix_k K) (xv 1) pe_int (fun _ _ => rfl)) (pa_cons (pe_ix (ix_k K) (xv 1) pe_int (fun _ _ => rfl)) pa_nil))))))))
      pss_nil)
      (pss_one (ps_ret (pe_callP G_col_shape (hr.mono (by omega)) (by rfl) T.g_col_shape T.F_col_shape.kp pass0 (pa_cons (pe_ix (ix_k K) (xv 1) pe_int (fun _ _ => rfl)) (pa_cons (pe_ix (ix_k K) (xv 1) pe_int (fun _ _ => rfl)) (pa_cons (pe_ix (ix_k K) (xv 1) pe_int (fun _ _ => rfl)) (pa_cons (pe_ix (ix_k K) (xv 1) pe_int (fun _ _ => rfl)) (pa_cons (pe_ix (ix_k K) (xv 1) pe_int (fun _ _ => rfl)) pa_nil)))))))))
      pss_nil)
      (pss_cons (xs_if (xt_cmp (op_eqK K hr.units) (pe_callB (cr_lenK K) (by rfl) T.m_len (by decide +kernel) (pa_cons (xv 1) pa_nil)) pe_int (nomark _))
      (pss_cons (xs_if (xt_cmp (op_eqK K hr.units) (xv 0) pe_str (nomark _))
      (pss_one (ps_ret (pe_callP G_row_shape (hr.mono (by omega)) (by rfl) T.g_row_shape T.F_row_shape.kp pass0 (pa_cons (pe_ix (ix_k K) (xv 1) pe_int (fun _ _ => rfl)) (pa_cons (pe_ix (ix_k K) (xv 1) pe_int (fun _ _ => rfl)) (pa_cons (pe_ix (ix_k K) (xv 1) pe_int (fun _ _ => rfl)) (pa_cons (pe_ix (ix_k K) (xv 1) pe_int (fun _ _ => rfl)) (pa_cons (pe_ix (ix_k K) (xv 1) pe_int (fun _ _ => rfl)) (pa_cons (pe_ix (ix_k K) (xv 1) pe_int (fun _ _ => rfl)) pa_nil)))))))))
      pss_nil)
      (pss_one (ps_ret (pe_callP G_col_shape (hr.mono (by omega)) (by rfl) T.g_col_shape T.F_col_shape.kp pass0 (pa_cons (pe_ix (ix_k K) (xv 1) pe_int (fun _ _ => rfl)) (pa_cons (pe_ix (ix_k K) (xv 1) pe_int (fun _ _ => rfl)) (pa_cons (pe_ix (ix_k K) (xv 1) pe_int (fun _ _ => rfl)) (pa_cons (pe_ix (ix_k K) (xv 1) pe_int (fun _ _ => rfl)) (pa_cons (pe_ix (ix_k K) (xv 1) pe_int (fun _ _ => rfl)) (pa_cons (pe_ix (ix_k K) (xv 1) pe_int (fun _ _ => rfl)) pa_nil))))))))))
      pss_nil)
      (pss_cons (xs_if (xt_cmp (op_eqK K hr.units) (pe_callB (cr_lenK K) (by rfl) T.m_len (by decide +kernel) (pa_cons (xv 1) pa_nil)) pe_int (nomark _))
      (pss_cons (xs_if (xt_cmp (op_eqK K hr.units) (xv 0) pe_str (nomark _))
      (pss_one (ps_ret (pe_callP G_row_shape (hr.mono (by omega)) (by rfl) T.g_row_shape T.F_row_shape.kp pass0 (pa_cons (pe_ix (ix_k K) (xv 1) pe_int (fun _ _ => rfl)) (pa_cons (pe_ix (ix_k K) (xv 1) pe_int (fun _ _ => rfl)) (pa_cons (pe_ix (ix_k K) (xv 1) pe_int (fun _ _ => rfl)) (pa_cons (pe_ix (ix_k K) (xv 1) pe_int (fun _ _ => rfl)) (pa_cons (pe_ix (ix_k K) (xv 1) pe_int (fun _ _ => rfl)) (pa_cons (pe_ix (ix_k K) (xv 1) pe_int (fun _ _ => rfl)) (pa_cons (pe_ix (ix_k K) (xv 1) pe_int (fun _ _ => rfl)) pa_nil))))))))))
      pss_nil)
      (pss_one (ps_ret (pe_callP G_col_shape (hr.mono (by omega)) (by rfl) T.g_col_shape T.F_col_shape.kp pass0 (pa_cons (pe_ix (ix_k K) (xv 1) pe_int (fun _ _ => rfl)) (pa_cons (pe_ix (ix_k K) (xv 1) pe_int (fun _ _ => rfl)) (pa_cons (pe_ix (ix_k K) (xv 1) pe_int (fun _ _ => rfl)) (pa_cons (pe_ix (ix_k K) (xv 1) pe_int (fun _ _ => rfl)) (pa_cons (pe_ix (ix_k K) (xv 1) pe_int (fun _ _ => rfl)) (pa_cons (pe_ix (ix_k K) (xv 1) pe_int (fun _ _ => rfl)) (pa_cons (pe_ix (ix_k K) (xv 1) pe_int (fun _ _ => rfl)) pa_nil)))))))))))
      pss_nil)
      (pss_cons (xs_if (xt_cmp (op_eqK K hr.units) (pe_callB (cr_lenK K) (by rfl) T.m_len (by decide +kernel) (pa_cons (xv 1) pa_nil)) pe_int (nomark _))
      (pss_cons (xs_if (xt_cmp (op_eqK K hr.units) (xv 0) pe_str (nomark _))
      (pss_one (ps_ret (pe_callP G_row_shape (hr.mono (by omega)) (by rfl) T.g_row_shape T.F_row_shape.kp pass0 (pa_cons (pe_ix (ix_k K) (xv 1) pe_int (fun _ _ => rfl)) (pa_cons (pe_ix (ix_k K) (xv 1) pe_int (fun _ _ => rfl)) (pa_cons (pe_ix (ix_k K) (xv 1) pe_int (fun _ _ => rfl)) (pa_cons (pe_ix (ix_k K) (xv 1) pe_int (fun _ _ => rfl)) (pa_cons (pe_ix (ix_k K) (xv 1) pe_int (fun _ _ => rfl)) (pa_cons (pe_ix (ix_k K) (xv 1) pe_int (fun _ _ => rfl)) (pa_cons (pe_ix (ix_k K) (xv 1) pe_int (fun _ _ => rfl)) (pa_cons (pe_ix (ix_k K) (xv 1) pe_int (fun _ _ => rfl)) pa_nil)))))))))))
      pss_nil)
      (pss_one (ps_ret (pe_callP G_col_shape (hr.mono (by omega)) (by rfl) T.g_col_shape T.F_col_shape.kp pass0 (pa_cons (pe_ix (ix_k K) (xv 1) pe_int (fun _ _ => rfl)) (pa_cons (pe_ix (ix_k K) (xv 1) pe_int (fun _ _ => rfl)) (pa_cons (pe_ix (ix_k K) (xv 1) pe_int (fun _ _ => rfl)) (pa_cons (pe_ix (ix_k K) (xv 1) pe_int (fun _ _ => rfl)) (pa_cons (pe_ix (ix_k K) (xv 1) pe_int (fun _ _ => rfl)) (pa_cons (pe_ix (ix_k K) (xv 1) pe_int (fun _ _ => rfl)) (pa_cons (pe_ix (ix_k K) (xv 1) pe_int (fun _ _ => rfl)) (pa_cons (pe_ix (ix_k K) (xv 1) pe_int (fun _ _ => rfl)) pa_nil))))))))))))
      pss_nil)
      (pss_cons (xs_if (xt_cmp (op_eqK K hr.units) (xv 0) pe_str (nomark _))
      (pss_one (ps_ret (pe_callP G_row_shape (hr.mono (by omega)) (by rfl) T.g_row_shape T.F_row_shape.kp pass0 (pa_cons (pe_ix (ix_k K) (xv 1) pe_int (fun _ _ => rfl)) (pa_cons (pe_ix (ix_k K) (xv 1) pe_int (fun _ _ => rfl)) (pa_cons (pe_ix (ix_k K) (xv 1) pe_int (fun _ _ => rfl)) (pa_cons (pe_ix (ix_k K) (xv 1) pe_int (fun _ _ => rfl)) (pa_cons (pe_ix (ix_k K) (xv 1) pe_int (fun _ _ => rfl)) (pa_cons (pe_ix (ix_k K) (xv 1) pe_int (fun _ _ => rfl)) (pa_cons (pe_ix (ix_k K) (xv 1) pe_int (fun _ _ => rfl)) (pa_cons (pe_ix (ix_k K) (xv 1) pe_int (fun _ _ => rfl)) (pa_cons (pe_ix (ix_k K) (xv 1) pe_int (fun _ _ => rfl)) (pa_cons (pe_ix (ix_k K) (xv 1) pe_int (fun _ _ => rfl)) (pa_cons (pe_ix (ix_k K) (xv 1) pe_int (fun _ _ => rfl)) pa_nil))))))))))))))
      pss_nil)
      (pss_one (ps_ret (pe_callP G_col_shape (hr.mono (by omega)) (by rfl) T.g_col_shape T.F_col_shape.kp pass0 (pa_cons (pe_ix (ix_k K) (xv 1) pe_int (fun _ _ => rfl)) (pa_cons (pe_ix (ix_k K) (xv 1) pe_int (fun _ _ => rfl)) (pa_cons (pe_ix (ix_k K) (xv 1) pe_int (fun _ _ => rfl)) (pa_cons (pe_ix (ix_k K) (xv 1) pe_int (fun _ _ => rfl)) (pa_cons (pe_ix (ix_k K) (xv 1) pe_int (fun _ _ => rfl)) (pa_cons (pe_ix (ix_k K) (xv 1) pe_int (fun _ _ => rfl)) (pa_cons (pe_ix (ix_k K) (xv 1) pe_int (fun _ _ => rfl)) (pa_cons (pe_ix (ix_k K) (xv 1) pe_int (fun _ _ => rfl)) (pa_cons (pe_ix (ix_k K) (xv 1) pe_int (fun _ _ => rfl)) (pa_cons (pe_ix (ix_k K) (xv 1) pe_int (fun _ _ => rfl)) (pa_cons (pe_ix (ix_k K) (xv 1) pe_int (fun _ _ => rfl)) pa_nil)))))))))))))))))))))))), ?_⟩
    have sl := S.l hl
    have te := fun (E : XK) => lined_end (E := E) S (show us.length ≤ 11 by omega) q
    refine ⟨_, .inl sl, fun e => ?_, fun e0 => ?_⟩
    · have e : us.length = 0 := by have := of_decide_eq_true e; omega
      obtain rfl : us = [] := List.length_eq_zero_iff.mp e
      cases c with
      | false => exact ⟨fun _ => te _, fun e => absurd (row_yes.symm.trans e) (by decide)⟩
      | true => exact ⟨fun e => absurd (row_no.symm.trans e) (by decide), fun _ => te _⟩
    refine ⟨_, .inl sl, fun e => ?_, fun e1 => ?_⟩
    · have e : us.length = 1 := by have := of_decide_eq_true e; omega
      obtain ⟨x0, rfl⟩ : ∃ x0, us = [x0] := by
        match us, e with
        | [x0], _ => exact ⟨x0, rfl⟩
      cases c with
      | false => exact ⟨fun _ => ⟨_, _, .inl sl, atI_nat (j := 0) rfl, te _⟩, fun e => absurd (row_yes.symm.trans e) (by decide)⟩
      | true => exact ⟨fun e => absurd (row_no.symm.trans e) (by decide), fun _ => ⟨_, _, .inl sl, atI_nat (j := 0) rfl, te _⟩⟩
    refine ⟨_, .inl sl, fun e => ?_, fun e2 => ?_⟩
    · have e : us.length = 2 := by have := of_decide_eq_true e; omega
      obtain ⟨x0, x1, rfl⟩ : ∃ x0 x1, us = [x0, x1] := by
        match us, e with
        | [x0, x1], _ => exact ⟨x0, x1, rfl⟩
      cases c with
      | false => exact ⟨fun _ => ⟨_, _, .inl sl, atI_nat (j := 0) rfl, _, _, .inl sl, atI_nat (j := 1) rfl, te _⟩, fun e => absurd (row_yes.symm.trans e) (by decide)⟩
      | true => exact ⟨fun e => absurd (row_no.symm.trans e) (by decide), fun _ => ⟨_, _, .inl sl, atI_nat (j := 0) rfl, _, _, .inl sl, atI_nat (j := 1) rfl, te _⟩⟩
    refine ⟨_, .inl sl, fun e => ?_, fun e3 => ?_⟩
    · have e : us.length = 3 := by have := of_decide_eq_true e; omega
      obtain ⟨x0, x1, x2, rfl⟩ : ∃ x0 x1 x2, us = [x0, x1, x2] := by
        match us, e with
        | [x0, x1, x2], _ => exact ⟨x0, x1, x2, rfl⟩
      cases c with
      | false => exact ⟨fun _ => ⟨_, _, .inl sl, atI_nat (j := 0) rfl, _, _, .inl sl, atI_nat (j := 1) rfl, _, _, .inl sl, atI_nat (j := 2) rfl, te _⟩, fun e => absurd (row_yes.symm.trans e) (by decide)⟩
      | true => exact ⟨fun e => absurd (row_no.symm.trans e) (by decide), fun _ => ⟨_, _, .inl sl, atI_nat (j := 0) rfl, _, _, .inl sl, atI_nat (j := 1) rfl, _, _, .inl sl, atI_nat (j := 2) rfl, te _⟩⟩
    refine ⟨_, .inl sl, fun e => ?_, fun e4 => ?_⟩
    · have e : us.length = 4 := by have := of_decide_eq_true e; omega
      obtain ⟨x0, x1, x2, x3, rfl⟩ : ∃ x0 x1 x2 x3, us = [x0, x1, x2, x3] := by
        match us, e with
        | [x0, x1, x2, x3], _ => exact ⟨x0, x1, x2, x3, rfl⟩
      cases c with
      | false => exact ⟨fun _ => ⟨_, _, .inl sl, atI_nat (j := 0) rfl, _, _, .inl sl, atI_nat (j := 1) rfl, _, _, .inl sl, atI_nat (j := 2) rfl, _, _, .inl sl, atI_nat (j := 3) rfl, te _⟩, fun e => absurd (row_yes.symm.trans e) (by decide)⟩
      | true => exact ⟨fun e => absurd (row_no.symm.trans e) (by decide), fun _ => ⟨_, _, .inl sl, atI_nat (j := 0) rfl, _, _, .inl sl, atI_nat (j := 1) rfl, _, _, .inl sl, atI_nat (j := 2) rfl, _, _, .inl sl, atI_nat (j := 3) rfl, te _⟩⟩
    refine ⟨_, .inl sl, fun e => ?_, fun e5 => ?_⟩
    · have e : us.length = 5 := by have := of_decide_eq_true e; omega
      obtain ⟨x0, x1, x2, x3, x4, rfl⟩ : ∃ x0 x1 x2 x3 x4, us = [x0, x1, x2, x3, x4] := by
        match us, e with
        | [x0, x1, x2, x3, x4], _ => exact ⟨x0, x1, x2, x3, x4, rfl⟩
      cases c with
      | false => exact ⟨fun _ => ⟨_, _, .inl sl, atI_nat (j := 0) rfl, _, _, .inl sl, atI_nat (j := 1) rfl, _, _, .inl sl, atI_nat (j := 2) rfl, _, _, .inl sl, atI_nat (j := 3) rfl, _, _, .inl sl, atI_nat (j := 4) rfl, te _⟩, fun e => absurd (row_yes.symm.trans e) (by decide)⟩
      | true => exact ⟨fun e => absurd (row_no.symm.trans e) (by decide), fun _ => ⟨_, _, .inl sl, atI_nat (j := 0) rfl, _, _, .inl sl, atI_nat (j := 1) rfl, _, _, .inl sl, atI_nat (j := 2) rfl, _, _, .inl sl, atI_nat (j := 3) rfl, _, _, .inl sl, atI_nat (j := 4) rfl, te _⟩⟩
    refine ⟨_, .inl sl, fun e => ?_, fun e6 => ?_⟩
    · have e : us.length = 6 := by have := of_decide_eq_true e; omega
      obtain ⟨x0, x1, x2, x3, x4, x5, rfl⟩ : ∃ x0 x1 x2 x3 x4 x5, us = [x0, x1, x2, x3, x4, x5] := by
        match us, e with
        | [x0, x1, x2, x3, x4, x5], _ => exact ⟨x0, x1, x2, x3, x4, x5, rfl⟩
      cases c with
      | false => exact ⟨fun _ => ⟨_, _, .inl sl, atI_nat (j := 0) rfl, _, _, .inl sl, atI_nat (j := 1) rfl, _, _, .inl sl, atI_nat (j := 2) rfl, _, _, .inl sl, atI_nat (j := 3) rfl, _, _, .inl sl, atI_nat (j := 4) rfl, _, _, .inl sl, atI_nat (j := 5) rfl, te _⟩, fun e => absurd (row_yes.symm.trans e) (by decide)⟩
      | true => exact ⟨fun e => absurd (row_no.symm.trans e) (by decide), fun _ => ⟨_, _, .inl sl, atI_nat (j := 0) rfl, _, _, .inl sl, atI_nat (j := 1) rfl, _, _, .inl sl, atI_nat (j := 2) rfl, _, _, .inl sl, atI_nat (j := 3) rfl, _, _, .inl sl, atI_nat (j := 4) rfl, _, _, .inl sl, atI_nat (j := 5) rfl, te _⟩⟩
    refine ⟨_, .inl sl, fun e => ?_, fun e7 => ?_⟩
    · have e : us.length = 7 := by have := of_decide_eq_true e; omega
      obtain ⟨x0, x1, x2, x3, x4, x5, x6, rfl⟩ : ∃ x0 x1 x2 x3 x4 x5 x6, us = [x0, x1, x2, x3, x4, x5, x6] := by
        match us, e with
        | [x0, x1, x2, x3, x4, x5, x6], _ => exact ⟨x0, x1, x2, x3, x4, x5, x6, rfl⟩
      cases c with
      | false => exact ⟨fun _ => ⟨_, _, .inl sl, atI_nat (j := 0) rfl, _, _, .inl sl, atI_nat (j := 1) rfl, _, _, .inl sl, atI_nat (j := 2) rfl, _, _, .inl sl, atI_nat (j := 3) rfl, _, _, .inl sl, atI_nat (j := 4) rfl, _, _, .inl sl, atI_nat (j := 5) rfl, _, _, .inl sl, atI_nat (j := 6) rfl, te _⟩, fun e => absurd (row_yes.symm.trans e) (by decide)⟩
      | true => exact ⟨fun e => absurd (row_no.symm.trans e) (by decide), fun _ => ⟨_, _, .inl sl, atI_nat (j := 0) rfl, _, _, .inl sl, atI_nat (j := 1) rfl, _, _, .inl sl, atI_nat (j := 2) rfl, _, _, .inl sl, atI_nat (j := 3) rfl, _, _, .inl sl, atI_nat (j := 4) rfl, _, _, .inl sl, atI_nat (j := 5) rfl, _, _, .inl sl, atI_nat (j := 6) rfl, te _⟩⟩
    refine ⟨_, .inl sl, fun e => ?_, fun e8 => ?_⟩
    · have e : us.length = 8 := by have := of_decide_eq_true e; omega
      obtain ⟨x0, x1, x2, x3, x4, x5, x6, x7, rfl⟩ : ∃ x0 x1 x2 x3 x4 x5 x6 x7, us = [x0, x1, x2, x3, x4, x5, x6, x7] := by
        match us, e with
        | [x0, x1, x2, x3, x4, x5, x6, x7], _ => exact ⟨x0, x1, x2, x3, x4, x5, x6, x7, rfl⟩
      cases c with
      | false => exact ⟨fun _ => ⟨_, _, .inl sl, atI_nat (j := 0) rfl, _, _, .inl sl, atI_nat (j := 1) rfl, _, _, .inl sl, atI_nat (j := 2) rfl, _, _, .inl sl, atI_nat (j := 3) rfl, _, _, .inl sl, atI_nat (j := 4) rfl, _, _, .inl sl, atI_nat (j := 5) rfl, _, _, .inl sl, atI_nat (j := 6) rfl, _, _, .inl sl, atI_nat (j := 7) rfl, te _⟩, fun e => absurd (row_yes.symm.trans e) (by decide)⟩
      | true => exact ⟨fun e => absurd (row_no.symm.trans e) (by decide), fun _ => ⟨_, _, .inl sl, atI_nat (j := 0) rfl, _, _, .inl sl, atI_nat (j := 1) rfl, _, _, .inl sl, atI_nat (j := 2) rfl, _, _, .inl sl, atI_nat (j := 3) rfl, _, _, .inl sl, atI_nat (j := 4) rfl, _, _, .inl sl, atI_nat (j := 5) rfl, _, _, .inl sl, atI_nat (j := 6) rfl, _, _, .inl sl, atI_nat (j := 7) rfl, te _⟩⟩
    have e : us.length = 11 := by
      have z0 := of_decide_eq_false e0
      have z1 := of_decide_eq_false e1
      have z2 := of_decide_eq_false e2
      have z3 := of_decide_eq_false e3
      have z4 := of_decide_eq_false e4
      have z5 := of_decide_eq_false e5
      have z6 := of_decide_eq_false e6
      have z7 := of_decide_eq_false e7
      have z8 := of_decide_eq_false e8
      omega
    obtain ⟨x0, x1, x2, x3, x4, x5, x6, x7, x8, x9, x10, rfl⟩ : ∃ x0 x1 x2 x3 x4 x5 x6 x7 x8 x9 x10, us = [x0, x1, x2, x3, x4, x5, x6, x7, x8, x9, x10] := by
      match us, e with
      | [x0, x1, x2, x3, x4, x5, x6, x7, x8, x9, x10], _ => exact ⟨x0, x1, x2, x3, x4, x5, x6, x7, x8, x9, x10, rfl⟩
    cases c with
    | false => exact ⟨fun _ => ⟨_, _, .inl sl, atI_nat (j := 0) rfl, _, _, .inl sl, atI_nat (j := 1) rfl, _, _, .inl sl, atI_nat (j := 2) rfl, _, _, .inl sl, atI_nat (j := 3) rfl, _, _, .inl sl, atI_nat (j := 4) rfl, _, _, .inl sl, atI_nat (j := 5) rfl, _, _, .inl sl, atI_nat (j := 6) rfl, _, _, .inl sl, atI_nat (j := 7) rfl, _, _, .inl sl, atI_nat (j := 8) rfl, _, _, .inl sl, atI_nat (j := 9) rfl, _, _, .inl sl, atI_nat (j := 10) rfl, te _⟩, fun e => absurd (row_yes.symm.trans e) (by decide)⟩
    | true => exact ⟨fun e => absurd (row_no.symm.trans e) (by decide), fun _ => ⟨_, _, .inl sl, atI_nat (j := 0) rfl, _, _, .inl sl, atI_nat (j := 1) rfl, _, _, .inl sl, atI_nat (j := 2) rfl, _, _, .inl sl, atI_nat (j := 3) rfl, _, _, .inl sl, atI_nat (j := 4) rfl, _, _, .inl sl, atI_nat (j := 5) rfl, _, _, .inl sl, atI_nat (j := 6) rfl, _, _, .inl sl, atI_nat (j := 7) rfl, _, _, .inl sl, atI_nat (j := 8) rfl, _, _, .inl sl, atI_nat (j := 9) rfl, _, _, .inl sl, atI_nat (j := 10) rfl, te _⟩⟩
def spSown (K : PySem.W.Frag) : Sp := fun vs H Q _ => ∃ (G : Hp) (M : List (Addr × HO)) (c : V) (l : Addr) (us : List V), vs = [c, .ref l] ∧ Sep G M H ∧ SqT K G l us ∧ us.length ≤ 3 ∧
  ∀ (q r : Addr) (G' H' : Hp), Same G G' → G' r = some (.tup us) → G' q = some (.tup [.str "put", c, .ref r]) → Sep G' M H' → Q (.ref q) H'
theorem sown_end {G : Hp} {M : List (Addr × HO)} {H : Hp} {c : V} {us : List V} {Q : VK} {E : XK} (S : Sep G M H) (hl : us.length ≤ 3)
    (q : ∀ (q r : Addr) (G' H' : Hp), Same G G' → G' r = some (.tup us) → G' q = some (.tup [.str "put", c, .ref r]) → Sep G' M H' → Q (.ref q) H') : spS 1 (spB 2 "put") (c :: us) H Q E := by
  refine ⟨[c], us, rfl, rfl, small (by omega), fun p np => ?_⟩
  obtain ⟨G1, s1, S1, h1⟩ := Sep.mk (o := .tup us) S np
  exact ⟨G1, M, rfl, S1, fun r G2 H2 s2 h2 S2 => q r p G2 H2 (s1.trans s2) (s2 _ _ h1) h2 S2⟩
theorem ok_sown (T : Top K mg w) {k : Nat} (G_put_shape : FnR P w K mg base CX0 1 T.a_put_shape (spS 1 (spB 2 "put"))) : FnOk P w K mg base CX0 (k + 2) T.a_sown T.d_sown ["_law_called", "_law_f"] (spSown K) := by
  refine T.F_sown.ok sc_sown (fun vs H Q E h => ?_) (fun cdv A outer s H vs Q E hr h => ?_)
  · obtain ⟨G, M, c, l, us, rfl, _⟩ := h
    rfl
  · obtain ⟨G, M, c, l, us, rfl, S, hl, hn, q⟩ := h
    refine ⟨_, (pss_cons (xs_if (xt_cmp (op_eqK K hr.units) (pe_callB (cr_lenK K) (by rfl) T.m_len (by decide +kernel) (pa_cons (xv 1) pa_nil)) pe_int (nomark _))
      (pss_one (ps_ret (pe_callP G_put_shape (hr.mono (by omega)) (by rfl) T.g_put_shape T.F_put_shape.kp pass0 (pa_cons (xv 0) pa_nil))))
      pss_nil)
      (pss_cons (xs_if (xt_cmp (op_eqK K hr.units) (pe_callB (cr_lenK K) (by rfl) T.m_len (by decide +kernel) (pa_cons (xv 1) pa_nil)) pe_int (nomark _))
      (pss_one (ps_ret (pe_callP G_put_shape (hr.mono (by omega)) (by rfl) T.g_put_shape T.F_put_shape.kp pass0 (pa_cons (xv 0) (pa_cons (pe_ix (ix_k K) (xv 1) pe_int (fun _ _ => rfl)) pa_nil)))))
      pss_nil)
      (pss_cons (xs_if (xt_cmp (op_eqK K hr.units) (pe_callB (cr_lenK K) (by rfl) T.m_len (by decide +kernel) (pa_cons (xv 1) pa_nil)) pe_int (nomark _))
      (pss_one (ps_ret (pe_callP G_put_shape (hr.mono (by omega)) (by rfl) T.g_put_shape T.F_put_shape.kp pass0 (pa_cons (xv 0) (pa_cons (pe_ix (ix_k K) (xv 1) pe_int (fun _ _ => rfl)) (pa_cons (pe_ix (ix_k K) (xv 1) pe_int (fun _ _ => rfl)) pa_nil))))))
      pss_nil)
      (pss_one (ps_ret (pe_callP G_put_shape (hr.mono (by omega)) (by rfl) T.g_put_shape T.F_put_shape.kp pass0 (pa_cons (xv 0) (pa_cons (pe_ix (ix_k K) (xv 1) pe_int (fun _ _ => rfl)) (pa_cons (pe_ix (ix_k K) (xv 1) pe_int (fun _ _ => rfl)) (pa_cons (pe_ix (ix_k K) (xv 1) pe_int (fun _ _ => rfl)) pa_nil)))))))))), ?_⟩
    have sl := S.t hl
    have te := fun (E : XK) => sown_end (E := E) S (show us.length ≤ 3 by omega) q
    refine ⟨_, .inr sl, fun e => ?_, fun e0 => ?_⟩
    · have e : us.length = 0 := by have := of_decide_eq_true e; omega
      obtain rfl : us = [] := List.length_eq_zero_iff.mp e
      exact te _
    refine ⟨_, .inr sl, fun e => ?_, fun e1 => ?_⟩
    · have e : us.length = 1 := by have := of_decide_eq_true e; omega
      obtain ⟨x0, rfl⟩ : ∃ x0, us = [x0] := by
        match us, e with
        | [x0], _ => exact ⟨x0, rfl⟩
      exact ⟨_, _, .inr sl, atI_nat (j := 0) rfl, te _⟩
    refine ⟨_, .inr sl, fun e => ?_, fun e2 => ?_⟩
    · have e : us.length = 2 := by have := of_decide_eq_true e; omega
      obtain ⟨x0, x1, rfl⟩ : ∃ x0 x1, us = [x0, x1] := by
        match us, e with
        | [x0, x1], _ => exact ⟨x0, x1, rfl⟩
      exact ⟨_, _, .inr sl, atI_nat (j := 0) rfl, _, _, .inr sl, atI_nat (j := 1) rfl, te _⟩
    have e : us.length = 3 := by
      have z0 := of_decide_eq_false e0
      have z1 := of_decide_eq_false e1
      have z2 := of_decide_eq_false e2
      omega
    obtain ⟨x0, x1, x2, rfl⟩ : ∃ x0 x1 x2, us = [x0, x1, x2] := by
      match us, e with
      | [x0, x1, x2], _ => exact ⟨x0, x1, x2, rfl⟩
    exact ⟨_, _, .inr sl, atI_nat (j := 0) rfl, _, _, .inr sl, atI_nat (j := 1) rfl, _, _, .inr sl, atI_nat (j := 2) rfl, te _⟩
def spListed (K : PySem.W.Frag) : Sp := fun vs H Q _ => ∃ (G : Hp) (M : List (Addr × HO)) (c1 c2 c3 c4 : V) (l : Addr) (us : List V), vs = [c1, c2, c3, c4, .ref l] ∧ Sep G M H ∧ SqT K G l us ∧ us.length ≤ 3 ∧
  ∀ (q r : Addr) (G' H' : Hp), Same G G' → G' r = some (.tup us) → G' q = some (.tup [.str "each", c1, c2, c3, c4, .ref r]) → Sep G' M H' → Q (.ref q) H'
theorem listed_end {G : Hp} {M : List (Addr × HO)} {H : Hp} {c1 c2 c3 c4 : V} {us : List V} {Q : VK} {E : XK} (S : Sep G M H) (hl : us.length ≤ 3)
    (q : ∀ (q r : Addr) (G' H' : Hp), Same G G' → G' r = some (.tup us) → G' q = some (.tup [.str "each", c1, c2, c3, c4, .ref r]) → Sep G' M H' → Q (.ref q) H') : spS 4 (spB 5 "each") (c1 :: c2 :: c3 :: c4 :: us) H Q E := by
  refine ⟨[c1, c2, c3, c4], us, rfl, rfl, small (by omega), fun p np => ?_⟩
  obtain ⟨G1, s1, S1, h1⟩ := Sep.mk (o := .tup us) S np
  exact ⟨G1, M, rfl, S1, fun r G2 H2 s2 h2 S2 => q r p G2 H2 (s1.trans s2) (s2 _ _ h1) h2 S2⟩
theorem ok_listed (T : Top K mg w) {k : Nat} (G_each_shape : FnR P w K mg base CX0 1 T.a_each_shape (spS 4 (spB 5 "each"))) : FnOk P w K mg base CX0 (k + 2) T.a_listed T.d_listed ["_law_test", "_law_menu", "_law_key", "_law_called", "_law_f"] (spListed K) := by
  refine T.F_listed.ok sc_listed (fun vs H Q E h => ?_) (fun cdv A outer s H vs Q E hr h => ?_)
  · obtain ⟨G, M, c1, c2, c3, c4, l, us, rfl, _⟩ := h
    rfl
  · obtain ⟨G, M, c1, c2, c3, c4, l, us, rfl, S, hl, hn, q⟩ := h
    refine ⟨_, (pss_cons (xs_if (xt_cmp (op_eqK K hr.units) (pe_callB (cr_lenK K) (by rfl) T.m_len (by decide +kernel) (pa_cons (xv 4) pa_nil)) pe_int (nomark _))
      (pss_one (ps_ret (pe_callP G_each_shape (hr.mono (by omega)) (by rfl) T.g_each_shape T.F_each_shape.kp pass0 (pa_cons (xv 0) (pa_cons (xv 1) (pa_cons (xv 2) (pa_cons (xv 3) pa_nil)))))))
      pss_nil)
      (pss_cons (xs_if (xt_cmp (op_eqK K hr.units) (pe_callB (cr_lenK K) (by rfl) T.m_len (by decide +kernel) (pa_cons (xv 4) pa_nil)) pe_int (nomark _))
      (pss_one (ps_ret (pe_callP G_each_shape (hr.mono (by omega)) (by rfl) T.g_each_shape T.F_each_shape.kp pass0 (pa_cons (xv 0) (pa_cons (xv 1) (pa_cons (xv 2) (pa_cons (xv 3) (pa_cons (pe_ix (ix_k K) (xv 4) pe_int (fun _ _ => rfl)) pa_nil))))))))
      pss_nil)
      (pss_cons (xs_if (xt_cmp (op_eqK K hr.units) (pe_callB (cr_lenK K) (by rfl) T.m_len (by decide +kernel) (pa_cons (xv 4) pa_nil)) pe_int (nomark _))
      (pss_one (ps_ret (pe_callP G_each_shape (hr.mono (by omega)) (by rfl) T.g_each_shape T.F_each_shape.kp pass0 (pa_cons (xv 0) (pa_cons (xv 1) (pa_cons (xv 2) (pa_cons (xv 3) (pa_cons (pe_ix (ix_k K) (xv 4) pe_int (fun _ _ => rfl)) (pa_cons (pe_ix (ix_k K) (xv 4) pe_int (fun _ _ => rfl)) pa_nil)))))))))
      pss_nil)
      (pss_one (ps_ret (pe_callP G_each_shape (hr.mono (by omega)) (by rfl) T.g_each_shape T.F_each_shape.kp pass0 (pa_cons (xv 0) (pa_cons (xv 1) (pa_cons (xv 2) (pa_cons (xv 3) (pa_cons (pe_ix (ix_k K) (xv 4) pe_int (fun _ _ => rfl)) (pa_cons (pe_ix (ix_k K) (xv 4) pe_int (fun _ _ => rfl)) (pa_cons (pe_ix (ix_k K) (xv 4) pe_int (fun _ _ => rfl)) pa_nil))))))))))))), ?_⟩
    have sl := S.t hl
    have te := fun (E : XK) => listed_end (E := E) S (show us.length ≤ 3 by omega) q
    refine ⟨_, .inr sl, fun e => ?_, fun e0 => ?_⟩
    · have e : us.length = 0 := by have := of_decide_eq_true e; omega
      obtain rfl : us = [] := List.length_eq_zero_iff.mp e
      exact te _
    refine ⟨_, .inr sl, fun e => ?_, fun e1 => ?_⟩
    · have e : us.length = 1 := by have := of_decide_eq_true e; omega
      obtain ⟨x0, rfl⟩ : ∃ x0, us = [x0] := by
        match us, e with
        | [x0], _ => exact ⟨x0, rfl⟩
      exact ⟨_, _, .inr sl, atI_nat (j := 0) rfl, te _⟩
    refine ⟨_, .inr sl, fun e => ?_, fun e2 => ?_⟩
    · have e : us.length = 2 := by have := of_decide_eq_true e; omega
      obtain ⟨x0, x1, rfl⟩ : ∃ x0 x1, us = [x0, x1] := by
        match us, e with
        | [x0, x1], _ => exact ⟨x0, x1, rfl⟩
      exact ⟨_, _, .inr sl, atI_nat (j := 0) rfl, _, _, .inr sl, atI_nat (j := 1) rfl, te _⟩
    have e : us.length = 3 := by
      have z0 := of_decide_eq_false e0
      have z1 := of_decide_eq_false e1
      have z2 := of_decide_eq_false e2
      omega
    obtain ⟨x0, x1, x2, rfl⟩ : ∃ x0 x1 x2, us = [x0, x1, x2] := by
      match us, e with
      | [x0, x1, x2], _ => exact ⟨x0, x1, x2, rfl⟩
    exact ⟨_, _, .inr sl, atI_nat (j := 0) rfl, _, _, .inr sl, atI_nat (j := 1) rfl, _, _, .inr sl, atI_nat (j := 2) rfl, te _⟩

end
end K32
set_option Elab.async false
set_option linter.all false
set_option maxRecDepth 100000
set_option maxHeartbeats 4000000
namespace K32
open PySem PySem.Spec PyProof.Rows L2 XL
section
variable {P : Program} {w : World} {K : PySem.W.Frag} {mg : Str → Option Value} {base : Heap}
def spBuilt (K : PySem.W.Frag) (n : Nat) : Sp := fun vs H Q _ => ∃ (G : Hp) (M : List (Addr × HO)) (v : V) (s : Sh), vs = [v] ∧ Sep G M H ∧ Dp K G v (toD s) ∧ hgt s ≤ n ∧ SOk s ∧
  ∀ (v' : V) (G' H' : Hp), Same G G' → Dp K G' v' (toD s) → Sep G' M H' → Q v' H'
theorem ok_built (T : Top K mg w) (G_text_shape : FnOk P w K mg base CX0 1 T.a_text_shape T.d_text_shape ["form"] (spB 1 "text")) (G_button_shape : FnOk P w K mg base CX0 1 T.a_button_shape T.d_button_shape ["word"] (spB 1 "button"))
    (G_when_shape : FnOk P w K mg base CX0 1 T.a_when_shape T.d_when_shape ["form", "first", "second"] (spB 3 "when")) (G_sown : FnOk P w K mg base CX0 2 T.a_sown T.d_sown ["_law_called", "_law_f"] (spSown K)) (G_listed : FnOk P w K mg base CX0 2 T.a_listed T.d_listed ["_law_test", "_law_menu", "_law_key", "_law_called", "_law_f"] (spListed K))
    (G_lined : FnOk P w K mg base CX0 2 T.a_lined T.d_lined ["_law_word", "_law_p"] (spLined K)) : ∀ n, FnOk P w K mg base CX0 (n + 3) T.a_built T.d_built ["_law_shape"] (spBuilt K n) := by
  intro n
  induction n with
  | zero =>
    refine T.F_built.ok sc_built (fun vs H Q E h => ?_) (fun cdv A outer s H vs Q E hr h => ?_)
    · obtain ⟨G, M, v, sh, rfl, _⟩ := h
      rfl
    · obtain ⟨G, M, v, sh, rfl, S, hv, hh, _⟩ := h
      rw [hgt_eq] at hh
      omega
  | succ n G_built =>
    refine T.F_built.ok sc_built (fun vs H Q E h => ?_) (fun cdv A outer s H vs Q E hr h => ?_)
    · obtain ⟨G, M, v, sh, rfl, _⟩ := h
      rfl
    · obtain ⟨G, M, v, sh, rfl, S, hv, hh, ok, q⟩ := h
      refine ⟨_, (pss_cons (ps_set (i := 1) sc_built.nd rfl (.inl rfl) (pe_ix (ix_k K) (xv 0) pe_int (fun _ _ => rfl)))
      (pss_cons (xs_if (xt_cmp (op_eqK K hr.units) (xv 1) pe_str (nomark _))
      (pss_one (ps_ret (pe_call G_text_shape (hr.mono (by omega)) (by rfl) T.g_text_shape T.F_text_shape.kp T.b_text_shape .nil pass0 (pa_cons (pe_ix (ix_k K) (xv 0) pe_int (fun _ _ => rfl)) pa_nil))))
      pss_nil)
      (pss_cons (xs_if (xt_cmp (op_eqK K hr.units) (xv 1) pe_str (nomark _))
      (pss_one (ps_ret (pe_call G_button_shape (hr.mono (by omega)) (by rfl) T.g_button_shape T.F_button_shape.kp T.b_button_shape .nil pass0 (pa_cons (pe_ix (ix_k K) (xv 0) pe_int (fun _ _ => rfl)) pa_nil))))
      pss_nil)
      (pss_cons (xs_if (xt_cmp (op_eqK K hr.units) (xv 1) pe_str (nomark _))
      (pss_one (ps_ret (pe_call G_sown (hr.mono (by omega)) (by rfl) T.g_sown T.F_sown.kp T.b_sown .nil pass0 (pa_cons (pe_ix (ix_k K) (xv 0) pe_int (fun _ _ => rfl)) (pa_cons (pe_ix (ix_k K) (xv 0) pe_int (fun _ _ => rfl)) pa_nil)))))
      pss_nil)
      (pss_cons (xs_if (xt_cmp (op_eqK K hr.units) (xv 1) pe_str (nomark _))
      (pss_one (ps_ret (pe_call G_listed (hr.mono (by omega)) (by rfl) T.g_listed T.F_listed.kp T.b_listed .nil pass0 (pa_cons (pe_ix (ix_k K) (xv 0) pe_int (fun _ _ => rfl)) (pa_cons (pe_ix (ix_k K) (xv 0) pe_int (fun _ _ => rfl)) (pa_cons (pe_ix (ix_k K) (xv 0) pe_int (fun _ _ => rfl)) (pa_cons (pe_ix (ix_k K) (xv 0) pe_int (fun _ _ => rfl)) (pa_cons (pe_ix (ix_k K) (xv 0) pe_int (fun _ _ => rfl)) pa_nil))))))))
      pss_nil)
      (pss_cons (xs_if (xt_cmp (op_eqK K hr.units) (xv 1) pe_str (nomark _))
      (pss_one (ps_ret (pe_call G_when_shape (hr.mono (by omega)) (by rfl) T.g_when_shape T.F_when_shape.kp T.b_when_shape .nil pass0 (pa_cons (pe_ix (ix_k K) (xv 0) pe_int (fun _ _ => rfl)) (pa_cons (pe_call G_built (hr.mono (by omega)) (by rfl) T.g_built T.F_built.kp T.b_built .nil pass0 (pa_cons (pe_ix (ix_k K) (xv 0) pe_int (fun _ _ => rfl)) pa_nil)) (pa_cons (pe_call G_built (hr.mono (by omega)) (by rfl) T.g_built T.F_built.kp T.b_built .nil pass0 (pa_cons (pe_ix (ix_k K) (xv 0) pe_int (fun _ _ => rfl)) pa_nil)) pa_nil))))))
      pss_nil)
      (pss_one (ps_ret (pe_call G_lined (hr.mono (by omega)) (by rfl) T.g_lined T.F_lined.kp T.b_lined .nil pass0 (pa_cons (xv 1) (pa_cons (pe_lc (own := [("_law_part", 2)]) (by rfl) sc_built.nd (pi_tupK K (pe_ix (ix_k K) (xv 0) pe_int (fun _ _ => rfl))) (blkOk_by (N := ["_law_shape", "_law_word", "_law_part"]) (sc := defScope s_built) (by decide +kernel)) (fun _ _ _ _ _ => (pg_name (i := 2) sc_built.nd rfl (.inl rfl))) (fun _ _ _ _ _ => pts_nil) (fun _ _ _ _ _ => (pe_call G_built (hr.mono (by omega)) (by rfl) T.g_built T.F_built.kp T.b_built .nil pass0 (pa_cons (xv 2) pa_nil)))) pa_nil))))))))))), ?_⟩
      obtain ⟨a, rest, rfl, ha, hr'⟩ := sh_at hv
      have h0 : atI (V.str (word sh) :: rest) 0 = some (.str (word sh)) := atI_nat (j := 0) rfl
      have lc := ok.loc
      refine ⟨_, _, .inr (S.t ha), h0, fun e => ?_, fun e1 => ⟨fun e => ?_, fun e2 => ⟨fun e => ?_, fun e3 => ⟨fun e => ?_, fun e4 => ⟨fun e => ?_, fun e5 => ?_⟩⟩⟩⟩⟩
      · obtain ⟨f, rfl⟩ := word_text (of_decide_eq_true e)
        obtain ⟨x1, r1, rfl, h1, h2⟩ := dpa_cons hr'
        refine ⟨_, _, .inr (S.t ha), atI_nat (j := 1) rfl, G, M, rfl, S, fun p G' H' s' hp S' => q _ G' H' s' ?_ S'⟩
        rw [toD_eq]
        exact .tup (SqT.of hp) (.cons (.str _) (.cons (dp_same s' h1) .nil))
      · obtain ⟨f, rfl⟩ := word_button (of_decide_eq_true e)
        obtain ⟨x1, r1, rfl, h1, h2⟩ := dpa_cons hr'
        refine ⟨_, _, .inr (S.t ha), atI_nat (j := 1) rfl, G, M, rfl, S, fun p G' H' s' hp S' => q _ G' H' s' ?_ S'⟩
        rw [toD_eq]
        exact .tup (SqT.of hp) (.cons (.str _) (.cons (dp_same s' h1) .nil))
      · obtain ⟨f, g, rfl⟩ := word_put (of_decide_eq_true e)
        obtain ⟨x1, r1, rfl, h1, h2⟩ := dpa_cons hr'
        obtain ⟨x2, r2, rfl, h3, h4⟩ := dpa_cons h2
        obtain ⟨l, us, rfl, hl, hus⟩ := dp_tup h3
        have ul := dpa_len hus
        have l3 : g.length ≤ 3 := lc.2.1
        refine ⟨_, _, .inr (S.t ha), atI_nat (j := 1) rfl, _, _, .inr (S.t ha), atI_nat (j := 2) rfl, G, M, x1, l, us, rfl, S, hl, by omega, fun p r G' H' s' hr2 hp S' => q _ G' H' s' ?_ S'⟩
        rw [toD_eq]
        exact .tup (SqT.of hp) (.cons (.str _) (.cons (dp_same s' h1) (.cons (.tup (SqT.of hr2) (dpa_same s' hus)) .nil)))
      · obtain ⟨a1, a2, a3, a4, a5, rfl⟩ := word_each (of_decide_eq_true e)
        obtain ⟨x1, r1, rfl, h1, h2⟩ := dpa_cons hr'
        obtain ⟨x2, r2, rfl, h3, h4⟩ := dpa_cons h2
        obtain ⟨x3, r3, rfl, h5, h6⟩ := dpa_cons h4
        obtain ⟨x4, r4, rfl, h7, h8⟩ := dpa_cons h6
        obtain ⟨x5, r5, rfl, h9, h10⟩ := dpa_cons h8
        obtain ⟨l, us, rfl, hl, hus⟩ := dp_tup h9
        have ul := dpa_len hus
        have l3 : a5.length ≤ 3 := lc.2.2.2.2.1
        refine ⟨_, _, .inr (S.t ha), atI_nat (j := 1) rfl, _, _, .inr (S.t ha), atI_nat (j := 2) rfl, _, _, .inr (S.t ha), atI_nat (j := 3) rfl, _, _, .inr (S.t ha), atI_nat (j := 4) rfl, _, _, .inr (S.t ha), atI_nat (j := 5) rfl,
          G, M, x1, x2, x3, x4, l, us, rfl, S, hl, by omega, fun p r G' H' s' hr2 hp S' => q _ G' H' s' ?_ S'⟩
        rw [toD_eq]
        exact .tup (SqT.of hp) (.cons (.str _) (.cons (dp_same s' h1) (.cons (dp_same s' h3) (.cons (dp_same s' h5) (.cons (dp_same s' h7) (.cons (.tup (SqT.of hr2) (dpa_same s' hus)) .nil))))))
      · obtain ⟨f, x, y, rfl⟩ := word_when (of_decide_eq_true e)
        obtain ⟨x1, r1, rfl, h1, h2⟩ := dpa_cons hr'
        obtain ⟨x2, r2, rfl, h3, h4⟩ := dpa_cons h2
        obtain ⟨x3, r3, rfl, h5, h6⟩ := dpa_cons h4
        have px : x ∈ parts (.wen f x y) := by simp [parts]
        have py : y ∈ parts (.wen f x y) := by simp [parts]
        have gx := hgt_part px
        have gy := hgt_part py
        refine ⟨_, _, .inr (S.t ha), atI_nat (j := 1) rfl, _, _, .inr (S.t ha), atI_nat (j := 2) rfl, G, M, x2, x, rfl, S, h3, by omega, ok.part px, fun v1 G1 H1 s1 hv1 S1 => ?_⟩
        refine ⟨_, _, .inr (S1.t (same_t s1 ha)), atI_nat (j := 3) rfl, G1, M, x3, y, rfl, S1, dp_same s1 h5, by omega, ok.part py, fun v2 G2 H2 s2 hv2 S2 => ?_⟩
        refine ⟨G2, M, rfl, S2, fun p G' H' s' hp S' => q _ G' H' (s1.trans (s2.trans s')) ?_ S'⟩
        rw [toD_eq]
        exact .tup (SqT.of hp) (.cons (.str _) (.cons (dp_same (s1.trans (s2.trans s')) h1) (.cons (dp_same (s2.trans s') hv1) (.cons (dp_same s' hv2) .nil))))
      · obtain ⟨c, ps, rfl⟩ : ∃ c ps, sh = .line c ps := by
          cases sh with
          | line c ps => exact ⟨c, ps, rfl⟩
          | text f => exact absurd rfl (of_decide_eq_false e1)
          | button f => exact absurd rfl (of_decide_eq_false e2)
          | put f g => exact absurd rfl (of_decide_eq_false e3)
          | each a1 a2 a3 a4 a5 => exact absurd rfl (of_decide_eq_false e4)
          | wen f x y => exact absurd rfl (of_decide_eq_false e5)
        obtain ⟨x1, r1, rfl, h1, h2⟩ := dpa_cons hr'
        obtain ⟨l, us, rfl, hl, hus⟩ := dp_tup h1
        have ul := dpa_len hus
        rw [List.length_map] at ul
        have lp : ps.length ≤ 8 ∨ ps.length = 11 := lc
        refine ⟨_, _, .inr (S.t ha), atI_nat (j := 1) rfl, l, rfl, ⟨_, S.t hl⟩, fun D nD => lc_tup (xs := us) (fun j H2 => ∃ (ws : List V) (G' : Hp), Same G G' ∧ DpAll K G' ws ((ps.take j).map toD) ∧ ws.length = j ∧ Sep G' ((D, .lst ws) :: M) H2) ⟨[], G, Same.refl _, .nil, rfl, S.new nD⟩ (fun j H2 _ p' => ?_) (fun j y H2 hy p' => ?_) (fun H2 p' => ?_)⟩
        · obtain ⟨ws, G', s', _, _, S'⟩ := p'
          exact S'.t (same_t s' hl)
        · obtain ⟨ws, G', s', hws, wl, S'⟩ := p'
          obtain ⟨d, hd, hyd⟩ := dpa_get hus hy
          obtain ⟨p, hp, rfl⟩ := map_get hd
          have hm : p ∈ parts (.line c ps) := List.mem_of_getElem? hp
          have hg := hgt_part hm
          have jl := (List.getElem?_eq_some_iff.mp hp).1
          refine ⟨rfl, G', _, y, p, rfl, S', dp_same s' hyd, by omega, ok.part hm, fun v3 G3 H3 s3 hv3 S3 => ⟨ws, S3.hd, smallL (by omega), ws ++ [v3], G3, s'.trans s3, ?_, by rw [List.length_append, wl]; rfl, S3.set⟩⟩
          rw [take_snoc hp, List.map_append]
          exact dpa_app (dpa_same s3 hws) (dpa_one hv3)
        · obtain ⟨ws, G', s', hws, wl, S'⟩ := p'
          rw [ul, List.take_length] at hws
          have sz' := S'.frzS
          refine ⟨_, M, c, D, ws, rfl, S'.frz, SqL.of upd_same, by omega, fun p r G2 H2 s2 hr2 hp S2 => q _ G2 H2 (s'.trans (sz'.trans s2)) ?_ S2⟩
          rw [toD_eq]
          exact .tup (SqT.of hp) (.cons (.str _) (.cons (.tup (SqT.of hr2) (dpa_same (sz'.trans s2) hws)) .nil))

end
end K32
set_option Elab.async false
set_option linter.all false
set_option maxRecDepth 100000
set_option maxHeartbeats 4000000
namespace K32
open PySem PySem.Spec PyProof.Rows L2 XL
section
variable {P : Program} {w : World} {K : PySem.W.Frag} {mg : Str → Option Value} {base : Heap}
/-! ### drawn forms, rows, leaves -/
theorem cut_to (xs : List V) {r : Int} (h : 0 ≤ r) : cutV xs none (some r) = xs.take r.toNat := by
  obtain ⟨j, rfl⟩ : ∃ j : Nat, r = (j : Int) := ⟨r.toNat, by omega⟩
  unfold cutV
  rw [HT.sIx_nat, HT.sIx_none]
  show List.take (min j xs.length - 0) (List.drop 0 xs) = _
  rw [Nat.sub_zero, List.drop_zero, Int.toNat_natCast]
  by_cases hj : j ≤ xs.length
  · rw [Nat.min_eq_left hj]
  · rw [Nat.min_eq_right (by omega), List.take_length, List.take_of_length_le (by omega)]
theorem dpa_ex {K : PySem.W.Frag} {G : Hp} {F : PyData → Prop} : ∀ {xs : List V}, (∀ x ∈ xs, ∃ d, Dp K G x d ∧ F d) → ∃ ds, DpAll K G xs ds ∧ ds.length = xs.length ∧ ∀ d ∈ ds, F d
  | [], _ => ⟨[], .nil, rfl, fun _ h => nomatch h⟩
  | x :: xs, h => by
    obtain ⟨d, h1, h2⟩ := h x (by simp)
    obtain ⟨ds, h3, h4, h5⟩ := dpa_ex (xs := xs) fun y hy => h y (List.mem_cons_of_mem _ hy)
    refine ⟨d :: ds, .cons h1 h3, congrArg (· + 1) h4, fun e he => ?_⟩
    rcases List.mem_cons.mp he with rfl | he
    · exact h2
    · exact h5 e he
def spLRow (K : PySem.W.Frag) : Sp := fun vs H Q _ => ∃ (G : Hp) (M : List (Addr × HO)) (b : Addr) (o : HO), vs = [.ref b, .int 5] ∧ Sep G ((b, o) :: M) H ∧ Bag G o ∧
  ∀ (v : V) (d : PyData) (o' : HO) (G' H' : Hp), Same G G' → Dp K G' v d → Fit 25 1 d → Bag G' o' → Sep G' ((b, o') :: M) H' → Q v H'
def digs : List V := [.int 0, .int 1, .int 2, .int 3, .int 4, .int 5, .int 6, .int 7, .int 8, .int 9]
theorem digs_in {x : V} (h : x ∈ digs) : ∃ n : Int, x = .int n ∧ 0 ≤ n ∧ n ≤ 9 := by
  simp only [digs, List.mem_cons, List.not_mem_nil, or_false] at h
  rcases h with rfl | rfl | rfl | rfl | rfl | rfl | rfl | rfl | rfl | rfl <;> exact ⟨_, rfl, by decide, by decide⟩
theorem ok_row (T : Top K mg w) {k : Nat} (G_pick : FnOk P w K mg base CX0 k T.a_pick T.d_pick ["_law_bag_here", "_law_many"] spPick) (G_mingled : FnOk P w K mg base CX0 (k + 1) T.a_mingled T.d_mingled ["_law_bag_here", "_law_things"] (spMingled K)) :
    FnOk P w K mg base CX0 (k + 2) T.a_row T.d_row ["_law_bag_here", "_law_most"] (spLRow K) := by
  refine T.F_row.ok sc_row (fun vs H Q E h => ?_) (fun cdv A outer s H vs Q E hr h => ?_)
  · obtain ⟨G, M, b, o, rfl, _⟩ := h
    rfl
  · obtain ⟨G, M, b, o, rfl, S, B, q⟩ := h
    refine ⟨_, (pss_cons (ps_set (i := 2) sc_row.nd rfl (.inl rfl) (pe_call G_mingled (hr.mono (by omega)) (by rfl) T.g_mingled T.F_mingled.kp T.b_mingled .nil pass0 (pa_cons (xv 0) (pa_cons (pe_slice (sl_listK K) (pe_lst (pa_cons pe_int (pa_cons pe_int (pa_cons pe_int (pa_cons pe_int (pa_cons pe_int (pa_cons pe_int (pa_cons pe_int (pa_cons pe_int (pa_cons pe_int (pa_cons pe_int pa_nil))))))))))) po_none (po_some (pe_op op_addY pe_int (pe_call G_pick (hr.mono (by omega)) (by rfl) T.g_pick T.F_pick.kp T.b_pick .nil pass0 (pa_cons (xv 0) (pa_cons pe_int pa_nil)))))) pa_nil))))
      (pss_one (ps_ret (pe_callTy (call_tupleK K) (by rfl) T.m_tuple (by decide +kernel) (pa_cons (pe_slice (sl_listK K) (xv 2) po_none (po_some (pe_call G_pick (hr.mono (by omega)) (by rfl) T.g_pick T.F_pick.kp T.b_pick .nil pass0 (pa_cons (xv 0) (pa_cons (pe_op op_addY (xv 1) pe_int) pa_nil))))) pa_nil))))), ?_⟩
    refine ⟨sz, fun l0 nl0 => ?_⟩
    obtain ⟨G1, s1, S1, h1⟩ := Sep.mk (o := .lst digs) S nl0
    refine ⟨G1, M, b, o, 9, rfl, S1, B.same s1, by decide, by decide, fun r o2 H2 r0 r1 B2 S2 => ?_⟩
    refine ⟨_, rfl, l0, _, rfl, SqL.of (S2.st h1), fun p np => ?_⟩
    rw [cut_to _ (by omega)]
    obtain ⟨G3, s3, S3, h3⟩ := Sep.mk (o := .lst (digs.take (2 + r).toNat)) S2 np
    refine ⟨G3, M, b, o2, p, _, rfl, S3, B2.same s3, SqL.of h3, ?_, fun a ys o4 G4 H4 s4 h4 pm B4 S4 => ?_⟩
    · rw [List.length_take]
      exact Nat.lt_of_le_of_lt (Nat.min_le_right _ _) (by decide)
    · refine ⟨G4, M, b, o4, 6, rfl, S4, B4, by decide, by decide, fun r5 o5 H5 r50 r51 B5 S5 => ?_⟩
      refine ⟨_, rfl, a, _, rfl, SqL.of (S5.st h4), fun p2 np2 => ?_⟩
      rw [cut_to _ r50]
      obtain ⟨G6, s6, S6, h6⟩ := Sep.mk (o := .lst (ys.take r5.toNat)) S5 np2
      refine ⟨p2, _, rfl, .inl ⟨SqL.of (S6.st h6), fun t nt => ?_⟩⟩
      obtain ⟨G7, s7, S7, h7⟩ := Sep.mk (o := .tup (ys.take r5.toNat)) S6 nt
      obtain ⟨ds, d1, d2, d3⟩ := dpa_ex (K := K) (G := G7) (F := Fit 4 0) (xs := ys.take r5.toNat) fun x hx => by
        obtain ⟨n, rfl, n0, n9⟩ := digs_in (List.mem_of_mem_take (pm.mem_iff.mp (List.mem_of_mem_take hx)))
        exact ⟨_, .int n, Fit.digit n0 n9⟩
      have dl : ds.length ≤ 5 := by
        rw [d2, List.length_take]
        omega
      refine q _ (.tuple ds) o5 G7 _ (s1.trans (s3.trans (s4.trans (s6.trans s7)))) (.tup (SqT.of h7) d1) ?_ (B5.same (s6.trans s7)) S7
      exact (Fit.tups d3).mono (by have := Nat.mul_le_mul_right (4 + 1) dl; omega) (Nat.le_refl _)
def spSimple (K : PySem.W.Frag) (n : Nat) : Sp := fun vs H Q _ => ∃ (G : Hp) (M : List (Addr × HO)) (b : Addr) (o : HO) (l : Addr) (zs : List Str) (dp : Int), vs = [.ref b, .ref l, .int dp] ∧ Sep G ((b, o) :: M) H ∧ Bag G o ∧ G l = some (.lst (zs.map V.str)) ∧ 0 < zs.length ∧ zs.length ≤ 100 ∧ (∀ z ∈ zs, Lt 1 8 z) ∧ 1 ≤ n ∧ dp ≤ n ∧
  ∀ (v : V) (d : PyData) (o' : HO) (G' H' : Hp), Same G G' → Dp K G' v d → Fit (16 * 4 ^ n) n d → Bag G' o' → Sep G' ((b, o') :: M) H' → Q v H'
theorem fw (z : Str) (n : Nat) (h : (z.cps.toList.all fun c => decide (c < 1114112)) = true) (l : z.length ≤ n) : Fit n 0 (.str z) := .str (fun c hc => of_decide_eq_true (List.all_eq_true.mp h c hc)) l
theorem ok_simple (T : Top K mg w) (G_pick : FnOk P w K mg base CX0 2 T.a_pick T.d_pick ["_law_bag_here", "_law_many"] spPick) (G_choice : FnOk P w K mg base CX0 3 T.a_choice T.d_choice ["_law_bag_here", "_law_things"] (spChoice K)) :
    ∀ n, FnOk P w K mg base CX0 (n + 4) T.a_simple T.d_simple ["_law_bag_here", "_law_readable", "_law_deep"] (spSimple K n) := by
  intro n
  induction n with
  | zero =>
    refine T.F_simple.ok sc_simple (fun vs H Q E h => ?_) (fun cdv A outer s H vs Q E hr h => ?_)
    · obtain ⟨G, M, b, o, l, zs, dp, rfl, _⟩ := h
      rfl
    · obtain ⟨G, M, b, o, l, zs, dp, rfl, S, B, hl, z0, z1, hz, n1, _⟩ := h
      omega
  | succ n G_simple =>
    refine T.F_simple.ok sc_simple (fun vs H Q E h => ?_) (fun cdv A outer s H vs Q E hr h => ?_)
    · obtain ⟨G, M, b, o, l, zs, dp, rfl, _⟩ := h
      rfl
    · obtain ⟨G, M, b, o, l, zs, dp, rfl, S, B, hl, z0, z1, hz, n1, dn, q⟩ := h
      refine ⟨_, (pss_cons (ps_set (i := 3) sc_simple.nd rfl (.inl rfl) (pe_call G_pick (hr.mono (by omega)) (by rfl) T.g_pick T.F_pick.kp T.b_pick .nil pass0 (pa_cons (xv 0) (pa_cons pe_int pa_nil))))
      (pss_cons (xs_if (PW.pt (xw_or (xt_cmp op_leY (xv 2) pe_int (nomark _)) (pw_or1 (xt_cmp op_ltY (xv 3) pe_int (nomark _)))))
      (pss_one (ps_ret (pe_ix (ix_k K) (pe_lst (pa_cons (pe_tup (pa_cons pe_str (pa_cons (pe_call G_pick (hr.mono (by omega)) (by rfl) T.g_pick T.F_pick.kp T.b_pick .nil pass0 (pa_cons (xv 0) (pa_cons pe_int pa_nil))) pa_nil))) (pa_cons (pe_tup (pa_cons pe_str (pa_cons (pe_call G_choice (hr.mono (by omega)) (by rfl) T.g_choice T.F_choice.kp T.b_choice .nil pass0 (pa_cons (xv 0) (pa_cons (xv 1) pa_nil))) pa_nil))) pa_nil))) (pe_call G_pick (hr.mono (by omega)) (by rfl) T.g_pick T.F_pick.kp T.b_pick .nil pass0 (pa_cons (xv 0) (pa_cons pe_int pa_nil))) (fun _ _ => rfl))))
      pss_nil)
      (pss_cons (xs_if (xt_cmp op_ltY (xv 3) pe_int (nomark _))
      (pss_cons (ps_set (i := 4) sc_simple.nd rfl (.inl rfl) (pe_ix (ix_k K) (pe_lst (pa_cons pe_str (pa_cons pe_str pa_nil))) (pe_op op_subY (xv 3) pe_int) (fun _ _ => rfl)))
      (pss_one (ps_ret (pe_tup (pa_cons (xv 4) (pa_cons (pe_call G_simple (hr.mono (by omega)) (by rfl) T.g_simple T.F_simple.kp T.b_simple .nil pass0 (pa_cons (xv 0) (pa_cons (xv 1) (pa_cons (pe_op op_subY (xv 2) pe_int) pa_nil)))) (pa_cons (pe_call G_simple (hr.mono (by omega)) (by rfl) T.g_simple T.F_simple.kp T.b_simple .nil pass0 (pa_cons (xv 0) (pa_cons (xv 1) (pa_cons (pe_op op_subY (xv 2) pe_int) pa_nil)))) pa_nil)))))))
      pss_nil)
      (pss_cons (ps_set (i := 5) sc_simple.nd rfl (.inl rfl) (pe_call G_simple (hr.mono (by omega)) (by rfl) T.g_simple T.F_simple.kp T.b_simple .nil pass0 (pa_cons (xv 0) (pa_cons (xv 1) (pa_cons (pe_op op_subY (xv 2) pe_int) pa_nil)))))
      (pss_one (ps_ret (pe_tup (pa_cons pe_str (pa_cons (xv 5) (pa_cons (pe_call G_simple (hr.mono (by omega)) (by rfl) T.g_simple T.F_simple.kp T.b_simple .nil pass0 (pa_cons (xv 0) (pa_cons (xv 1) (pa_cons (pe_op op_subY (xv 2) pe_int) pa_nil)))) (pa_cons (pe_call G_simple (hr.mono (by omega)) (by rfl) T.g_simple T.F_simple.kp T.b_simple .nil pass0 (pa_cons (xv 0) (pa_cons (xv 1) (pa_cons (pe_op op_subY (xv 2) pe_int) pa_nil)))) pa_nil))))))))))), ?_⟩
      have pw : 16 * 4 ^ (n + 1) = 64 * 4 ^ n := by rw [Nat.pow_succ]; omega
      have p1 : 1 ≤ 4 ^ n := Nat.one_le_pow _ _ (by decide)
      refine ⟨G, _, b, o, 6, rfl, S, B, by decide, by decide, fun r1 o1 H1 r10 r11 B1 S1 => ?_⟩
      have fis := fw "is" 2 (by decide +kernel) (by decide +kernel)
      have fget := fw "get" 3 (by decide +kernel) (by decide +kernel)
      refine ⟨fun e1 => ⟨fun _ => ?lf1, tt⟩, fun e1 => ⟨fun e2 => ?lf2, fun e2 => ?_⟩⟩
      case lf1 | lf2 =>
        refine ⟨G, _, b, o1, 10, rfl, S1, B1, by decide, by decide, fun r2 o2 H2 r20 r21 B2 S2 => ⟨sz, fun t3 nt3 => ?_⟩⟩
        obtain ⟨G3, s3, S3, h3⟩ := Sep.mk (o := .tup [.str "is", .int r2]) S2 nt3
        refine ⟨G3, _, b, o2, l, _, rfl, S3, B2.same s3, SqL.of (s3 _ _ hl), by rw [List.length_map]; omega, by rw [List.length_map]; omega, fun u4 o4 H4 hu4 B4 S4 => ⟨sz, fun t5 nt5 => ?_⟩⟩
        obtain ⟨z, hzm, rfl⟩ := List.mem_map.mp hu4
        obtain ⟨G5, s5, S5, h5⟩ := Sep.mk (o := .tup [.str "get", .str z]) S4 nt5
        refine ⟨sz, fun l6 nl6 => ?_⟩
        obtain ⟨G6, s6, S6, h6⟩ := Sep.mk (o := .lst [.ref t3, .ref t5]) S5 nl6
        refine ⟨G6, _, b, o4, 2, rfl, S6, (B4.same s5).same s6, by decide, by decide, fun r7 o7 H7 r70 r71 B7 S7 => ?_⟩
        have sx := s3.trans (s5.trans s6)
        rcases (by omega : r7 = 0 ∨ r7 = 1) with rfl | rfl
        · refine ⟨_, _, .inl (SqL.of (S7.st h6)), atI_nat (j := 0) rfl, q _ (.tuple [.str "is", .int r2]) o7 G6 H7 sx (.tup (SqT.of (s6 _ _ (s5 _ _ h3))) (.cons (.str _) (.cons (.int _) .nil))) ?_ B7 S7⟩
          have fd := Fit.digit r20 (by omega : r2 ≤ 9)
          have a1 := fis.wt; have a2 := fd.wt
          refine (Fit.tup (w := 16) (dp := 0) ?_ fun d hd => ?_).mono (by omega) (by omega)
          · simp only [PyData.weightAll]; omega
          · simp only [List.mem_cons, List.not_mem_nil, or_false] at hd
            rcases hd with rfl | rfl
            · exact ⟨_, fis⟩
            · exact ⟨_, fd⟩
        · refine ⟨_, _, .inl (SqL.of (S7.st h6)), atI_nat (j := 1) rfl, q _ (.tuple [.str "get", .str z]) o7 G6 H7 sx (.tup (SqT.of (s6 _ _ h5)) (.cons (.str _) (.cons (.str _) .nil))) ?_ B7 S7⟩
          have fd := Fit.name (hz z hzm)
          have a1 := fget.wt; have a2 := fd.wt
          refine (Fit.tup (w := 16) (dp := 0) ?_ fun d hd => ?_).mono (by omega) (by omega)
          · simp only [PyData.weightAll]; omega
          · simp only [List.mem_cons, List.not_mem_nil, or_false] at hd
            rcases hd with rfl | rfl
            · exact ⟨_, fget⟩
            · exact ⟨_, fd⟩
      have dp2 : 2 ≤ dp := by have := of_decide_eq_false e1; omega
      have r2 : 2 ≤ r1 := by have := of_decide_eq_false e2; omega
      have nn : 1 ≤ n := by omega
      refine ⟨fun e3 => ⟨sz, fun l2 nl2 => ?_⟩, fun e3 => ?_⟩
      · have r4 : r1 < 4 := of_decide_eq_true e3
        obtain ⟨G2, s2, S2, h2⟩ := Sep.mk (o := .lst [.str "sum", .str "same"]) S1 nl2
        obtain ⟨wd, hwd, fwd⟩ : ∃ wd : Str, atI [V.str "sum", V.str "same"] (r1 - 2) = some (.str wd) ∧ Fit 4 0 (.str wd) := by
          rcases (by omega : r1 = 2 ∨ r1 = 3) with rfl | rfl
          · exact ⟨_, atI_nat (j := 0) rfl, fw "sum" 4 (by decide +kernel) (by decide +kernel)⟩
          · exact ⟨_, atI_nat (j := 1) rfl, fw "same" 4 (by decide +kernel) (by decide +kernel)⟩
        refine ⟨_, _, .inl (SqL.of (S2.st h2)), hwd, ?_⟩
        refine ⟨G2, _, b, o1, l, zs, dp - 1, rfl, S2, B1.same s2, s2 _ _ hl, z0, z1, hz, nn, by omega, fun v3 d3 o3 G3 H3 s3 hv3 f3 B3 S3 => ?_⟩
        refine ⟨G3, _, b, o3, l, zs, dp - 1, rfl, S3, B3, s3 _ _ (s2 _ _ hl), z0, z1, hz, nn, by omega, fun v4 d4 o4 G4 H4 s4 hv4 f4 B4 S4 => ⟨sz, fun t5 nt5 => ?_⟩⟩
        obtain ⟨G5, s5, S5, h5⟩ := Sep.mk (o := .tup [.str wd, v3, v4]) S4 nt5
        refine q _ (.tuple [.str wd, d3, d4]) o4 G5 _ (s2.trans (s3.trans (s4.trans s5))) (.tup (SqT.of h5) (.cons (.str _) (.cons (dp_same (s4.trans s5) hv3) (.cons (dp_same s5 hv4) .nil)))) ?_ (B4.same s5) S5
        have a1 := fwd.wt; have a2 := f3.wt; have a3 := f4.wt
        refine (Fit.tup (w := 64 * 4 ^ n) (dp := n) ?_ fun d hd => ?_).mono (by omega) (by omega)
        · simp only [PyData.weightAll]; omega
        · simp only [List.mem_cons, List.not_mem_nil, or_false] at hd
          rcases hd with rfl | rfl | rfl
          · exact ⟨_, fwd.mono (Nat.le_refl _) (Nat.zero_le _)⟩
          · exact ⟨_, f3⟩
          · exact ⟨_, f4⟩
      · refine ⟨G, _, b, o1, l, zs, dp - 1, rfl, S1, B1, hl, z0, z1, hz, nn, by omega, fun v2 d2 o2 G2 H2 s2 hv2 f2 B2 S2 => ?_⟩
        refine ⟨G2, _, b, o2, l, zs, dp - 1, rfl, S2, B2, s2 _ _ hl, z0, z1, hz, nn, by omega, fun v3 d3 o3 G3 H3 s3 hv3 f3 B3 S3 => ?_⟩
        refine ⟨G3, _, b, o3, l, zs, dp - 1, rfl, S3, B3, s3 _ _ (s2 _ _ hl), z0, z1, hz, nn, by omega, fun v4 d4 o4 G4 H4 s4 hv4 f4 B4 S4 => ⟨sz, fun t5 nt5 => ?_⟩⟩
        obtain ⟨G5, s5, S5, h5⟩ := Sep.mk (o := .tup [.str "pick", v2, v3, v4]) S4 nt5
        refine q _ (.tuple [.str "pick", d2, d3, d4]) o4 G5 _ (s2.trans (s3.trans (s4.trans s5))) (.tup (SqT.of h5) (.cons (.str _) (.cons (dp_same (s3.trans (s4.trans s5)) hv2) (.cons (dp_same (s4.trans s5) hv3) (.cons (dp_same s5 hv4) .nil))))) ?_ (B4.same s5) S5
        have fwd := fw "pick" 4 (by decide +kernel) (by decide +kernel)
        have a1 := fwd.wt; have a2 := f3.wt; have a3 := f4.wt; have a4 := f2.wt
        refine (Fit.tup (w := 64 * 4 ^ n) (dp := n) ?_ fun d hd => ?_).mono (by omega) (by omega)
        · simp only [PyData.weightAll]; omega
        · simp only [List.mem_cons, List.not_mem_nil, or_false] at hd
          rcases hd with rfl | rfl | rfl | rfl
          · exact ⟨_, fwd.mono (Nat.le_refl _) (Nat.zero_le _)⟩
          · exact ⟨_, f2⟩
          · exact ⟨_, f3⟩
          · exact ⟨_, f4⟩

end
end K32
set_option Elab.async false
set_option linter.all false
set_option maxRecDepth 100000
set_option maxHeartbeats 4000000
namespace K32
open PySem PySem.Spec PyProof.Rows L2 XL
section
variable {P : Program} {w : World} {K : PySem.W.Frag} {mg : Str → Option Value} {base : Heap}
def spLeaf (K : PySem.W.Frag) : Sp := fun vs H Q _ => ∃ (G : Hp) (M : List (Addr × HO)) (b : Addr) (o : HO) (lu lr : Addr) (us rs : List Str), vs = [.ref b, .ref lu, .ref lr] ∧ Sep G ((b, o) :: M) H ∧ Bag G o ∧ G lu = some (.lst (us.map V.str)) ∧ G lr = some (.lst (rs.map V.str)) ∧ 0 < us.length ∧ us.length ≤ 50 ∧ 0 < rs.length ∧ rs.length ≤ 50 ∧ (∀ z ∈ us, Lt 1 8 z) ∧ (∀ z ∈ rs, Lt 1 8 z) ∧
  ∀ (v : V) (s : Sh) (o' : HO) (G' H' : Hp), Same G G' → Dp K G' v (toD s) → SOk s → parts s = [] → Bag G' o' → Sep G' ((b, o') :: M) H' → Q v H'
theorem lt_item : Lt 1 8 "item" := ⟨by decide +kernel, by decide +kernel, by decide +kernel⟩
theorem lt_at : Lt 1 8 "at" := ⟨by decide +kernel, by decide +kernel, by decide +kernel⟩
theorem sok_leaf {s : Sh} (h : Loc s) (p : parts s = []) : SOk s := .mk h fun x hx => by rw [p] at hx; cases hx
theorem ok_leaf (T : Top K mg w) (G_pick : FnOk P w K mg base CX0 2 T.a_pick T.d_pick ["_law_bag_here", "_law_many"] spPick) (G_choice : FnOk P w K mg base CX0 3 T.a_choice T.d_choice ["_law_bag_here", "_law_things"] (spChoice K))
    (G_row : FnOk P w K mg base CX0 4 T.a_row T.d_row ["_law_bag_here", "_law_most"] (spLRow K)) (G2_simple : FnOk P w K mg base CX0 6 T.a_simple T.d_simple ["_law_bag_here", "_law_readable", "_law_deep"] (spSimple K 2)) (G3_simple : FnOk P w K mg base CX0 7 T.a_simple T.d_simple ["_law_bag_here", "_law_readable", "_law_deep"] (spSimple K 3)) :
    FnOk P w K mg base CX0 8 T.a_leaf T.d_leaf ["_law_bag_here", "_law_used", "_law_readable"] (spLeaf K) := by
  refine T.F_leaf.ok sc_leaf (fun vs H Q E h => ?_) (fun cdv A outer s H vs Q E hr h => ?_)
  · obtain ⟨G, M, b, o, lu, lr, us, rs, rfl, _⟩ := h
    rfl
  · obtain ⟨G, M, b, o, lu, lr, us, rs, rfl, S, B, hu, hr', u0, u1, r0, r1, nu, nr, q⟩ := h
    have G_simple : FnOk P w K mg base CX0 7 T.a_simple T.d_simple ["_law_bag_here", "_law_readable", "_law_deep"] (fun vs H Q E => spSimple K 2 vs H Q E ∨ spSimple K 3 vs H Q E) := fn_or (G2_simple.mono (by decide)) G3_simple
    refine ⟨_, (pss_cons (ps_set (i := 3) sc_leaf.nd rfl (.inl rfl) (pe_call G_pick (hr.mono (by omega)) (by rfl) T.g_pick T.F_pick.kp T.b_pick .nil pass0 (pa_cons (xv 0) (pa_cons pe_int pa_nil))))
      (pss_cons (xs_if (xt_cmp op_ltY (xv 3) pe_int (nomark _))
      (pss_one (ps_ret (pe_tup (pa_cons pe_str (pa_cons (pe_call G_simple (hr.mono (by omega)) (by rfl) T.g_simple T.F_simple.kp T.b_simple .nil pass0 (pa_cons (xv 0) (pa_cons (xv 2) (pa_cons pe_int pa_nil)))) pa_nil)))))
      pss_nil)
      (pss_cons (xs_if (xt_cmp (op_eqK K hr.units) (xv 3) pe_int (nomark _))
      (pss_one (ps_ret (pe_tup (pa_cons pe_str (pa_cons (pe_call G_choice (hr.mono (by omega)) (by rfl) T.g_choice T.F_choice.kp T.b_choice .nil pass0 (pa_cons (xv 0) (pa_cons (xv 1) pa_nil))) pa_nil)))))
      pss_nil)
      (xss_cut (ps_set (i := 4) sc_leaf.nd rfl (.inr rfl) (xe_if (xt_cmp (op_eqK K hr.units) (xv 3) pe_int (nomark _)) (pe_op op_addY (xv 2) (pe_lst (pa_cons pe_str (pa_cons pe_str pa_nil)))) (xv 2)))
      (pss_cons (ps_set (i := 5) sc_leaf.nd rfl (.inl rfl) (pe_callTy (call_tupleK K) (by rfl) T.m_tuple (by decide +kernel) (pa_cons (pe_lc (own := [("_law_step", 7)]) (by rfl) sc_leaf.nd (pi_range1 (by rfl) T.m_range (pa_cons (pe_call G_pick (hr.mono (by omega)) (by rfl) T.g_pick T.F_pick.kp T.b_pick .nil pass0 (pa_cons (xv 0) (pa_cons pe_int pa_nil))) pa_nil)) (blkOk_by (N := ["_law_bag_here", "_law_used", "_law_readable", "_law_way", "_law_inner", "_law_forms", "_law_menu", "_law_step"]) (sc := defScope s_leaf) (by decide +kernel)) (fun _ _ _ _ _ => (pg_name (i := 7) sc_leaf.nd rfl (.inl rfl))) (fun _ _ _ _ _ => pts_nil) (fun _ _ _ _ _ => (pe_call G_simple (hr.mono (by omega)) (by rfl) T.g_simple T.F_simple.kp T.b_simple .nil pass0 (pa_cons (xv 0) (pa_cons (xv 4) (pa_cons pe_int pa_nil)))))) pa_nil)))
      (pss_cons (xs_if (xt_cmp (op_eqK K hr.units) (xv 3) pe_int (nomark _))
      (pss_one (ps_ret (pe_tup (pa_cons pe_str (pa_cons (pe_call G_choice (hr.mono (by omega)) (by rfl) T.g_choice T.F_choice.kp T.b_choice .nil pass0 (pa_cons (xv 0) (pa_cons (xv 1) pa_nil))) (pa_cons (xv 5) pa_nil))))))
      pss_nil)
      (pss_cons (ps_set (i := 6) sc_leaf.nd rfl (.inl rfl) (pe_callTy (call_tupleK K) (by rfl) T.m_tuple (by decide +kernel) (pa_cons (pe_lc (own := [("_law_step", 7)]) (by rfl) sc_leaf.nd (pi_range1 (by rfl) T.m_range (pa_cons (pe_op op_addY pe_int (pe_call G_pick (hr.mono (by omega)) (by rfl) T.g_pick T.F_pick.kp T.b_pick .nil pass0 (pa_cons (xv 0) (pa_cons pe_int pa_nil)))) pa_nil)) (blkOk_by (N := ["_law_bag_here", "_law_used", "_law_readable", "_law_way", "_law_inner", "_law_forms", "_law_menu", "_law_step"]) (sc := defScope s_leaf) (by decide +kernel)) (fun _ _ _ _ _ => (pg_name (i := 7) sc_leaf.nd rfl (.inl rfl))) (fun _ _ _ _ _ => pts_nil) (fun _ _ _ _ _ => (pe_call G_row (hr.mono (by omega)) (by rfl) T.g_row T.F_row.kp T.b_row .nil pass0 (pa_cons (xv 0) (pa_cons pe_int pa_nil))))) pa_nil)))
      (pss_one (ps_ret (pe_tup (pa_cons pe_str (pa_cons (pe_call G_simple (hr.mono (by omega)) (by rfl) T.g_simple T.F_simple.kp T.b_simple .nil pass0 (pa_cons (xv 0) (pa_cons (xv 2) (pa_cons pe_int pa_nil)))) (pa_cons (xv 6) (pa_cons (pe_call G_simple (hr.mono (by omega)) (by rfl) T.g_simple T.F_simple.kp T.b_simple .nil pass0 (pa_cons (xv 0) (pa_cons (pe_lst (pa_cons pe_str (pa_cons pe_str pa_nil))) (pa_cons pe_int pa_nil)))) (pa_cons (pe_call G_choice (hr.mono (by omega)) (by rfl) T.g_choice T.F_choice.kp T.b_choice .nil pass0 (pa_cons (xv 0) (pa_cons (xv 1) pa_nil))) (pa_cons (xv 5) pa_nil)))))))))))))))), ?_⟩
    refine ⟨G, _, b, o, 5, rfl, S, B, by decide, by decide, fun w1 o1 H1 w10 w11 B1 S1 => ⟨fun e1 => ?_, fun e1 => ⟨fun e2 => ?_, fun e2 => ?_⟩⟩⟩
    · refine .inr ⟨G, _, b, o1, lr, rs, 3, rfl, S1, B1, hr', r0, by omega, nr, by decide, by decide, fun v2 d2 o2 G2 H2 s2 hv2 f2 B2 S2 => ⟨sz, fun t3 nt3 => ?_⟩⟩
      obtain ⟨G3, s3, S3, h3⟩ := Sep.mk (o := .tup [.str "text", v2]) S2 nt3
      refine q _ (.text d2) o2 G3 _ (s2.trans s3) ?_ (sok_leaf f2 rfl) rfl (B2.same s3) S3
      rw [toD_eq]
      exact .tup (SqT.of h3) (.cons (.str _) (.cons (dp_same s3 hv2) .nil))
    · refine ⟨G, _, b, o1, lu, _, rfl, S1, B1, SqL.of hu, by rw [List.length_map]; omega, by rw [List.length_map]; omega, fun u2 o2 H2 hu2 B2 S2 => ⟨sz, fun t3 nt3 => ?_⟩⟩
      obtain ⟨z, hz, rfl⟩ := List.mem_map.mp hu2
      obtain ⟨G3, s3, S3, h3⟩ := Sep.mk (o := .tup [.str "button", .str z]) S2 nt3
      refine q _ (.button (.str z)) o2 G3 _ s3 ?_ (sok_leaf (Fit.name (nu z hz)) rfl) rfl (B2.same s3) S3
      rw [toD_eq]
      exact .tup (SqT.of h3) (.cons (.str _) (.cons (.str _) .nil))
    · have w2 : w1 = 3 ∨ w1 = 4 := by have := of_decide_eq_false e1; have := of_decide_eq_false e2; omega
      refine ⟨fun σ H' => ∃ (li : Addr) (is : List Str) (G' : Hp), σ = [some (.ref b), some (.ref lu), some (.ref lr), some (.int w1), some (.ref li), none, none, none] ∧ Same G G' ∧ G' li = some (.lst (is.map V.str)) ∧ 0 < is.length ∧ is.length ≤ 52 ∧ (∀ z ∈ is, Lt 1 8 z) ∧ Sep G' ((b, o1) :: M) H', ?_, fun σ H2 h => ?_⟩
      · refine ⟨fun e3 => ⟨sz, fun l2 nl2 => ?_⟩, fun e3 => ⟨lr, rs, G, rfl, Same.refl _, hr', r0, by omega, nr, S1⟩⟩
        obtain ⟨G2, s2, S2, h2⟩ := Sep.mk (o := .lst [.str "item", .str "at"]) S1 nl2
        refine ⟨lr, l2, _, _, rfl, rfl, S2.st (s2 _ _ hr'), S2.st h2, small (by rw [List.length_map]; show _ + 2 ≤ _; omega), fun l3 nl3 => ?_⟩
        obtain ⟨G3, s3, S3, h3⟩ := Sep.mk (o := .lst (rs.map V.str ++ [.str "item", .str "at"])) S2 nl3
        refine ⟨l3, rs ++ [("item" : Str), ("at" : Str)], G3, rfl, s2.trans s3, by rw [h3, List.map_append]; rfl, by rw [List.length_append]; omega, by rw [List.length_append]; show _ + 2 ≤ _; omega, fun z hz => ?_, S3⟩
        simp only [List.mem_append, List.mem_cons, List.not_mem_nil, or_false] at hz
        rcases hz with hz | rfl | rfl
        · exact nr z hz
        · exact lt_item
        · exact lt_at
      obtain ⟨li, is, G2, rfl, s2, hi, i0, i1, ni, S2⟩ := h
      refine ⟨G2, _, b, o1, 4, rfl, S2, B1.same s2, by decide, by decide, fun n3 o3 H3 n30 n31 B3 S3 => ⟨_, rfl, by omega, by omega, fun D nD => lc_range (lo := 0) (n := n3.toNat) (fun i H' => ∃ (ws : List V) (ds : List PyData) (o' : HO) (G' : Hp), Same G2 G' ∧ DpAll K G' ws ds ∧ ws.length = i ∧ (∀ d ∈ ds, Fit 256 2 d) ∧ Bag G' o' ∧ Sep G' ((D, .lst ws) :: (b, o') :: M) H') ⟨[], [], o3, G2, Same.refl _, .nil, rfl, (fun _ h => nomatch h), B3, S3.new nD⟩ (fun i H' hi' h => ?_) (fun H4 h => ?_)⟩⟩
      · obtain ⟨ws, ds, o4, G4, s4, hws, wl, fd, B4, S4⟩ := h
        refine ⟨rfl, .inl ⟨G4, _, b, o4, li, is, 2, rfl, S4.sw, B4, s4 _ _ hi, i0, by omega, ni, by decide, by decide, fun v5 d5 o5 G5 H5 s5 hv5 f5 B5 S5 => ⟨ws, S5.sw.hd, smallL (by omega), ws ++ [v5], ds ++ [d5], o5, G5, s4.trans s5, dpa_app (dpa_same s5 hws) (dpa_one hv5), by rw [List.length_append, wl]; rfl, fun d hd => ?_, B5, S5.sw.set⟩⟩⟩
        rcases List.mem_append.mp hd with z | z
        · exact fd d z
        · rw [List.mem_singleton.mp z]
          exact f5
      · obtain ⟨ws, fs, o4, G4, s4, hws, wl, fd, B4, S4⟩ := h
        have fl : fs.length ≤ 3 := by rw [← dpa_len hws, wl]; omega
        refine ⟨D, ws, rfl, .inl ⟨SqL.of S4.hd, fun t5 nt5 => ?_⟩⟩
        obtain ⟨G5, s5, S5, h5⟩ := Sep.mk (o := .tup ws) S4.drop nt5
        have hf : Dp K G5 (.ref t5) (.tuple fs) := .tup (SqT.of h5) (dpa_same s5 hws)
        have s25 := s2.trans (s4.trans s5)
        have B5 := B4.same s5
        refine ⟨fun e3 => ?_, fun e3 => ?_⟩
        · refine ⟨G5, _, b, o4, lu, _, rfl, S5, B5, SqL.of (s25 _ _ hu), by rw [List.length_map]; omega, by rw [List.length_map]; omega, fun u6 o6 H6 hu6 B6 S6 => ⟨sz, fun t7 nt7 => ?_⟩⟩
          obtain ⟨z, hz, rfl⟩ := List.mem_map.mp hu6
          obtain ⟨G7, s7, S7, h7⟩ := Sep.mk (o := .tup [.str "put", .str z, .ref t5]) S6 nt7
          refine q _ (.put (.str z) fs) o6 G7 _ (s25.trans s7) ?_ (sok_leaf ⟨Fit.name (nu z hz), fl, fd⟩ rfl) rfl (B6.same s7) S7
          rw [toD_eq]
          exact .tup (SqT.of h7) (.cons (.str _) (.cons (.str _) (.cons (dp_same s7 hf) .nil)))
        · refine ⟨G5, _, b, o4, 4, rfl, S5, B5, by decide, by decide, fun n6 o6 H6 n60 n61 B6 S6 => ⟨_, rfl, by omega, by omega, fun D2 nD2 => lc_range (lo := 0) (n := (1 + n6).toNat) (fun i H' => ∃ (ws : List V) (ds : List PyData) (o' : HO) (G' : Hp), Same G5 G' ∧ DpAll K G' ws ds ∧ ws.length = i ∧ (∀ d ∈ ds, Fit 25 1 d) ∧ Bag G' o' ∧ Sep G' ((D2, .lst ws) :: (b, o') :: M) H') ⟨[], [], o6, G5, Same.refl _, .nil, rfl, (fun _ h => nomatch h), B6, S6.new nD2⟩ (fun i H' hi' h => ?_) (fun H7 h => ?_)⟩⟩
          · obtain ⟨ws, ds, o7, G7, s7, hws, wl, fd, B7, S7⟩ := h
            refine ⟨rfl, G7, _, b, o7, rfl, S7.sw, B7, fun v8 d8 o8 G8 H8 s8 hv8 f8 B8 S8 => ⟨ws, S8.sw.hd, smallL (by omega), ws ++ [v8], ds ++ [d8], o8, G8, s7.trans s8, dpa_app (dpa_same s8 hws) (dpa_one hv8), by rw [List.length_append, wl]; rfl, fun d hd => ?_, B8, S8.sw.set⟩⟩
            rcases List.mem_append.mp hd with z | z
            · exact fd d z
            · rw [List.mem_singleton.mp z]
              exact f8
          · obtain ⟨ms, md, o7, G7, s7, hms, ml, fm, B7, S7⟩ := h
            have mdl : md.length ≤ 4 := by rw [← dpa_len hms, ml]; omega
            refine ⟨D2, ms, rfl, .inl ⟨SqL.of S7.hd, fun t8 nt8 => ?_⟩⟩
            obtain ⟨G8, s8, S8, h8⟩ := Sep.mk (o := .tup ms) S7.drop nt8
            have hm : Dp K G8 (.ref t8) (.tuple md) := .tup (SqT.of h8) (dpa_same s8 hms)
            have fmm : Fit 104 2 (.tuple md) := (Fit.tups fm).mono (by have := Nat.mul_le_mul_right (25 + 1) mdl; omega) (Nat.le_refl _)
            have s58 := s7.trans s8
            have s28 := s25.trans s58
            refine .inl ⟨G8, _, b, o7, lr, rs, 2, rfl, S8, B7.same s8, s28 _ _ hr', r0, by omega, nr, by decide, by decide, fun v9 d9 o9 G9 H9 s9 hv9 f9 B9 S9 => ⟨sz, fun l10 nl10 => ?_⟩⟩
            obtain ⟨G10, s10, S10, h10⟩ := Sep.mk (o := .lst [.str "item", .str "at"]) S9 nl10
            refine .inl ⟨G10, _, b, o9, l10, [("item" : Str), ("at" : Str)], 2, rfl, S10, B9.same s10, h10, by decide, by decide, fun z hz => ?_, by decide, by decide, fun v11 d11 o11 G11 H11 s11 hv11 f11 B11 S11 => ?_⟩
            · simp only [List.mem_cons, List.not_mem_nil, or_false] at hz
              rcases hz with rfl | rfl
              · exact lt_item
              · exact lt_at
            have s811 := s9.trans (s10.trans s11)
            have s211 := s28.trans s811
            refine ⟨G11, _, b, o11, lu, _, rfl, S11, B11, SqL.of (s211 _ _ hu), by rw [List.length_map]; omega, by rw [List.length_map]; omega, fun u12 o12 H12 hu12 B12 S12 => ⟨sz, fun t13 nt13 => ?_⟩⟩
            obtain ⟨z, hz, rfl⟩ := List.mem_map.mp hu12
            obtain ⟨G13, s13, S13, h13⟩ := Sep.mk (o := .tup [.str "each", v9, .ref t8, v11, .str z, .ref t5]) S12 nt13
            refine q _ (.each d9 (.tuple md) d11 (.str z) fs) o12 G13 _ (s211.trans s13) ?_ (sok_leaf ⟨f9, fmm, f11, Fit.name (nu z hz), fl, fd⟩ rfl) rfl (B12.same s13) S13
            rw [toD_eq]
            exact .tup (SqT.of h13) (.cons (.str _) (.cons (dp_same (s10.trans (s11.trans s13)) hv9) (.cons (dp_same (s811.trans s13) hm) (.cons (dp_same s13 hv11) (.cons (.str _) (.cons (dp_same (s58.trans (s811.trans s13)) hf) .nil))))))

end
end K32
set_option Elab.async false
set_option linter.all false
set_option maxRecDepth 100000
set_option maxHeartbeats 4000000
namespace K32
open PySem PySem.Spec PyProof.Rows L2 XL
section
variable {P : Program} {w : World} {K : PySem.W.Frag} {mg : Str → Option Value} {base : Heap}
structure Nms (G : Hp) (lu lr : Addr) (us rs : List Str) : Prop where
  hu : G lu = some (.lst (us.map V.str))
  hr : G lr = some (.lst (rs.map V.str))
  u0 : 0 < us.length
  u1 : us.length ≤ 50
  r0 : 0 < rs.length
  r1 : rs.length ≤ 50
  nu : ∀ z ∈ us, Lt 1 8 z
  nr : ∀ z ∈ rs, Lt 1 8 z
theorem Nms.same {G G' : Hp} {lu lr : Addr} {us rs : List Str} (e : Same G G') (h : Nms G lu lr us rs) : Nms G' lu lr us rs := ⟨e _ _ h.hu, e _ _ h.hr, h.u0, h.u1, h.r0, h.r1, h.nu, h.nr⟩
def spGrown (K : PySem.W.Frag) (n : Nat) : Sp := fun vs H Q _ => ∃ (G : Hp) (M : List (Addr × HO)) (b : Addr) (o : HO) (lu lr lf : Addr) (us rs : List Str) (lv m : Int), vs = [.ref b, .ref lu, .ref lr, .int lv, .ref lf] ∧ Sep G ((b, o) :: (lf, .lst [.int m]) :: M) H ∧ Bag G o ∧ Nms G lu lr us rs ∧ 0 ≤ m ∧ m ≤ 15 ∧ lv = 6 - (n : Int) ∧ 1 ≤ n ∧ n ≤ 5 ∧
  ∀ (v : V) (s : Sh) (m' : Int) (o' : HO) (G' H' : Hp), Same G G' → Dp K G' v (toD s) → SOk s → hgt s ≤ n → 0 ≤ m' → (cnt s : Int) + m' = m + 1 → Bag G' o' → Sep G' ((b, o') :: (lf, .lst [.int m']) :: M) H' → Q v H'
theorem p_132 {α : Type} {a b c : α} {l : List α} : (a :: b :: c :: l).Perm (a :: c :: b :: l) := List.Perm.cons _ (List.Perm.swap _ _ _)
theorem ok_grown (T : Top K mg w) (G_pick : FnOk P w K mg base CX0 2 T.a_pick T.d_pick ["_law_bag_here", "_law_many"] spPick) (G_simple : FnOk P w K mg base CX0 7 T.a_simple T.d_simple ["_law_bag_here", "_law_readable", "_law_deep"] (spSimple K 3)) (G_leaf : FnOk P w K mg base CX0 8 T.a_leaf T.d_leaf ["_law_bag_here", "_law_used", "_law_readable"] (spLeaf K)) :
    ∀ n, FnOk P w K mg base CX0 (n + 9) T.a_grown T.d_grown ["_law_bag_here", "_law_used", "_law_readable", "_law_level", "_law_left"] (spGrown K n) := by
  intro n
  induction n with
  | zero =>
    refine T.F_grown.ok sc_grown (fun vs H Q E h => ?_) (fun cdv A outer s H vs Q E hr h => ?_)
    · obtain ⟨G, M, b, o, lu, lr, lf, us, rs, lv, m, rfl, _⟩ := h
      rfl
    · obtain ⟨G, M, b, o, lu, lr, lf, us, rs, lv, m, rfl, S, B, nm, m0, m1, hlv, n1, n5, q⟩ := h
      omega
  | succ n G_grown =>
    refine T.F_grown.ok sc_grown (fun vs H Q E h => ?_) (fun cdv A outer s H vs Q E hr h => ?_)
    · obtain ⟨G, M, b, o, lu, lr, lf, us, rs, lv, m, rfl, _⟩ := h
      rfl
    · obtain ⟨G, M, b, o, lu, lr, lf, us, rs, lv, m, rfl, S, B, nm, m0, m1, hlv, n1, n5, q⟩ := h
      refine ⟨_, (pss_cons (ps_set (i := 5) sc_grown.nd rfl (.inl rfl) (pe_call G_pick (hr.mono (by omega)) (by rfl) T.g_pick T.F_pick.kp T.b_pick .nil pass0 (pa_cons (xv 0) (pa_cons pe_int pa_nil))))
      (xss_cut (xs_if (PW.pt (xw_and (xt_cmp op_ltY (xv 3) pe_int (nomark _)) (pw_and1 (xt_cmp op_ltY (xv 5) pe_int (nomark _)))))
      (pss_cons (ps_set (i := 6) sc_grown.nd rfl (.inl rfl) (pe_call G_pick (hr.mono (by omega)) (by rfl) T.g_pick T.F_pick.kp T.b_pick .nil pass0 (pa_cons (xv 0) (pa_cons (pe_op op_addY pe_int (pe_callB (call_min2 rfl) (by rfl) T.m_min (by decide +kernel) (pa_cons pe_int (pa_cons (pe_ix (ix_k K) (xv 4) pe_int (fun _ _ => rfl)) pa_nil)))) pa_nil))))
      (xss_cut (xs_if (PW.pt (xw_and (xt_cmp op_geY (pe_ix (ix_k K) (xv 4) pe_int (fun _ _ => rfl)) pe_int (nomark _)) (pw_and1 (xt_cmp (op_eqK K hr.units) (pe_call G_pick (hr.mono (by omega)) (by rfl) T.g_pick T.F_pick.kp T.b_pick .nil pass0 (pa_cons (xv 0) (pa_cons pe_int pa_nil))) pe_int (nomark _)))))
      (pss_one (ps_set (i := 6) sc_grown.nd rfl (.inl rfl) pe_int))
      pss_nil)
      (pss_cons (ps_asg (pe_op op_subY (pe_ix (ix_k K) (xv 4) pe_int (fun _ _ => rfl)) (xv 6)) (pg_sub (xv 4) pe_int set_list))
      (pss_cons (ps_set (i := 7) sc_grown.nd rfl (.inl rfl) (pe_lst pa_nil))
      (pss_cons (ps_for PassesOwn.never rfl (pi_range1 (by rfl) T.m_range (pa_cons (xv 6) pa_nil)) (pg_name (i := 8) sc_grown.nd rfl (.inl rfl))
      (pss_one (ps_expr (pe_bmK K PySem.F.plainAttrs_list PySem.F.slot_list_append PySem.F.type_list_append mt_append (xv 7) (pa_cons (pe_call G_grown (hr.mono (by omega)) (by rfl) T.g_grown T.F_grown.kp T.b_grown .nil pass0 (pa_cons (xv 0) (pa_cons (xv 1) (pa_cons (xv 2) (pa_cons (pe_op op_addY (xv 3) pe_int) (pa_cons (xv 4) pa_nil)))))) pa_nil)))))
      (pss_one (ps_ret (pe_tup (pa_cons (pe_ix (ix_k K) (pe_lst (pa_cons pe_str (pa_cons pe_str pa_nil))) (pe_op op_modY (pe_callTy cr_int (by rfl) T.m_int (by decide +kernel) (pa_cons (xv 5) pa_nil)) pe_int) (fun _ _ => rfl)) (pa_cons (pe_callTy (call_tupleK K) (by rfl) T.m_tuple (by decide +kernel) (pa_cons (xv 7) pa_nil)) pa_nil))))))))))
      pss_nil)
      (xss_cut (xs_if (PW.pt (xw_and (xt_cmp op_ltY (xv 3) pe_int (nomark _)) (xw_and (xt_cmp (op_eqK K hr.units) (xv 5) pe_int (nomark _)) (pw_and1 (xt_cmp op_geY (pe_ix (ix_k K) (xv 4) pe_int (fun _ _ => rfl)) pe_int (nomark _))))))
      (pss_cons (ps_asg (pe_op op_subY (pe_ix (ix_k K) (xv 4) pe_int (fun _ _ => rfl)) pe_int) (pg_sub (xv 4) pe_int set_list))
      (pss_cons (ps_set (i := 9) sc_grown.nd rfl (.inl rfl) (pe_call G_grown (hr.mono (by omega)) (by rfl) T.g_grown T.F_grown.kp T.b_grown .nil pass0 (pa_cons (xv 0) (pa_cons (xv 1) (pa_cons (xv 2) (pa_cons (pe_op op_addY (xv 3) pe_int) (pa_cons (xv 4) pa_nil)))))))
      (pss_cons (ps_set (i := 10) sc_grown.nd rfl (.inl rfl) (pe_call G_grown (hr.mono (by omega)) (by rfl) T.g_grown T.F_grown.kp T.b_grown .nil pass0 (pa_cons (xv 0) (pa_cons (xv 1) (pa_cons (xv 2) (pa_cons (pe_op op_addY (xv 3) pe_int) (pa_cons (xv 4) pa_nil)))))))
      (pss_one (ps_ret (pe_tup (pa_cons pe_str (pa_cons (pe_call G_simple (hr.mono (by omega)) (by rfl) T.g_simple T.F_simple.kp T.b_simple .nil pass0 (pa_cons (xv 0) (pa_cons (xv 2) (pa_cons pe_int pa_nil)))) (pa_cons (xv 9) (pa_cons (xv 10) pa_nil))))))))))
      pss_nil)
      (pss_one (ps_ret (pe_call G_leaf (hr.mono (by omega)) (by rfl) T.g_leaf T.F_leaf.kp T.b_leaf .nil pass0 (pa_cons (xv 0) (pa_cons (xv 1) (pa_cons (xv 2) pa_nil))))))))), ?_⟩
      refine ⟨G, _, b, o, 7, rfl, S, B, by decide, by decide, fun w1 o1 H1 w10 w11 B1 S1 => ?_⟩
      refine ⟨fun σ H' => H' = H1 ∧ σ = [some (.ref b), some (.ref lu), some (.ref lr), some (.int lv), some (.ref lf), some (.int w1), none, none, none, none, none], ⟨fun e1 => ⟨fun e2 => ?_, fun _ => ⟨rfl, rfl⟩⟩, fun _ => ⟨ff, fun _ => ⟨rfl, rfl⟩⟩⟩, fun σ H' h => ?_⟩
      · have l5 : lv < 5 := of_decide_eq_true e1
        have n1' : 1 ≤ n := by omega
        refine ⟨_, _, .inl (SqL.of S1.sw.hd), atI_nat (j := 0) rfl, 8, m, rfl, ?_⟩
        obtain ⟨k, hk, k0, k8, km⟩ : ∃ k : Int, (if m < 8 then m else 8) = k ∧ 0 ≤ k ∧ k ≤ 8 ∧ k ≤ m := ⟨_, rfl, by split <;> omega, by split <;> omega, by split <;> omega⟩
        rw [hk]
        refine ⟨G, _, b, o1, 1 + k, rfl, S1, B1, by omega, by omega, fun c2 o2 H2 c20 c21 B2 S2 => ?_⟩
        refine ⟨fun σ H' => ∃ (c : Int) (o' : HO), σ = [some (.ref b), some (.ref lu), some (.ref lr), some (.int lv), some (.ref lf), some (.int w1), some (.int c), none, none, none, none] ∧ 0 ≤ c ∧ c ≤ m ∧ (c ≤ 8 ∨ c = 11) ∧ Bag G o' ∧ Sep G ((b, o') :: (lf, .lst [.int m]) :: M) H', ?_, fun σ H3 h => ?_⟩
        · refine ⟨_, _, .inl (SqL.of S2.sw.hd), atI_nat (j := 0) rfl, fun e3 => ?_, fun e3 => ⟨ff, fun _ => ⟨c2, o2, rfl, by omega, by omega, .inl (by omega), B2, S2⟩⟩⟩
          have m11 : 11 ≤ m := of_decide_eq_true e3
          exact ⟨G, _, b, o2, 6, rfl, S2, B2, by decide, by decide, fun r3 o3 H3 r30 r31 B3 S3 => ⟨fun _ => ⟨11, o3, rfl, by omega, by omega, .inr rfl, B3, S3⟩, fun _ => ⟨c2, o3, rfl, by omega, by omega, .inl (by omega), B3, S3⟩⟩⟩
        obtain ⟨c, o3, rfl, c0, cm, c8, B3, S3⟩ := h
        refine ⟨_, _, .inl (SqL.of S3.sw.hd), atI_nat (j := 0) rfl, lf, _, 0, 0, rfl, rfl, S3.sw.hd, rfl, sz, fun L nL => ?_⟩
        have S4 := ((S3.sw.set (o' := .lst [.int (m - c)])).sw.new (o := .lst []) nL).perm (List.perm_append_comm_assoc [_] [_, _] M)
        refine ⟨_, rfl, by omega, by omega, for_range (lo := 0) (n := c.toNat) (fun i σ H' => ∃ (y8 : Option V) (ws : List V) (ps : List Sh) (m' : Int) (o' : HO) (G' : Hp), σ = [some (.ref b), some (.ref lu), some (.ref lr), some (.int lv), some (.ref lf), some (.int w1), some (.int c), some (.ref L), y8, none, none] ∧
          Same G G' ∧ DpAll K G' ws (ps.map toD) ∧ ps.length = i ∧ (∀ p ∈ ps, SOk p ∧ hgt p ≤ n) ∧ 0 ≤ m' ∧ m' ≤ 15 ∧ ((numbs ps).length : Int) + m' = m - c + i ∧ Bag G' o' ∧ Sep G' ((b, o') :: (lf, .lst [.int m']) :: (L, .lst ws) :: M) H') ⟨_, [], [], m - c, o3, G, rfl, Same.refl _, .nil, rfl, (fun _ h => nomatch h), by omega, by omega, by simp only [numbs, List.length_nil]; omega, B3, S4⟩ (fun i σ H' hi h => ?_) (fun σ H5 h => ?_)⟩
        · obtain ⟨y8, ws, ps, m', o5, G5, rfl, s5, hws, pl, hps, m'0, m'1, hm', B5, S5⟩ := h
          have wl := dpa_len hws
          rw [List.length_map] at wl
          refine ⟨.inl ⟨rfl, _, SqL.of (S5.perm (List.perm_append_comm_assoc [_, _] [_] M)).hd⟩, G5, _, b, o5, lu, lr, lf, us, rs, lv + 1, m', rfl, S5, B5, nm.same s5, m'0, m'1, by omega, n1', by omega, fun v6 p6 m6 o6 G6 H6 s6 hv6 ok6 hg6 m60 hm6 B6 S6 => ?_⟩
          have c6 : 1 ≤ cnt p6 := by rw [cnt_eq]; omega
          have S7 := S6.perm (List.perm_append_comm_assoc [_, _] [_] M)
          refine ⟨L, ws, v6, rfl, rfl, S7.hd, smallL (by omega), _, ws ++ [v6], ps ++ [p6], m6, o6, G6, rfl, s5.trans s6, ?_, by rw [List.length_append, pl]; rfl, fun p hp => ?_, m60, by omega, ?_, B6, S7.set.perm (List.perm_append_comm_assoc [_] [_, _] M)⟩
          · rw [List.map_append]
            exact dpa_app (dpa_same s6 hws) (dpa_one hv6)
          · rcases List.mem_append.mp hp with z | z
            · exact hps p z
            · rw [List.mem_singleton.mp z]
              exact ⟨ok6, hg6⟩
          · rw [numbs_app, numbs_one, List.length_append]
            have e6 : (numb p6).length = cnt p6 := rfl
            rw [e6]
            omega
        · obtain ⟨y8, ws, ps, m', o5, G5, rfl, s5, hws, pl, hps, m'0, m'1, hm', B5, S5⟩ := h
          refine ⟨sz, fun l6 nl6 => ?_⟩
          obtain ⟨G6, s6, S6, h6⟩ := Sep.mk (o := .lst [.str "row", .str "col"]) S5 nl6
          refine ⟨by decide, fun r7 _ r70 r71 => ?_⟩
          obtain ⟨cc, hcc⟩ : ∃ cc : Bool, atI [V.str "row", V.str "col"] r7 = some (.str (lword cc)) := by
            rcases (by omega : r7 = 0 ∨ r7 = 1) with rfl | rfl
            · exact ⟨false, atI_nat (j := 0) rfl⟩
            · exact ⟨true, atI_nat (j := 1) rfl⟩
          have S7 := S6.perm (List.perm_append_comm_assoc [_, _] [_] M)
          refine ⟨_, _, .inl (SqL.of (S6.st h6)), hcc, L, ws, rfl, .inl ⟨SqL.of S7.hd, fun t8 nt8 => ?_⟩⟩
          obtain ⟨G8, s8, S8, h8⟩ := Sep.mk (o := .tup ws) S7.drop nt8
          refine ⟨sz, fun t9 nt9 => ?_⟩
          obtain ⟨G9, s9, S9, h9⟩ := Sep.mk (o := .tup [.str (lword cc), .ref t8]) S8 nt9
          have s69 := s6.trans (s8.trans s9)
          have ce := cnt_eq (.line cc ps)
          have ce2 : (numbs (parts (.line cc ps))) = numbs ps := rfl
          rw [ce2] at ce
          refine q _ (.line cc ps) m' o5 G9 _ (s5.trans s69) ?_ (.mk (show ps.length ≤ 8 ∨ ps.length = 11 by omega) fun p hp => (hps p hp).1) ?_ m'0 (by omega) (B5.same s69) S9
          · rw [toD_eq]
            exact .tup (SqT.of h9) (.cons (.str _) (.cons (.tup (SqT.of (s9 _ _ h8)) (dpa_same s69 hws)) .nil))
          · have := hgts_le fun p hp => (hps p hp).2
            rw [hgt_eq]
            show hgts ps + 1 ≤ _
            omega
      obtain ⟨rfl, rfl⟩ := h
      refine ⟨fun σ H2 => H2 = H' ∧ σ = [some (.ref b), some (.ref lu), some (.ref lr), some (.int lv), some (.ref lf), some (.int w1), none, none, none, none, none], ⟨fun e1 => ⟨fun e2 => ⟨_, _, .inl (SqL.of S1.sw.hd), atI_nat (j := 0) rfl, fun e3 => ?_, fun _ => ⟨rfl, rfl⟩⟩, fun _ => ⟨ff, fun _ => ⟨rfl, rfl⟩⟩⟩, fun _ => ⟨ff, fun _ => ⟨rfl, rfl⟩⟩⟩, fun σ H2 h => ?_⟩
      · have l5 : lv < 5 := of_decide_eq_true e1
        have n1' : 1 ≤ n := by omega
        have m2 : 2 ≤ m := of_decide_eq_true e3
        refine ⟨_, _, .inl (SqL.of S1.sw.hd), atI_nat (j := 0) rfl, lf, _, 0, 0, rfl, rfl, S1.sw.hd, rfl, ?_⟩
        have S2 := (S1.sw.set (o' := .lst [.int (m - 2)])).sw
        refine ⟨G, _, b, o1, lu, lr, lf, us, rs, lv + 1, m - 2, rfl, S2, B1, nm, by omega, by omega, by omega, n1', by omega, fun v3 p3 m3 o3 G3 H3 s3 hv3 ok3 hg3 m30 hm3 B3 S3 => ?_⟩
        have c3 : 1 ≤ cnt p3 := by rw [cnt_eq]; omega
        refine ⟨G3, _, b, o3, lu, lr, lf, us, rs, lv + 1, m3, rfl, S3, B3, nm.same s3, by omega, by omega, by omega, n1', by omega, fun v4 p4 m4 o4 G4 H4 s4 hv4 ok4 hg4 m40 hm4 B4 S4 => ?_⟩
        have nm4 := nm.same (s3.trans s4)
        refine ⟨G4, _, b, o4, lr, rs, 3, rfl, S4, B4, nm4.hr, nm4.r0, by have := nm4.r1; omega, nm4.nr, by decide, by decide, fun v5 d5 o5 G5 H5 s5 hv5 f5 B5 S5 => ⟨sz, fun t6 nt6 => ?_⟩⟩
        obtain ⟨G6, s6, S6, h6⟩ := Sep.mk (o := .tup [.str "when", v5, v3, v4]) S5 nt6
        have ce := cnt_eq (.wen d5 p3 p4)
        have ce2 : (numbs (parts (.wen d5 p3 p4))).length = cnt p3 + cnt p4 := by
          show (numbs [p3, p4]).length = _
          simp only [numbs, List.append_nil, List.length_append]
          rfl
        refine q _ (.wen d5 p3 p4) m4 o5 G6 _ (s3.trans (s4.trans (s5.trans s6))) ?_ (.mk f5 fun p hp => ?_) ?_ m40 (by omega) (B5.same s6) S6
        · rw [toD_eq]
          exact .tup (SqT.of h6) (.cons (.str _) (.cons (dp_same s6 hv5) (.cons (dp_same (s4.trans (s5.trans s6)) hv3) (.cons (dp_same (s5.trans s6) hv4) .nil))))
        · have hp : p ∈ [p3, p4] := hp
          simp only [List.mem_cons, List.not_mem_nil, or_false] at hp
          rcases hp with rfl | rfl
          · exact ok3
          · exact ok4
        · simp only [hgt]
          omega
      obtain ⟨rfl, rfl⟩ := h
      refine ⟨G, _, b, o1, lu, lr, us, rs, rfl, S1, B1, nm.hu, nm.hr, nm.u0, nm.u1, nm.r0, nm.r1, nm.nu, nm.nr, fun v s2 o2 G2 H3 s3 hv ok ps B2 S2 => ?_⟩
      have ce := cnt_eq s2
      have he := hgt_eq s2
      rw [ps] at ce he
      simp only [numbs, hgts, List.length_nil] at ce he
      exact q v s2 m o2 G2 H3 s3 hv ok (by omega) m0 (by omega) B2 S2

end
end K32
set_option Elab.async false
set_option linter.all false
set_option maxRecDepth 100000
set_option maxHeartbeats 4000000
namespace K32
open PySem PySem.Spec PyProof.Rows L2 XL
section
variable {P : Program} {w : World} {K : PySem.W.Frag} {mg : Str → Option Value} {base : Heap}
/-! ### what is asked of a shape -/
theorem sqt_ty {K : PySem.W.Frag} {H : Hp} {a : Addr} {xs : List V} (h : SqT K H a xs) : TyX K H (.ref a) (.type "tuple") := by
  rcases h with (h | ⟨o, h⟩) | ⟨o, its, n, hk, hc, hs, hz, r⟩
  · exact .base (.tup h)
  · exact .fTuple h
  · exact .kTuple hk hc
theorem ne_dat {K : PySem.W.Frag} {H : Hp} {x y : V} {d : PyData} {Q : VK} {w dp : Nat} (hx : Dp K H x d) (hy : Dp K H y d) (f : Fit w dp d) (h : dp ≤ 64) (q : Q (.bl false) H) : rNeD K x y H Q := ⟨d, d, hx, hy, f.shaped h, f.shaped h, by rw [f.self]; exact q⟩
theorem eq_dat {K : PySem.W.Frag} {H : Hp} {x y : V} {d : PyData} {Q : VK} {w dp : Nat} (hx : Dp K H x d) (hy : Dp K H y d) (f : Fit w dp d) (h : dp ≤ 64) (q : Q (.bl true) H) : rEqD K x y H Q := ⟨d, d, hx, hy, f.shaped h, f.shaped h, by rw [f.self]; exact q⟩
theorem cut_mid {α : Type} (xs : List V) (i c : Nat) (h : i + c ≤ xs.length) : cutV xs (some (i : Int)) (some ((i : Int) + (c : Nat))) = (xs.drop i).take c := by
  have e : ((i : Int) + (c : Nat)) = ((i + c : Nat) : Int) := by omega
  rw [e]
  unfold cutV
  rw [HT.sIx_nat, HT.sIx_nat, Nat.min_eq_left h, Nat.min_eq_left (by omega : i ≤ xs.length), Nat.add_sub_cancel_left]
def spAsked (K : PySem.W.Frag) : Sp := fun vs H Q _ => ∃ (G : Hp) (M : List (Addr × HO)) (v : V) (s : Sh), vs = [v] ∧ Sep G M H ∧ Dp K G v (toD s) ∧ SOk s ∧ hgt s ≤ 5 ∧ cnt s ≤ 16 ∧ ∀ (G' H' : Hp), Same G G' → Sep G' M H' → Q (.bl true) H'
theorem ok_asked (T : Top K mg w) (G_law_numbered : FnOk P w K mg base CX0 7 T.a_law_numbered T.d_law_numbered ["_law_shape"] (spLNumb K 5)) (G_built : FnOk P w K mg base CX0 8 T.a_built T.d_built ["_law_shape"] (spBuilt K 5)) (G_numbered : FnOk P w K mg base CX0 7 T.a_numbered T.d_numbered ["shape"] (spNumb K 5))
    (G_levels : FnOk P w K mg base CX0 7 T.a_levels T.d_levels ["shape"] (spLev K 5)) (G_high : FnOk P w K mg base CX0 7 T.a_high T.d_high ["_law_shape"] (spLev K 5)) (G_number : FnOk P w K mg base CX0 1 T.a_number T.d_number ["_law_thing"] spNumber) :
    FnG P w K mg base CX0 9 T.a_asked T.d_asked ["_law_shape"] (spAsked K) := by
  refine okG T.F_asked sc_asked (fun vs H Q E h => ?_) (fun cdv A outer s H vs Q E hr hg h => ?_)
  · obtain ⟨G, M, v, sh, rfl, _⟩ := h
    rfl
  · obtain ⟨G, M, v, sh, rfl, S, hv, ok, h5, c16, q⟩ := h
    refine ⟨_, (pss_cons (ps_set (i := 1) sc_asked.nd rfl (.inl rfl) (pe_call G_law_numbered (hr.mono (by omega)) (by rfl) T.g_law_numbered T.F_law_numbered.kp T.b_law_numbered .nil pass0 (pa_cons (xv 0) pa_nil)))
      (pss_cons (ps_set (i := 2) sc_asked.nd rfl (.inl rfl) (pe_call G_built (hr.mono (by omega)) (by rfl) T.g_built T.F_built.kp T.b_built .nil pass0 (pa_cons (xv 0) pa_nil)))
      (pss_cons (xs_if (PW.pt (xw_or (pt_not (xt_truK K (pe_callB (call_isK K) (by rfl) T.m_isinstance (by decide +kernel) (pa_cons (xv 2) (pa_cons (pe_bltn (v := .ty "tuple") (by rfl) T.m_tuple (by decide +kernel) rfl) pa_nil))))) (xw_or (xt_cmp (op_neK K hr.units) (xv 2) (xv 0) (nomark _)) (pw_or1 (xt_cmp (op_neK K hr.units) (pe_callB (call_reprG K hg (u70 hr)) (by rfl) T.m_repr (by decide +kernel) (pa_cons (xv 2) pa_nil)) (pe_callB (call_reprG K hg (u70 hr)) (by rfl) T.m_repr (by decide +kernel) (pa_cons (xv 0) pa_nil)) (nomark _))))))
      (pss_one (ps_ret pe_bl))
      pss_nil)
      (pss_cons (ps_set (i := 3) sc_asked.nd rfl (.inl rfl) (pe_call G_numbered (hr.mono (by omega)) (by rfl) T.g_numbered T.F_numbered.kp T.b_numbered .nil pass0 (pa_cons (xv 2) pa_nil)))
      (pss_cons (xs_if (PW.pt (xw_or (pt_not (xt_truK K (pe_callB (call_isK K) (by rfl) T.m_isinstance (by decide +kernel) (pa_cons (xv 3) (pa_cons (pe_bltn (v := .ty "tuple") (by rfl) T.m_tuple (by decide +kernel) rfl) pa_nil))))) (xw_or (xt_cmp (op_neK K hr.units) (pe_callTy (call_listK K) (by rfl) T.m_list (by decide +kernel) (pa_cons (xv 3) pa_nil)) (xv 1) (nomark _)) (pw_or1 (xt_cmp (op_neK K hr.units) (pe_callB (call_reprG K hg (u70 hr)) (by rfl) T.m_repr (by decide +kernel) (pa_cons (pe_callTy (call_listK K) (by rfl) T.m_list (by decide +kernel) (pa_cons (xv 3) pa_nil)) pa_nil)) (pe_callB (call_reprG K hg (u70 hr)) (by rfl) T.m_repr (by decide +kernel) (pa_cons (xv 1) pa_nil)) (nomark _))))))
      (pss_one (ps_ret pe_bl))
      pss_nil)
      (pss_cons (ps_set (i := 4) sc_asked.nd rfl (.inl rfl) (pe_call G_levels (hr.mono (by omega)) (by rfl) T.g_levels T.F_levels.kp T.b_levels .nil pass0 (pa_cons (xv 2) pa_nil)))
      (pss_cons (xs_if (PW.pt (xw_or (pt_not (xt_truK K (pe_call G_number (hr.mono (by omega)) (by rfl) T.g_number T.F_number.kp T.b_number .nil pass0 (pa_cons (xv 4) pa_nil)))) (pw_or1 (xt_cmp (op_neK K hr.units) (xv 4) (pe_call G_high (hr.mono (by omega)) (by rfl) T.g_high T.F_high.kp T.b_high .nil pass0 (pa_cons (xv 0) pa_nil)) (nomark _)))))
      (pss_one (ps_ret pe_bl))
      pss_nil)
      (pss_cons (ps_for PassesOwn.never rfl (pi_enum (by rfl) T.m_enumerate (pa_cons (xv 1) pa_nil)) (pg_tupK K 2 (pgs_cons (pg_name (i := 5) sc_asked.nd rfl (.inl rfl)) (pgs_cons (pg_name (i := 6) sc_asked.nd rfl (.inl rfl)) pgs_nil)))
      (pss_one (xs_if (PW.pt (xw_or (xt_cmp (op_neK K hr.units) (pe_call G_numbered (hr.mono (by omega)) (by rfl) T.g_numbered T.F_numbered.kp T.b_numbered .nil pass0 (pa_cons (xv 6) pa_nil)) (pe_callTy (call_tupleK K) (by rfl) T.m_tuple (by decide +kernel) (pa_cons (pe_slice (sl_listK K) (xv 1) (po_some (xv 5)) (po_some (pe_op op_addY (xv 5) (pe_callB (cr_lenK K) (by rfl) T.m_len (by decide +kernel) (pa_cons (pe_call G_law_numbered (hr.mono (by omega)) (by rfl) T.g_law_numbered T.F_law_numbered.kp T.b_law_numbered .nil pass0 (pa_cons (xv 6) pa_nil)) pa_nil))))) pa_nil)) (nomark _)) (pw_or1 (xt_cmp (op_neK K hr.units) (pe_call G_levels (hr.mono (by omega)) (by rfl) T.g_levels T.F_levels.kp T.b_levels .nil pass0 (pa_cons (xv 6) pa_nil)) (pe_call G_high (hr.mono (by omega)) (by rfl) T.g_high T.F_high.kp T.b_high .nil pass0 (pa_cons (xv 6) pa_nil)) (nomark _)))))
      (pss_one (ps_ret pe_bl))
      pss_nil)))
      (pss_one (ps_ret (xe_and (pe_cmpR (op_eqK K hr.units) (pe_call G_numbered (hr.mono (by omega)) (by rfl) T.g_numbered T.F_numbered.kp T.b_numbered .nil pass0 (pa_cons (xv 2) pa_nil)) (xv 3) (nomark _)) (pe_one (pe_cmpR (op_eqK K hr.units) (pe_call G_levels (hr.mono (by omega)) (by rfl) T.g_levels T.F_levels.kp T.b_levels .nil pass0 (pa_cons (xv 2) pa_nil)) (xv 4) (nomark _)))))))))))))), ?_⟩
    have fs := ok.fit c16 h5
    have nl : (numb sh).length = cnt sh := rfl
    have fn : ∀ d ∈ (numb sh).map toD, Fit 32000 13 d := fun d hd => by
      obtain ⟨p, hp, rfl⟩ := List.mem_map.mp hd
      have z := numb_mem_sub _ sh (Nat.le_refl _) hp
      exact (ok.sub hp).fit (by omega) (by omega)
    have ft : Fit 600000 14 (.tuple ((numb sh).map toD)) := (Fit.tups fn).mono (by rw [List.length_map, nl]; have := Nat.mul_le_mul_right (32000 + 1) c16; omega) (Nat.le_refl _)
    have fl : Fit 600000 14 (.list ((numb sh).map toD)) := (Fit.lsts fn).mono (by rw [List.length_map, nl]; have := Nat.mul_le_mul_right (32000 + 1) c16; omega) (Nat.le_refl _)
    have shs := fs.shw (by decide) (by decide)
    have shl := fl.shw (by decide) (by decide)
    obtain ⟨a0, r0, ev, ha0, _⟩ := sh_at hv
    refine ⟨G, M, v, sh, rfl, S, hv, h5, by omega, fun D us G1 H1 s1 hD hus S1 => ?_⟩
    refine ⟨G1, M, v, sh, rfl, S1, dp_same s1 hv, h5, ok, fun vb G2 H2 s2 hvb S2 => ?_⟩
    obtain ⟨ab, rb, rfl, hab, _⟩ := sh_at hvb
    have hv2 := dp_same (s1.trans s2) hv
    refine ⟨_, _, _, _, true, rfl, .ty _, sqt_ty (S2.t hab), kit_ty (by decide +kernel), ff, fun _ => ?_⟩
    subst ev
    refine ⟨_, _, dp_same S2.1 hvb, dp_same S2.1 hv2, fs.shaped (by decide), fs.shaped (by decide), ?_⟩
    rw [fs.self]
    refine ⟨ff, fun _ => ?_⟩
    refine ⟨_, _, rfl, dp_same S2.1 hvb, shs.sh, shs.nd, shs.dp, shs.ln, _, _, rfl, dp_same S2.1 hv2, shs.sh, shs.nd, shs.dp, shs.ln, fun e => ?_, fun _ => ?_⟩
    · rw [decide_eq_true rfl] at e
      cases e
    refine ⟨G2, M, _, sh, rfl, S2, hvb, h5, by omega, fun vt G3 H3 s3 hvt S3 => ?_⟩
    obtain ⟨at3, ut, rfl, hat, hut⟩ := dp_tup hvt
    refine ⟨_, _, _, _, true, rfl, .ty _, sqt_ty (S3.t hat), kit_ty (by decide +kernel), ff, fun _ => ?_⟩
    refine ⟨at3, ut, rfl, .inr (S3.t hat), fun l4 nl4 => ?_⟩
    obtain ⟨G4, s4, S4, h4⟩ := Sep.mk (o := .lst ut) S3 nl4
    have hD4 := s4 _ _ (s3 _ _ (s2 _ _ hD))
    have hus4 := dpa_same (s2.trans (s3.trans s4)) hus
    have dD : ∀ {M' : List (Addr × HO)} {G' H' : Hp}, Same G4 G' → Sep G' M' H' → Dp K H' (.ref D) (.list ((numb sh).map toD)) := fun {M' G' H'} s' S' => .lst (SqL.of (S'.st (s' _ _ hD4))) (dpa_same (s'.trans S'.1) hus4)
    have dT : Dp K (upd H3 l4 (.lst ut)) (.ref l4) (.list ((numb sh).map toD)) := .lst (SqL.of (S4.st h4)) (dpa_same (s4.trans S4.1) hut)
    refine ⟨_, _, dT, dD (Same.refl _) S4, fl.shaped (by decide), fl.shaped (by decide), ?_⟩
    rw [fl.self]
    refine ⟨ff, fun _ => ⟨at3, ut, rfl, .inr (S4.t (same_t s4 hat)), fun l5 nl5 => ?_⟩⟩
    obtain ⟨G5, s5, S5, h5'⟩ := Sep.mk (o := .lst ut) S4 nl5
    have dT5 : Dp K (upd (upd H3 l4 (.lst ut)) l5 (.lst ut)) (.ref l5) (.list ((numb sh).map toD)) := .lst (SqL.of (S5.st h5')) (dpa_same (s4.trans (s5.trans S5.1)) hut)
    refine ⟨_, _, rfl, dT5, shl.sh, shl.nd, shl.dp, shl.ln, _, _, rfl, dD s5 S5, shl.sh, shl.nd, shl.dp, shl.ln, fun e => ?_, fun _ => ?_⟩
    · rw [decide_eq_true rfl] at e
      cases e
    have s25 := s3.trans (s4.trans s5)
    have hvb5 := dp_same s25 hvb
    have hv5 := dp_same s25 hv2
    refine ⟨G5, M, _, sh, rfl, S5, hvb5, h5, fun G6 H6 s6 S6 => ?_⟩
    refine ⟨_, rfl, ff, fun _ => ?_⟩
    refine ⟨G6, M, _, sh, rfl, S6, dp_same s6 hv5, h5, fun G7 H7 s7 S7 => ⟨fun e => ?_, fun _ => ?_⟩⟩
    · rw [decide_eq_true rfl] at e
      cases e
    have s57 := s6.trans s7
    have hD7 := s57 _ _ (s5 _ _ hD4)
    have hus7 := dpa_same (s5.trans s57) hus4
    refine ⟨D, _, rfl, SqL.of (S7.st hD7), for_enum (xs := us) (fun pre σ H' => ∃ (y5 y6 : Option V) (G' : Hp), σ = [some (.ref a0), some (.ref D), some (.ref ab), some (.ref at3), some (.int (hgt sh : Nat)), y5, y6] ∧ Same G7 G' ∧ Sep G' M H') ⟨_, _, G7, rfl, Same.refl _, S7⟩ (fun pre σ H' h => ?_) (fun pre x post σ H' W e h nW => ?_) (fun σ H' h => ?_)⟩
    · obtain ⟨_, _, G', _, s', S'⟩ := h
      exact SqL.of (S'.st (s' _ _ hD7))
    · obtain ⟨y5, y6, G8, rfl, s8, S8⟩ := h
      obtain ⟨G9, s9, S9, h9⟩ := Sep.mk (o := .tup [.int (pre.length : Nat), x]) S8 nW
      have s79 := s8.trans s9
      have hx : us[pre.length]? = some x := by rw [e]; simp
      obtain ⟨d, hd, hxd⟩ := dpa_get hus7 hx
      obtain ⟨p, hp, rfl⟩ := map_get hd
      have hm := List.mem_of_getElem? hp
      have z := numb_mem_sub _ sh (Nat.le_refl _) hm
      have okp := ok.sub hm
      have fp := okp.fit (by omega) (by omega)
      have npl : (numb p).length = cnt p := rfl
      have fnp : ∀ d ∈ (numb p).map toD, Fit 32000 13 d := fun d hd => by
        obtain ⟨p2, hp2, rfl⟩ := List.mem_map.mp hd
        exact fn _ (List.mem_map_of_mem (z.2.2 p2 hp2))
      have ftp : Fit 600000 14 (.tuple ((numb p).map toD)) := (Fit.tups fnp).mono (by rw [List.length_map, npl]; have := Nat.mul_le_mul_right (32000 + 1) (show cnt p ≤ 16 by omega); omega) (Nat.le_refl _)
      obtain ⟨r, hr2⟩ := drop_numb _ sh (Nat.le_refl _) _ _ hp
      have lr : pre.length + cnt p ≤ us.length := by
        have e1 := congrArg List.length hr2
        have e2 := dpa_len hus7
        have e3 := (List.getElem?_eq_some_iff.mp hp).1
        rw [List.length_drop, List.length_append] at e1
        rw [List.length_map] at e2
        omega
      have cutp : DpAll K G7 ((us.drop pre.length).take (cnt p)) ((numb p).map toD) := by
        have e1 := dpa_take (cnt p) (dpa_drop pre.length hus7)
        have e2 : ((numb sh).drop pre.length).take (cnt p) = numb p := by
          rw [hr2, List.take_append_of_le_length (Nat.le_of_eq npl.symm), List.take_of_length_le (Nat.le_of_eq npl)]
        rw [← List.map_drop, ← List.map_take, e2] at e1
        exact e1
      refine ⟨G9, M, x, p, rfl, S9, dp_same s79 hxd, by omega, by omega, fun v10 G10 H10 s10 hv10 S10 => ?_⟩
      obtain ⟨a10, u10, rfl, ha10, hu10⟩ := dp_tup hv10
      have s710 := s79.trans s10
      refine ⟨_, rfl, G10, M, x, p, rfl, S10, dp_same s710 hxd, by omega, by omega, fun D11 us11 G11 H11 s11 hD11 hus11 S11 => ?_⟩
      have l11 : us11.length = cnt p := by rw [dpa_len hus11, List.length_map]; rfl
      refine ⟨_, .inl (SqL.of (S11.st hD11)), _, rfl, D, us, rfl, SqL.of (S11.st (s11 _ _ (s710 _ _ hD7))), fun l12 nl12 => ?_⟩
      rw [l11, cut_mid (α := V) us pre.length (cnt p) lr]
      obtain ⟨G12, s12, S12, h12⟩ := Sep.mk (o := .lst ((us.drop pre.length).take (cnt p))) S11 nl12
      refine ⟨l12, _, rfl, .inl ⟨SqL.of (S12.st h12), fun t13 nt13 => ?_⟩⟩
      obtain ⟨G13, s13, S13, h13⟩ := Sep.mk (o := .tup ((us.drop pre.length).take (cnt p))) S12 nt13
      have s1013 := s11.trans (s12.trans s13)
      have s713 := s710.trans s1013
      refine ⟨_, _, dp_same S13.1 (dp_same s1013 hv10), .tup (SqT.of (S13.st h13)) (dpa_same (s713.trans S13.1) cutp), ftp.shaped (by decide), ftp.shaped (by decide), ?_⟩
      rw [ftp.self]
      refine ⟨ff, fun _ => ⟨G13, M, x, p, rfl, S13, dp_same s713 hxd, by omega, fun G14 H14 s14 S14 => ?_⟩⟩
      refine ⟨G14, M, x, p, rfl, S14, dp_same (s713.trans s14) hxd, by omega, fun G15 H15 s15 S15 => ⟨fun e => ?_, fun _ => ⟨_, _, G15, rfl, s713.trans (s14.trans s15), S15⟩⟩⟩
      rw [decide_eq_true rfl] at e
      cases e
    · obtain ⟨y5, y6, G8, rfl, s8, S8⟩ := h
      have s28 := s25.trans (s57.trans s8)
      have hvb8 := dp_same s28 hvb
      refine ⟨G8, M, _, sh, rfl, S8, hvb8, h5, by omega, fun v9 G9 H9 s9 hv9 S9 => ?_⟩
      obtain ⟨a9, u9, rfl, ha9, hu9⟩ := dp_tup hv9
      refine ⟨_, _, dp_same S9.1 hv9, dp_same (S9.1) (dp_same (s4.trans (s5.trans (s57.trans (s8.trans s9)))) hvt), ft.shaped (by decide), ft.shaped (by decide), ?_⟩
      rw [ft.self]
      refine ⟨fun _ => ⟨G9, M, _, sh, rfl, S9, dp_same s9 hvb8, h5, fun G10 H10 s10 S10 => ?_⟩, tt⟩
      have z := q G10 H10 (s1.trans (s2.trans (s28.trans (s9.trans s10)))) S10
      have zz : decide (((hgt sh : Nat) : Int) = ((hgt sh : Nat) : Int)) = true := decide_eq_true rfl
      show Q (.bl (decide (((hgt sh : Nat) : Int) = ((hgt sh : Nat) : Int)))) H10
      rw [zz]
      exact z

end
end K32
set_option Elab.async false
set_option linter.all false
set_option maxRecDepth 100000
set_option maxHeartbeats 4000000
namespace K32
open PySem PySem.Spec PyProof.Rows L2 XL
section
variable {P : Program} {w : World} {K : PySem.W.Frag} {mg : Str → Option Value} {base : Heap}
def spUnch (K : PySem.W.Frag) : Sp := fun vs H Q _ => ∃ (G : Hp) (M : List (Addr × HO)) (b : Addr) (o : HO) (l : Addr) (xs : List V), vs = [.ref b, .ref l] ∧ Sep G ((b, o) :: M) H ∧ Bag G o ∧ G l = some (.lst xs) ∧ 0 < xs.length ∧ xs.length ≤ 100 ∧ (∀ x ∈ xs, ∃ d, Dp K G x d ∧ Fit 100 3 d) ∧
  ∀ (H' : Hp), Q (.bl true) H'
theorem fitN {ds : List PyData} {dp : Nat} (h : ∀ d ∈ ds, Fit 1000 dp d) (l : ds.length ≤ 6) : Fit 6006 (dp + 1) (.tuple ds) := (Fit.tups h).mono (by have := Nat.mul_le_mul_right (1000 + 1) l; omega) (Nat.le_refl _)
theorem ok_unchecked (T : Top K mg w) (G_choice : FnOk P w K mg base CX0 3 T.a_choice T.d_choice ["_law_bag_here", "_law_things"] (spChoice K)) (G_text_shape : FnOk P w K mg base CX0 1 T.a_text_shape T.d_text_shape ["form"] (spB 1 "text")) (G_button_shape : FnOk P w K mg base CX0 1 T.a_button_shape T.d_button_shape ["word"] (spB 1 "button"))
    (G_when_shape : FnOk P w K mg base CX0 1 T.a_when_shape T.d_when_shape ["form", "first", "second"] (spB 3 "when")) (G_row_shape : FnR P w K mg base CX0 1 T.a_row_shape (spS 0 (spB 1 "row"))) (G_col_shape : FnR P w K mg base CX0 1 T.a_col_shape (spS 0 (spB 1 "col"))) (G_put_shape : FnR P w K mg base CX0 1 T.a_put_shape (spS 1 (spB 2 "put"))) (G_each_shape : FnR P w K mg base CX0 1 T.a_each_shape (spS 4 (spB 5 "each"))) :
    FnOk P w K mg base CX0 5 T.a_unchecked T.d_unchecked ["_law_bag_here", "_law_odd"] (spUnch K) := by
  refine T.F_unchecked.ok sc_unchecked (fun vs H Q E h => ?_) (fun cdv A outer s H vs Q E hr h => ?_)
  · obtain ⟨G, M, b, o, l, xs, rfl, _⟩ := h
    rfl
  · obtain ⟨G, M, b, o, l, xs, rfl, S, B, hl, x0, x1, hx, q⟩ := h
    refine ⟨_, (pss_cons (ps_set (i := 2) sc_unchecked.nd rfl (.inl rfl) (pe_call G_choice (hr.mono (by omega)) (by rfl) T.g_choice T.F_choice.kp T.b_choice .nil pass0 (pa_cons (xv 0) (pa_cons (xv 1) pa_nil))))
      (pss_cons (ps_set (i := 3) sc_unchecked.nd rfl (.inl rfl) (pe_call G_choice (hr.mono (by omega)) (by rfl) T.g_choice T.F_choice.kp T.b_choice .nil pass0 (pa_cons (xv 0) (pa_cons (xv 1) pa_nil))))
      (pss_cons (ps_set (i := 4) sc_unchecked.nd rfl (.inl rfl) (pe_call G_choice (hr.mono (by omega)) (by rfl) T.g_choice T.F_choice.kp T.b_choice .nil pass0 (pa_cons (xv 0) (pa_cons (xv 1) pa_nil))))
      (pss_cons (xs_if (PW.pt (xw_or (xt_cmp (op_neK K hr.units) (pe_call G_text_shape (hr.mono (by omega)) (by rfl) T.g_text_shape T.F_text_shape.kp T.b_text_shape .nil pass0 (pa_cons (xv 2) pa_nil)) (pe_tup (pa_cons pe_str (pa_cons (xv 2) pa_nil))) (nomark _)) (pw_or1 (xt_cmp (op_neK K hr.units) (pe_call G_button_shape (hr.mono (by omega)) (by rfl) T.g_button_shape T.F_button_shape.kp T.b_button_shape .nil pass0 (pa_cons (xv 3) pa_nil)) (pe_tup (pa_cons pe_str (pa_cons (xv 3) pa_nil))) (nomark _)))))
      (pss_one (ps_ret pe_bl))
      pss_nil)
      (pss_cons (xs_if (xt_cmp (op_neK K hr.units) (pe_call G_when_shape (hr.mono (by omega)) (by rfl) T.g_when_shape T.F_when_shape.kp T.b_when_shape .nil pass0 (pa_cons (xv 2) (pa_cons (xv 3) (pa_cons (xv 4) pa_nil)))) (pe_tup (pa_cons pe_str (pa_cons (xv 2) (pa_cons (xv 3) (pa_cons (xv 4) pa_nil))))) (nomark _))
      (pss_one (ps_ret pe_bl))
      pss_nil)
      (pss_cons (xs_if (xt_cmp (op_neK K hr.units) (pe_callP G_put_shape (hr.mono (by omega)) (by rfl) T.g_put_shape T.F_put_shape.kp pass0 (pa_cons (xv 2) (pa_cons (xv 3) (pa_cons (xv 4) pa_nil)))) (pe_tup (pa_cons pe_str (pa_cons (xv 2) (pa_cons (pe_tup (pa_cons (xv 3) (pa_cons (xv 4) pa_nil))) pa_nil)))) (nomark _))
      (pss_one (ps_ret pe_bl))
      pss_nil)
      (pss_cons (xs_if (xt_cmp (op_neK K hr.units) (pe_callP G_each_shape (hr.mono (by omega)) (by rfl) T.g_each_shape T.F_each_shape.kp pass0 (pa_cons (xv 4) (pa_cons (xv 3) (pa_cons (xv 2) (pa_cons (xv 3) (pa_cons (xv 4) pa_nil)))))) (pe_tup (pa_cons pe_str (pa_cons (xv 4) (pa_cons (xv 3) (pa_cons (xv 2) (pa_cons (xv 3) (pa_cons (pe_tup (pa_cons (xv 4) pa_nil)) pa_nil))))))) (nomark _))
      (pss_one (ps_ret pe_bl))
      pss_nil)
      (pss_one (ps_ret (xe_and (pe_cmpR (op_eqK K hr.units) (pe_callP G_row_shape (hr.mono (by omega)) (by rfl) T.g_row_shape T.F_row_shape.kp pass0 (pa_cons (xv 2) (pa_cons (xv 4) pa_nil))) (pe_tup (pa_cons pe_str (pa_cons (pe_tup (pa_cons (xv 2) (pa_cons (xv 4) pa_nil))) pa_nil))) (nomark _)) (pe_one (pe_cmpR (op_eqK K hr.units) (pe_callP G_col_shape (hr.mono (by omega)) (by rfl) T.g_col_shape T.F_col_shape.kp pass0 (pa_cons (xv 3) pa_nil)) (pe_tup (pa_cons pe_str (pa_cons (pe_tup (pa_cons (xv 3) pa_nil)) pa_nil))) (nomark _))))))))))))), ?_⟩
    refine ⟨G, M, b, o, l, xs, rfl, S, B, SqL.of hl, x0, by omega, fun v1 o1 H1 m1 B1 S1 => ?_⟩
    refine ⟨G, M, b, o1, l, xs, rfl, S1, B1, SqL.of hl, x0, by omega, fun v2 o2 H2 m2 B2 S2 => ?_⟩
    refine ⟨G, M, b, o2, l, xs, rfl, S2, B2, SqL.of hl, x0, by omega, fun v3 o3 H3 m3 B3 S3 => ?_⟩
    obtain ⟨d1, h1, f1⟩ := hx v1 m1
    obtain ⟨d2, h2, f2⟩ := hx v2 m2
    obtain ⟨d3, h3, f3⟩ := hx v3 m3
    have f1 := f1.mono (show 100 ≤ 1000 by decide) (Nat.le_refl _)
    have f2 := f2.mono (show 100 ≤ 1000 by decide) (Nat.le_refl _)
    have f3 := f3.mono (show 100 ≤ 1000 by decide) (Nat.le_refl _)
    have fz : ∀ z : Str, z ∈ ([("text" : Str), "button", "put", "each", "col", "row", "when"] : List Str) → Fit 1000 3 (.str z) := fun z hz => by
      refine .mono (w := 1000) (dp := 0) (.str ?_ ?_) (Nat.le_refl _) (Nat.zero_le _)
      · have : ∀ z ∈ ([("text" : Str), "button", "put", "each", "col", "row", "when"] : List Str), ∀ c ∈ z.cps.toList, c < 1114112 := by decide +kernel
        exact this z hz
      · have : ∀ z ∈ ([("text" : Str), "button", "put", "each", "col", "row", "when"] : List Str), z.length ≤ 1000 := by decide +kernel
        exact this z hz
    -- text
    refine ⟨G, _, rfl, S3, fun q4 G4 H4 s4 hq4 S4 => ⟨sz, fun t5 nt5 => ?_⟩⟩
    obtain ⟨G5, s5, S5, h5⟩ := Sep.mk (o := .tup [.str "text", v1]) S4 nt5
    have ft : Fit 6006 4 (.tuple [.str "text", d1]) := fitN (dp := 3) (fun d hd => by
      simp only [List.mem_cons, List.not_mem_nil, or_false] at hd
      rcases hd with rfl | rfl
      · exact fz _ (by simp)
      · exact f1) (by simp)
    refine ⟨_, _, .tup (SqT.of (S5.st (s5 _ _ hq4))) (.cons (.str _) (.cons (dp_same ((s4.trans s5).trans S5.1) h1) .nil)), .tup (SqT.of (S5.st h5)) (.cons (.str _) (.cons (dp_same ((s4.trans s5).trans S5.1) h1) .nil)), ft.shaped (by decide), ft.shaped (by decide), ?_⟩
    rw [ft.self]
    refine ⟨ff, fun _ => ?_⟩
    -- button
    refine ⟨G5, _, rfl, S5, fun q6 G6 H6 s6 hq6 S6 => ⟨sz, fun t7 nt7 => ?_⟩⟩
    obtain ⟨G7, s7, S7, h7⟩ := Sep.mk (o := .tup [.str "button", v2]) S6 nt7
    have e7 := s4.trans (s5.trans (s6.trans s7))
    have fb : Fit 6006 4 (.tuple [.str "button", d2]) := fitN (dp := 3) (fun d hd => by
      simp only [List.mem_cons, List.not_mem_nil, or_false] at hd
      rcases hd with rfl | rfl
      · exact fz _ (by simp)
      · exact f2) (by simp)
    refine ⟨_, _, .tup (SqT.of (S7.st (s7 _ _ hq6))) (.cons (.str _) (.cons (dp_same (e7.trans S7.1) h2) .nil)), .tup (SqT.of (S7.st h7)) (.cons (.str _) (.cons (dp_same (e7.trans S7.1) h2) .nil)), fb.shaped (by decide), fb.shaped (by decide), ?_⟩
    rw [fb.self]
    refine ⟨ff, fun _ => ?_⟩
    -- when
    refine ⟨G7, _, rfl, S7, fun q8 G8 H8 s8 hq8 S8 => ⟨sz, fun t9 nt9 => ?_⟩⟩
    obtain ⟨G9, s9, S9, h9⟩ := Sep.mk (o := .tup [.str "when", v1, v2, v3]) S8 nt9
    have e9 := (e7.trans (s8.trans s9)).trans S9.1
    have fw : Fit 6006 4 (.tuple [.str "when", d1, d2, d3]) := fitN (dp := 3) (fun d hd => by
      simp only [List.mem_cons, List.not_mem_nil, or_false] at hd
      rcases hd with rfl | rfl | rfl | rfl
      · exact fz _ (by simp)
      · exact f1
      · exact f2
      · exact f3) (by simp)
    refine ⟨_, _, .tup (SqT.of (S9.st (s9 _ _ hq8))) (.cons (.str _) (.cons (dp_same e9 h1) (.cons (dp_same e9 h2) (.cons (dp_same e9 h3) .nil)))), .tup (SqT.of (S9.st h9)) (.cons (.str _) (.cons (dp_same e9 h1) (.cons (dp_same e9 h2) (.cons (dp_same e9 h3) .nil)))), fw.shaped (by decide), fw.shaped (by decide), ?_⟩
    rw [fw.self]
    refine ⟨ff, fun _ => ?_⟩
    have e9 := e7.trans (s8.trans s9)
    -- put
    refine ⟨[v1], [v2, v3], rfl, rfl, sz, fun p10 np10 => ?_⟩
    obtain ⟨G10, s10, S10, h10⟩ := Sep.mk (o := .tup [v2, v3]) S9 np10
    refine ⟨G10, _, rfl, S10, fun q11 G11 H11 s11 hq11 S11 => ⟨sz, fun t12 nt12 => ?_⟩⟩
    obtain ⟨G12, s12, S12, h12⟩ := Sep.mk (o := .tup [v2, v3]) S11 nt12
    refine ⟨sz, fun t13 nt13 => ?_⟩
    obtain ⟨G13, s13, S13, h13⟩ := Sep.mk (o := .tup [.str "put", v1, .ref t12]) S12 nt13
    have e13 := (e9.trans (s10.trans (s11.trans (s12.trans s13)))).trans S13.1
    have f23 : Fit 6006 4 (.tuple [d2, d3]) := fitN (dp := 3) (fun d hd => by
      simp only [List.mem_cons, List.not_mem_nil, or_false] at hd
      rcases hd with rfl | rfl
      · exact f2
      · exact f3) (by simp)
    have fp : Fit 20000 5 (.tuple [.str "put", d1, .tuple [d2, d3]]) := by
      refine (Fit.tups (w := 6006) (dp := 4) fun d hd => ?_).mono (by simp) (by decide)
      simp only [List.mem_cons, List.not_mem_nil, or_false] at hd
      rcases hd with rfl | rfl | rfl
      · exact (fz _ (by simp)).mono (by decide) (by decide)
      · exact f1.mono (by decide) (by decide)
      · exact f23
    refine ⟨_, _, .tup (SqT.of (S13.st (s13 _ _ (s12 _ _ hq11)))) (.cons (.str _) (.cons (dp_same e13 h1) (.cons (.tup (SqT.of (S13.st (s13 _ _ (s12 _ _ (s11 _ _ h10))))) (.cons (dp_same e13 h2) (.cons (dp_same e13 h3) .nil))) .nil))),
      .tup (SqT.of (S13.st h13)) (.cons (.str _) (.cons (dp_same e13 h1) (.cons (.tup (SqT.of (S13.st (s13 _ _ h12))) (.cons (dp_same e13 h2) (.cons (dp_same e13 h3) .nil))) .nil))), fp.shaped (by decide), fp.shaped (by decide), ?_⟩
    rw [fp.self]
    refine ⟨ff, fun _ => ?_⟩
    have e13 := e9.trans (s10.trans (s11.trans (s12.trans s13)))
    -- each
    refine ⟨[v3, v2, v1, v2], [v3], rfl, rfl, sz, fun p14 np14 => ?_⟩
    obtain ⟨G14, s14, S14, h14⟩ := Sep.mk (o := .tup [v3]) S13 np14
    refine ⟨G14, _, rfl, S14, fun q15 G15 H15 s15 hq15 S15 => ⟨sz, fun t16 nt16 => ?_⟩⟩
    obtain ⟨G16, s16, S16, h16⟩ := Sep.mk (o := .tup [v3]) S15 nt16
    refine ⟨sz, fun t17 nt17 => ?_⟩
    obtain ⟨G17, s17, S17, h17⟩ := Sep.mk (o := .tup [.str "each", v3, v2, v1, v2, .ref t16]) S16 nt17
    have e17 := (e13.trans (s14.trans (s15.trans (s16.trans s17)))).trans S17.1
    have f33 : Fit 6006 4 (.tuple [d3]) := fitN (dp := 3) (fun d hd => by
      simp only [List.mem_cons, List.not_mem_nil, or_false] at hd
      subst hd
      exact f3) (by simp)
    have fe : Fit 40000 5 (.tuple [.str "each", d3, d2, d1, d2, .tuple [d3]]) := by
      refine (Fit.tups (w := 6006) (dp := 4) fun d hd => ?_).mono (by simp) (by decide)
      simp only [List.mem_cons, List.not_mem_nil, or_false] at hd
      rcases hd with rfl | rfl | rfl | rfl | rfl | rfl
      · exact (fz _ (by simp)).mono (by decide) (by decide)
      · exact f3.mono (by decide) (by decide)
      · exact f2.mono (by decide) (by decide)
      · exact f1.mono (by decide) (by decide)
      · exact f2.mono (by decide) (by decide)
      · exact f33
    refine ⟨_, _, .tup (SqT.of (S17.st (s17 _ _ (s16 _ _ hq15)))) (.cons (.str _) (.cons (dp_same e17 h3) (.cons (dp_same e17 h2) (.cons (dp_same e17 h1) (.cons (dp_same e17 h2) (.cons (.tup (SqT.of (S17.st (s17 _ _ (s16 _ _ (s15 _ _ h14))))) (.cons (dp_same e17 h3) .nil)) .nil)))))),
      .tup (SqT.of (S17.st h17)) (.cons (.str _) (.cons (dp_same e17 h3) (.cons (dp_same e17 h2) (.cons (dp_same e17 h1) (.cons (dp_same e17 h2) (.cons (.tup (SqT.of (S17.st (s17 _ _ h16))) (.cons (dp_same e17 h3) .nil)) .nil)))))), fe.shaped (by decide), fe.shaped (by decide), ?_⟩
    rw [fe.self]
    refine ⟨ff, fun _ => ?_⟩
    have e17 := e13.trans (s14.trans (s15.trans (s16.trans s17)))
    -- row
    refine ⟨[], [v1, v3], rfl, rfl, sz, fun p18 np18 => ?_⟩
    obtain ⟨G18, s18, S18, h18⟩ := Sep.mk (o := .tup [v1, v3]) S17 np18
    refine ⟨G18, _, rfl, S18, fun q19 G19 H19 s19 hq19 S19 => ⟨sz, fun t20 nt20 => ?_⟩⟩
    obtain ⟨G20, s20, S20, h20⟩ := Sep.mk (o := .tup [v1, v3]) S19 nt20
    refine ⟨sz, fun t21 nt21 => ?_⟩
    obtain ⟨G21, s21, S21, h21⟩ := Sep.mk (o := .tup [.str "row", .ref t20]) S20 nt21
    have e21 := (e17.trans (s18.trans (s19.trans (s20.trans s21)))).trans S21.1
    have f13 : Fit 6006 4 (.tuple [d1, d3]) := fitN (dp := 3) (fun d hd => by
      simp only [List.mem_cons, List.not_mem_nil, or_false] at hd
      rcases hd with rfl | rfl
      · exact f1
      · exact f3) (by simp)
    have fr : Fit 40000 5 (.tuple [.str "row", .tuple [d1, d3]]) := by
      refine (Fit.tups (w := 6006) (dp := 4) fun d hd => ?_).mono (by simp) (by decide)
      simp only [List.mem_cons, List.not_mem_nil, or_false] at hd
      rcases hd with rfl | rfl
      · exact (fz _ (by simp)).mono (by decide) (by decide)
      · exact f13
    refine ⟨_, _, .tup (SqT.of (S21.st (s21 _ _ (s20 _ _ hq19)))) (.cons (.str _) (.cons (.tup (SqT.of (S21.st (s21 _ _ (s20 _ _ (s19 _ _ h18))))) (.cons (dp_same e21 h1) (.cons (dp_same e21 h3) .nil))) .nil)),
      .tup (SqT.of (S21.st h21)) (.cons (.str _) (.cons (.tup (SqT.of (S21.st (s21 _ _ h20))) (.cons (dp_same e21 h1) (.cons (dp_same e21 h3) .nil))) .nil)), fr.shaped (by decide), fr.shaped (by decide), ?_⟩
    rw [fr.self]
    refine ⟨fun _ => ?_, tt⟩
    have e21 := e17.trans (s18.trans (s19.trans (s20.trans s21)))
    -- col
    refine ⟨[], [v2], rfl, rfl, sz, fun p22 np22 => ?_⟩
    obtain ⟨G22, s22, S22, h22⟩ := Sep.mk (o := .tup [v2]) S21 np22
    refine ⟨G22, _, rfl, S22, fun q23 G23 H23 s23 hq23 S23 => ⟨sz, fun t24 nt24 => ?_⟩⟩
    obtain ⟨G24, s24, S24, h24⟩ := Sep.mk (o := .tup [v2]) S23 nt24
    refine ⟨sz, fun t25 nt25 => ?_⟩
    obtain ⟨G25, s25, S25, h25⟩ := Sep.mk (o := .tup [.str "col", .ref t24]) S24 nt25
    have e25 := (e21.trans (s22.trans (s23.trans (s24.trans s25)))).trans S25.1
    have f22 : Fit 6006 4 (.tuple [d2]) := fitN (dp := 3) (fun d hd => by
      simp only [List.mem_cons, List.not_mem_nil, or_false] at hd
      subst hd
      exact f2) (by simp)
    have fc : Fit 40000 5 (.tuple [.str "col", .tuple [d2]]) := by
      refine (Fit.tups (w := 6006) (dp := 4) fun d hd => ?_).mono (by simp) (by decide)
      simp only [List.mem_cons, List.not_mem_nil, or_false] at hd
      rcases hd with rfl | rfl
      · exact (fz _ (by simp)).mono (by decide) (by decide)
      · exact f22
    refine ⟨_, _, .tup (SqT.of (S25.st (s25 _ _ (s24 _ _ hq23)))) (.cons (.str _) (.cons (.tup (SqT.of (S25.st (s25 _ _ (s24 _ _ (s23 _ _ h22))))) (.cons (dp_same e25 h2) .nil)) .nil)),
      .tup (SqT.of (S25.st h25)) (.cons (.str _) (.cons (.tup (SqT.of (S25.st (s25 _ _ h24))) (.cons (dp_same e25 h2) .nil)) .nil)), fc.shaped (by decide), fc.shaped (by decide), ?_⟩
    rw [fc.self]
    exact q _

end
end K32
set_option Elab.async false
set_option linter.all false
set_option maxRecDepth 100000
set_option maxHeartbeats 4000000
namespace K32
open PySem PySem.Spec PyProof.Rows L2 XL
section
variable {P : Program} {w : World} {K : PySem.W.Frag} {mg : Str → Option Value} {base : Heap}
def spLaw (K : PySem.W.Frag) : Sp := fun vs H Q _ => ∃ (a : Addr) (ns : List Int), vs = [.ref a] ∧ SqL K H a (ns.map V.int) ∧ ns.length ≤ 63 ∧ ∀ H', Q (.bl true) H'
theorem fit_odd {z : Str} (h : (z.cps.toList.all fun c => decide (c < 1114112)) = true) (l : z.length ≤ 20) : Fit 100 3 (.str z) := (fw z 20 h l).mono (by decide) (by decide)
theorem fit_data {d : PyData} (h1 : d.canLay0 = true) (h2 : d.showable = true) (h3 : d.leavesShort 8 = true) (h4 : d.depth ≤ 3) (h5 : d.weight ≤ 100) : Fit 100 3 d := ⟨h1, h2, h3, h4, h5⟩
theorem ok_law (T : Top K mg w) (G_bag : FnOk P w K mg base CX0 1 T.a_bag T.d_bag ["_law_script"] (spBag K)) (G_pick : FnOk P w K mg base CX0 2 T.a_pick T.d_pick ["_law_bag_here", "_law_many"] spPick) (G_new_name : FnOk P w K mg base CX0 3 T.a_new_name T.d_new_name ["_law_bag_here", "_law_used"] spNew)
    (G_grown : FnOk P w K mg base CX0 14 T.a_grown T.d_grown ["_law_bag_here", "_law_used", "_law_readable", "_law_level", "_law_left"] (spGrown K 5)) (G_asked : FnG P w K mg base CX0 9 T.a_asked T.d_asked ["_law_shape"] (spAsked K)) (G_unchecked : FnOk P w K mg base CX0 5 T.a_unchecked T.d_unchecked ["_law_bag_here", "_law_odd"] (spUnch K)) :
    FnG P w K mg base CX0 15 T.a_law T.d_law ["_law_script"] (spLaw K) := by
  refine okG T.F_law sc_law (fun vs H Q E h => ?_) (fun cdv A outer s H vs Q E hr hg h => ?_)
  · obtain ⟨a, ns, rfl, _⟩ := h
    rfl
  · obtain ⟨a, ns, rfl, ha, hl, q⟩ := h
    refine ⟨_, (pss_cons (ps_set (i := 1) sc_law.nd rfl (.inr rfl) (pe_call G_bag (hr.mono (by omega)) (by rfl) T.g_bag T.F_bag.kp T.b_bag .nil pass0 (pa_cons (xv 0) pa_nil)))
      (pss_cons (ps_set (i := 2) sc_law.nd rfl (.inr rfl) (pe_lst pa_nil))
      (pss_cons (ps_for PassesOwn.never rfl (pi_range1 (by rfl) T.m_range (pa_cons pe_int pa_nil)) (pg_name (i := 3) sc_law.nd rfl (.inl rfl))
      (pss_one (ps_expr (pe_call G_new_name (hr.mono (by omega)) (by rfl) T.g_new_name T.F_new_name.kp T.b_new_name .nil pass0 (pa_cons (xv 1) (pa_cons (xv 2) pa_nil))))))
      (pss_cons (ps_setLc (i := 4) (own := [("_law_step", 3)]) (by rfl) sc_law.nd rfl rfl (sw_true rfl rfl rfl (by decide +kernel)) (pi_range1 (by rfl) T.m_range (pa_cons pe_int pa_nil)) (blkOk_by (N := ["_law_script", "_law_bag_here", "_law_used", "_law_step", "_law_readable", "_law_turn", "_law_left"]) (sc := defScope s_law) (by decide +kernel)) (fun _ _ _ _ _ => (pg_name (i := 3) sc_law.nd rfl (.inl rfl))) (fun _ _ _ _ _ => pts_nil) (fun _ _ _ _ _ => (pe_call G_new_name (hr.mono (by omega)) (by rfl) T.g_new_name T.F_new_name.kp T.b_new_name .nil pass0 (pa_cons (xv 1) (pa_cons (xv 2) pa_nil)))))
      (pss_cons (ps_for PassesOwn.never rfl (pi_range1 (by rfl) T.m_range (pa_cons pe_int pa_nil)) (pg_name (i := 5) sc_law.nd rfl (.inl rfl))
      (pss_cons (ps_set (i := 6) sc_law.nd rfl (.inl rfl) (pe_lst (pa_cons (pe_ix (ix_k K) (pe_lst (pa_cons pe_int (pa_cons pe_int (pa_cons pe_int (pa_cons (pe_call G_pick (hr.mono (by omega)) (by rfl) T.g_pick T.F_pick.kp T.b_pick .nil pass0 (pa_cons (xv 1) (pa_cons pe_int pa_nil))) pa_nil))))) (pe_call G_pick (hr.mono (by omega)) (by rfl) T.g_pick T.F_pick.kp T.b_pick .nil pass0 (pa_cons (xv 1) (pa_cons pe_int pa_nil))) (fun _ _ => rfl)) pa_nil)))
      (pss_one (xs_if (pt_not (xt_truK K (pe_callG G_asked (hr.mono (by omega)) hg (by rfl) T.g_asked T.F_asked.kp T.b_asked pass0 (pa_cons (pe_call G_grown (hr.mono (by omega)) (by rfl) T.g_grown T.F_grown.kp T.b_grown .nil pass0 (pa_cons (xv 1) (pa_cons (xv 2) (pa_cons (xv 4) (pa_cons pe_int (pa_cons (xv 6) pa_nil)))))) pa_nil))))
      (pss_one (ps_ret pe_bl))
      pss_nil))))
      (pss_one (ps_ret (pe_call G_unchecked (hr.mono (by omega)) (by rfl) T.g_unchecked T.F_unchecked.kp T.b_unchecked .nil pass0 (pa_cons (xv 1) (pa_cons (pe_lst (pa_cons pe_non (pa_cons (pe_tup pa_nil) (pa_cons pe_str (pa_cons (pe_un un_neg pe_int) (pa_cons (pe_tup (pa_cons pe_str pa_nil)) (pa_cons (pe_tup (pa_cons pe_str (pa_cons pe_int pa_nil))) (pa_cons pe_str (pa_cons (pe_lst (pa_cons pe_int pa_nil)) (pa_cons (pe_ix (ix_k K) (xv 2) pe_int (fun _ _ => rfl)) pa_nil)))))))))) pa_nil)))))))))), ?_⟩
    refine ⟨H, [], a, ns, rfl, sep0, ha, hl, fun b o1 G1 H1 _ B1 S1 => ⟨sz, fun lu nlu => ?_⟩⟩
    have S2 := (S1.new (o := .lst []) nlu).sw
    refine ⟨_, rfl, by decide, by decide, for_range (lo := 0) (n := 3) (fun i σ H' => ∃ (y3 : Option V) (o' : HO) (zs : List Str), σ = [some (.ref a), some (.ref b), some (.ref lu), y3, none, none, none] ∧ zs.length = i ∧ (∀ z ∈ zs, Lt 1 8 z) ∧ Bag G1 o' ∧ Sep G1 [(b, o'), (lu, .lst (zs.map V.str))] H') ⟨_, o1, [], rfl, rfl, (fun _ h => nomatch h), B1, S2⟩ (fun i σ H' hi h => ?_) (fun σ H3 h => ?_)⟩
    · obtain ⟨y3, o', zs, rfl, zl, hz, B', S'⟩ := h
      refine ⟨G1, _, b, o', lu, zs, rfl, S', B', hz, by omega, fun z o6 H6 ltz _ _ _ B6 S6 => ⟨_, o6, zs ++ [z], rfl, by rw [List.length_append, zl]; rfl, fun y hy => ?_, B6, S6⟩⟩
      rcases List.mem_append.mp hy with k | k
      · exact hz y k
      · rw [List.mem_singleton.mp k]
        exact ltz
    obtain ⟨y3, o3, zs, rfl, zl, hz, B3, S3⟩ := h
    refine ⟨_, rfl, by decide, by decide, fun D nD => lc_range (lo := 0) (n := (2 : Int).toNat) (fun i H' => ∃ (o' : HO) (us ys : List Str), us.length = 3 + i ∧ ys.length = i ∧ (∀ z ∈ us, Lt 1 8 z) ∧ (∀ z ∈ ys, Lt 1 8 z) ∧ Bag G1 o' ∧ Sep G1 [(D, .lst (ys.map V.str)), (b, o'), (lu, .lst (us.map V.str))] H') ⟨o3, zs, [], by rw [zl], rfl, hz, (fun _ h => nomatch h), B3, S3.new nD⟩ (fun i H' hi h => ?_) (fun H4 h => ?_)⟩
    · obtain ⟨o', us, ys, ul, yl, hu, hy, B', S'⟩ := h
      have hi2 : i < 2 := hi
      refine ⟨rfl, G1, _, b, o', lu, us, rfl, S'.perm (List.perm_append_comm_assoc [_] [_, _] []), B', hu, by omega, fun z o6 H6 ltz _ _ _ B6 S6 => ?_⟩
      have S7 := S6.perm (List.perm_append_comm_assoc [_, _] [_] [])
      refine ⟨_, S7.hd, smallL (by rw [List.length_map]; omega), o6, us ++ [z], ys ++ [z], by rw [List.length_append, ul]; rfl, by rw [List.length_append, yl]; rfl, fun y h => ?_, fun y h => ?_, B6, ?_⟩
      · rcases List.mem_append.mp h with k | k
        · exact hu y k
        · rw [List.mem_singleton.mp k]
          exact ltz
      · rcases List.mem_append.mp h with k | k
        · exact hy y k
        · rw [List.mem_singleton.mp k]
          exact ltz
      · rw [List.map_append (l₁ := ys)]
        exact S7.set
    obtain ⟨o4, us, rs, ul, rl, hu, hrs, B4, S4⟩ := h
    have ul : us.length = 5 := ul
    have rl : rs.length = 2 := rl
    have S5 := S4.frz.sw.frz
    have s5 := S4.frzS.trans S4.frz.sw.frzS
    generalize hG5 : upd (upd G1 D (.lst (rs.map V.str))) lu (.lst (us.map V.str)) = G5 at S5 s5
    have hlu : G5 lu = some (.lst (us.map V.str)) := by rw [← hG5]; exact upd_same
    have hD : G5 D = some (.lst (rs.map V.str)) := by rw [← hG5]; exact S4.frz.sw.frzS _ _ upd_same
    have nm : Nms G5 lu D us rs := ⟨hlu, hD, by omega, by omega, by omega, by omega, hu, hrs⟩
    have B5 := B4.same s5
    refine ⟨_, rfl, by decide, by decide, for_range (lo := 0) (n := 3) (fun i σ H' => ∃ (y3 y5 y6 : Option V) (o' : HO) (G' : Hp), σ = [some (.ref a), some (.ref b), some (.ref lu), y3, some (.ref D), y5, y6] ∧ Same G5 G' ∧ Bag G' o' ∧ Sep G' [(b, o')] H') ⟨_, _, _, o4, G5, rfl, Same.refl _, B5, S5⟩ (fun i σ H' hi h => ?_) (fun σ H6 h => ?_)⟩
    · obtain ⟨y3, y5, y6, o6, G6, rfl, s6, B6, S6⟩ := h
      refine ⟨G6, _, b, o6, 16, rfl, S6, B6, by decide, by decide, fun r7 o7 H7 r70 r71 B7 S7 => ⟨sz, fun l8 nl8 => ?_⟩⟩
      obtain ⟨G8, s8, S8, h8⟩ := Sep.mk (o := .lst [.int 15, .int 15, .int 8, .int r7]) S7 nl8
      refine ⟨G8, _, b, o7, 4, rfl, S8, B7.same s8, by decide, by decide, fun r9 o9 H9 r90 r91 B9 S9 => ?_⟩
      obtain ⟨m, hm, m0, m15⟩ : ∃ m : Int, atI [V.int 15, .int 15, .int 8, .int r7] r9 = some (.int m) ∧ 0 ≤ m ∧ m ≤ 15 := by
        rcases (by omega : r9 = 0 ∨ r9 = 1 ∨ r9 = 2 ∨ r9 = 3) with rfl | rfl | rfl | rfl
        · exact ⟨_, atI_nat (j := 0) rfl, by decide, by decide⟩
        · exact ⟨_, atI_nat (j := 1) rfl, by decide, by decide⟩
        · exact ⟨_, atI_nat (j := 2) rfl, by decide, by decide⟩
        · exact ⟨_, atI_nat (j := 3) rfl, r70, by omega⟩
      refine ⟨_, _, .inl (SqL.of (S9.st h8)), hm, sz, fun lf nlf => ?_⟩
      have S10 := (S9.new (o := .lst [.int m]) nlf).sw
      refine ⟨G8, [], b, o9, lu, D, lf, us, rs, 1, m, rfl, S10, B9, nm.same (s6.trans s8), m0, m15, by decide, by decide, by decide, fun v s11 m11 o11 G11 H11 e11 hv ok hg11 m110 hm11 B11 S11 => ?_⟩
      refine ⟨G11, _, v, s11, rfl, S11, hv, ok, hg11, by omega, fun G12 H12 s12 S12 => ⟨ff, fun _ => ?_⟩⟩
      exact ⟨_, _, _, o11, G12, rfl, s6.trans (s8.trans (e11.trans s12)), B11.same s12, S12.sw.drop⟩
    obtain ⟨y3, y5, y6, o6, G6, rfl, s6, B6, S6⟩ := h
    obtain ⟨z0, zr, euz⟩ : ∃ z0 zr, us = z0 :: zr := List.exists_cons_of_ne_nil (fun e => by rw [e] at ul; cases ul)
    refine ⟨sz, fun p1 n1 => ?_⟩
    obtain ⟨G7, s7, S7, h7⟩ := Sep.mk (o := .tup []) S6 n1
    refine ⟨3, rfl, sz, fun p2 n2 => ?_⟩
    obtain ⟨G8, s8, S8, h8⟩ := Sep.mk (o := .tup [.str "text"]) S7 n2
    refine ⟨sz, fun p3 n3 => ?_⟩
    obtain ⟨G9, s9, S9, h9⟩ := Sep.mk (o := .tup [.str "is", .int 12]) S8 n3
    refine ⟨sz, fun p4 n4 => ?_⟩
    obtain ⟨G10, s10, S10, h10⟩ := Sep.mk (o := .lst [.int 5]) S9 n4
    have s610 := s7.trans (s8.trans (s9.trans s10))
    refine ⟨_, _, .inl (SqL.of (S10.st (s610 _ _ (s6 _ _ hlu)))), (show atI (us.map V.str) 0 = some (.str z0) by rw [euz]; exact atI_nat (j := 0) rfl), sz, fun p5 n5 => ?_⟩
    obtain ⟨G11, s11, S11, h11⟩ := Sep.mk (o := .lst [.non, .ref p1, .str "Two words", .int (-3), .ref p2, .ref p3, .str "", .ref p4, .str z0]) S10 n5
    refine ⟨G11, _, b, o6, p5, _, rfl, S11, B6.same (s610.trans s11), h11, by simp, by simp, fun x hx => ?_, q⟩
    simp only [List.mem_cons, List.not_mem_nil, or_false] at hx
    rcases hx with rfl | rfl | rfl | rfl | rfl | rfl | rfl | rfl | rfl
    · exact ⟨_, .non, fit_data (by decide) (by decide) (by decide) (by decide) (by decide)⟩
    · exact ⟨_, .tup (SqT.of (s11 _ _ (s10 _ _ (s9 _ _ (s8 _ _ h7))))) .nil, fit_data (by decide) (by decide) (by decide) (by decide) (by decide)⟩
    · exact ⟨_, .str _, fit_odd (by decide +kernel) (by decide +kernel)⟩
    · exact ⟨_, .int _, fit_data (by decide) (by decide +kernel) (by decide +kernel) (by decide) (by decide +kernel)⟩
    · exact ⟨_, .tup (SqT.of (s11 _ _ (s10 _ _ (s9 _ _ h8)))) (.cons (.str _) .nil), fit_data (by decide +kernel) (by decide +kernel) (by decide +kernel) (by decide +kernel) (by decide +kernel)⟩
    · exact ⟨_, .tup (SqT.of (s11 _ _ (s10 _ _ h9))) (.cons (.str _) (.cons (.int _) .nil)), fit_data (by decide +kernel) (by decide +kernel) (by decide +kernel) (by decide +kernel) (by decide +kernel)⟩
    · exact ⟨_, .str _, fit_odd (by decide +kernel) (by decide +kernel)⟩
    · exact ⟨_, .lst (SqL.of (s11 _ _ h10)) (.cons (.int _) .nil), fit_data (by decide +kernel) (by decide +kernel) (by decide +kernel) (by decide +kernel) (by decide +kernel)⟩
    · exact ⟨_, .str _, (Fit.name (hu z0 (by rw [euz]; simp))).mono (by decide) (by decide)⟩
end
end K32
set_option Elab.async false
set_option linter.all false
set_option maxRecDepth 100000
set_option maxHeartbeats 4000000
namespace K32
open PySem PySem.Spec PyProof.Rows L2 XL
section
theorem law_end {l : PySem.W.OpenLaw} {w : World} {K : PySem.W.Frag} {h : Heap} {mg : Str → Option Value} {fa f : Addr} (X : K.In h) (G : h.Ns mainGlobals mg) (hfa : mg "law" = some (.ref fa))
    (t : ∃ T : Top K mg w, T.a_law = f ∧ ∀ (s : Shared) (v : Value), BindsTo s T.d_law ⟨[v], []⟩ [("_law_script", v)]) :
    ∃ fd : FuncData, (∀ (s : Shared) (v : Value), BindsTo s fd ⟨[v], []⟩ [("_law_script", v)]) ∧ ∀ base : Heap, K.In base → base.Ns mainGlobals mg → FnG l.prog w K mg base CX0 15 fa fd ["_law_script"] (spLaw K) := by
  obtain ⟨T, _, hb⟩ := t
  have e := hfa.symm.trans T.g_law
  cases e
  refine ⟨T.d_law, hb, fun base _ _ => ?_⟩
  have Gm : FnOk l.prog w K mg base CX0 1 T.a_mixed T.d_mixed _ spMixed := ok_mixed T
  have Gp := ok_pick T Gm
  have Gc := ok_choice T Gp
  have Gmi := ok_mingled T Gp
  have Gs := ok_simple T Gp Gc
  have Gl := ok_leaf T Gp Gc (ok_row T Gp Gmi) (Gs 2) (Gs 3)
  have Gg := ok_grown T Gp (Gs 3) Gl 5
  have Gps : FnOk l.prog w K mg base CX0 1 T.a_part_shapes T.d_part_shapes _ (spParts K) := ok_part_shapes T
  have Gpa : FnOk l.prog w K mg base CX0 1 T.a_parts T.d_parts _ (spLParts K) := ok_parts T
  have Gt : FnOk l.prog w K mg base CX0 1 T.a_text_shape T.d_text_shape _ (spB 1 "text") := ok_text_shape T
  have Gb : FnOk l.prog w K mg base CX0 1 T.a_button_shape T.d_button_shape _ (spB 1 "button") := ok_button_shape T
  have Gw : FnOk l.prog w K mg base CX0 1 T.a_when_shape T.d_when_shape _ (spB 3 "when") := ok_when_shape T
  have Gr : FnR l.prog w K mg base CX0 1 T.a_row_shape (spS 0 (spB 1 "row")) := ok_row_shape T
  have Gco : FnR l.prog w K mg base CX0 1 T.a_col_shape (spS 0 (spB 1 "col")) := ok_col_shape T
  have Gpu : FnR l.prog w K mg base CX0 1 T.a_put_shape (spS 1 (spB 2 "put")) := ok_put_shape T
  have Ge : FnR l.prog w K mg base CX0 1 T.a_each_shape (spS 4 (spB 5 "each")) := ok_each_shape T
  have Gbu := ok_built T Gt Gb Gw (ok_sown T (k := 0) Gpu) (ok_listed T (k := 0) Ge) (ok_lined T (k := 0) Gr Gco) 5
  exact ok_law T (ok_bag T) Gp (ok_new_name T Gp) Gg (ok_asked T (ok_law_numbered T Gpa 5) Gbu (ok_numbered T Gps 5) (ok_levels T Gps 5) (ok_high T Gpa 5) (ok_number T)) (ok_unchecked T Gc Gt Gb Gw Gr Gco Gpu Ge)
end
theorem top_mk {K : PySem.W.Frag} {W : World} {h : Heap} {mg : Str → Option Value} (X : K.In h) (G : h.Ns mainGlobals mg)
    {f0 : Addr} {od0 an0 : Option Addr} {sl0 : Array (Option Value)} {oc0 kV0 dc0 pm0 cd0 ct0 : Value}
    (a0 : PySem.W.nsIn K mainGlobals "text_shape" = some (some (.ref f0)))
    (l0 : K.lookup f0 = some ⟨oc0, od0, .func (PySem.W.fnOf "text_shape" "text_shape" (defArgs s_text_shape) (defBody s_text_shape) (defScope s_text_shape) .none kV0 dc0 pm0 an0 cd0 ct0), sl0⟩)
    (c0 : PySem.W.codeIn K cd0 "text_shape" = true)
    (k0 : PySem.W.keepIn K (.ref f0) = true)
    {f1 : Addr} {od1 an1 : Option Addr} {sl1 : Array (Option Value)} {oc1 kV1 dc1 pm1 cd1 ct1 : Value}
    (a1 : PySem.W.nsIn K mainGlobals "button_shape" = some (some (.ref f1)))
    (l1 : K.lookup f1 = some ⟨oc1, od1, .func (PySem.W.fnOf "button_shape" "button_shape" (defArgs s_button_shape) (defBody s_button_shape) (defScope s_button_shape) .none kV1 dc1 pm1 an1 cd1 ct1), sl1⟩)
    (c1 : PySem.W.codeIn K cd1 "button_shape" = true)
    (k1 : PySem.W.keepIn K (.ref f1) = true)
    {f2 : Addr} {od2 an2 : Option Addr} {sl2 : Array (Option Value)} {oc2 kV2 dc2 pm2 cd2 ct2 : Value}
    (a2 : PySem.W.nsIn K mainGlobals "row_shape" = some (some (.ref f2)))
    (l2 : K.lookup f2 = some ⟨oc2, od2, .func (PySem.W.fnOf "row_shape" "row_shape" (defArgs s_row_shape) (defBody s_row_shape) (defScope s_row_shape) .none kV2 dc2 pm2 an2 cd2 ct2), sl2⟩)
    (c2 : PySem.W.codeIn K cd2 "row_shape" = true)
    (k2 : PySem.W.keepIn K (.ref f2) = true)
    {f3 : Addr} {od3 an3 : Option Addr} {sl3 : Array (Option Value)} {oc3 kV3 dc3 pm3 cd3 ct3 : Value}
    (a3 : PySem.W.nsIn K mainGlobals "col_shape" = some (some (.ref f3)))
    (l3 : K.lookup f3 = some ⟨oc3, od3, .func (PySem.W.fnOf "col_shape" "col_shape" (defArgs s_col_shape) (defBody s_col_shape) (defScope s_col_shape) .none kV3 dc3 pm3 an3 cd3 ct3), sl3⟩)
    (c3 : PySem.W.codeIn K cd3 "col_shape" = true)
    (k3 : PySem.W.keepIn K (.ref f3) = true)
    {f4 : Addr} {od4 an4 : Option Addr} {sl4 : Array (Option Value)} {oc4 kV4 dc4 pm4 cd4 ct4 : Value}
    (a4 : PySem.W.nsIn K mainGlobals "when_shape" = some (some (.ref f4)))
    (l4 : K.lookup f4 = some ⟨oc4, od4, .func (PySem.W.fnOf "when_shape" "when_shape" (defArgs s_when_shape) (defBody s_when_shape) (defScope s_when_shape) .none kV4 dc4 pm4 an4 cd4 ct4), sl4⟩)
    (c4 : PySem.W.codeIn K cd4 "when_shape" = true)
    (k4 : PySem.W.keepIn K (.ref f4) = true)
    {f5 : Addr} {od5 an5 : Option Addr} {sl5 : Array (Option Value)} {oc5 kV5 dc5 pm5 cd5 ct5 : Value}
    (a5 : PySem.W.nsIn K mainGlobals "put_shape" = some (some (.ref f5)))
    (l5 : K.lookup f5 = some ⟨oc5, od5, .func (PySem.W.fnOf "put_shape" "put_shape" (defArgs s_put_shape) (defBody s_put_shape) (defScope s_put_shape) .none kV5 dc5 pm5 an5 cd5 ct5), sl5⟩)
    (c5 : PySem.W.codeIn K cd5 "put_shape" = true)
    (k5 : PySem.W.keepIn K (.ref f5) = true)
    {f6 : Addr} {od6 an6 : Option Addr} {sl6 : Array (Option Value)} {oc6 kV6 dc6 pm6 cd6 ct6 : Value}
    (a6 : PySem.W.nsIn K mainGlobals "each_shape" = some (some (.ref f6)))
    (l6 : K.lookup f6 = some ⟨oc6, od6, .func (PySem.W.fnOf "each_shape" "each_shape" (defArgs s_each_shape) (defBody s_each_shape) (defScope s_each_shape) .none kV6 dc6 pm6 an6 cd6 ct6), sl6⟩)
    (c6 : PySem.W.codeIn K cd6 "each_shape" = true)
    (k6 : PySem.W.keepIn K (.ref f6) = true)
    {f7 : Addr} {od7 an7 : Option Addr} {sl7 : Array (Option Value)} {oc7 kV7 dc7 pm7 cd7 ct7 : Value}
    (a7 : PySem.W.nsIn K mainGlobals "part_shapes" = some (some (.ref f7)))
    (l7 : K.lookup f7 = some ⟨oc7, od7, .func (PySem.W.fnOf "part_shapes" "part_shapes" (defArgs s_part_shapes) (defBody s_part_shapes) (defScope s_part_shapes) .none kV7 dc7 pm7 an7 cd7 ct7), sl7⟩)
    (c7 : PySem.W.codeIn K cd7 "part_shapes" = true)
    (k7 : PySem.W.keepIn K (.ref f7) = true)
    {f8 : Addr} {od8 an8 : Option Addr} {sl8 : Array (Option Value)} {oc8 kV8 dc8 pm8 cd8 ct8 : Value}
    (a8 : PySem.W.nsIn K mainGlobals "numbered" = some (some (.ref f8)))
    (l8 : K.lookup f8 = some ⟨oc8, od8, .func (PySem.W.fnOf "numbered" "numbered" (defArgs s_numbered) (defBody s_numbered) (defScope s_numbered) .none kV8 dc8 pm8 an8 cd8 ct8), sl8⟩)
    (c8 : PySem.W.codeIn K cd8 "numbered" = true)
    (k8 : PySem.W.keepIn K (.ref f8) = true)
    {f9 : Addr} {od9 an9 : Option Addr} {sl9 : Array (Option Value)} {oc9 kV9 dc9 pm9 cd9 ct9 : Value}
    (a9 : PySem.W.nsIn K mainGlobals "levels" = some (some (.ref f9)))
    (l9 : K.lookup f9 = some ⟨oc9, od9, .func (PySem.W.fnOf "levels" "levels" (defArgs s_levels) (defBody s_levels) (defScope s_levels) .none kV9 dc9 pm9 an9 cd9 ct9), sl9⟩)
    (c9 : PySem.W.codeIn K cd9 "levels" = true)
    (k9 : PySem.W.keepIn K (.ref f9) = true)
    {f10 : Addr} {od10 an10 : Option Addr} {sl10 : Array (Option Value)} {oc10 kV10 dc10 pm10 cd10 ct10 : Value}
    (a10 : PySem.W.nsIn K mainGlobals "_law_mixed" = some (some (.ref f10)))
    (l10 : K.lookup f10 = some ⟨oc10, od10, .func (PySem.W.fnOf "_law_mixed" "_law_mixed" (defArgs s_mixed) (defBody s_mixed) (defScope s_mixed) .none kV10 dc10 pm10 an10 cd10 ct10), sl10⟩)
    (c10 : PySem.W.codeIn K cd10 "_law_mixed" = true)
    (k10 : PySem.W.keepIn K (.ref f10) = true)
    {f11 : Addr} {od11 an11 : Option Addr} {sl11 : Array (Option Value)} {oc11 kV11 dc11 pm11 cd11 ct11 : Value}
    (a11 : PySem.W.nsIn K mainGlobals "_law_bag" = some (some (.ref f11)))
    (l11 : K.lookup f11 = some ⟨oc11, od11, .func (PySem.W.fnOf "_law_bag" "_law_bag" (defArgs s_bag) (defBody s_bag) (defScope s_bag) .none kV11 dc11 pm11 an11 cd11 ct11), sl11⟩)
    (c11 : PySem.W.codeIn K cd11 "_law_bag" = true)
    (k11 : PySem.W.keepIn K (.ref f11) = true)
    {f12 : Addr} {od12 an12 : Option Addr} {sl12 : Array (Option Value)} {oc12 kV12 dc12 pm12 cd12 ct12 : Value}
    (a12 : PySem.W.nsIn K mainGlobals "_law_pick" = some (some (.ref f12)))
    (l12 : K.lookup f12 = some ⟨oc12, od12, .func (PySem.W.fnOf "_law_pick" "_law_pick" (defArgs s_pick) (defBody s_pick) (defScope s_pick) .none kV12 dc12 pm12 an12 cd12 ct12), sl12⟩)
    (c12 : PySem.W.codeIn K cd12 "_law_pick" = true)
    (k12 : PySem.W.keepIn K (.ref f12) = true)
    {f13 : Addr} {od13 an13 : Option Addr} {sl13 : Array (Option Value)} {oc13 kV13 dc13 pm13 cd13 ct13 : Value}
    (a13 : PySem.W.nsIn K mainGlobals "_law_choice" = some (some (.ref f13)))
    (l13 : K.lookup f13 = some ⟨oc13, od13, .func (PySem.W.fnOf "_law_choice" "_law_choice" (defArgs s_choice) (defBody s_choice) (defScope s_choice) .none kV13 dc13 pm13 an13 cd13 ct13), sl13⟩)
    (c13 : PySem.W.codeIn K cd13 "_law_choice" = true)
    (k13 : PySem.W.keepIn K (.ref f13) = true)
    {f14 : Addr} {od14 an14 : Option Addr} {sl14 : Array (Option Value)} {oc14 kV14 dc14 pm14 cd14 ct14 : Value}
    (a14 : PySem.W.nsIn K mainGlobals "_law_mingled" = some (some (.ref f14)))
    (l14 : K.lookup f14 = some ⟨oc14, od14, .func (PySem.W.fnOf "_law_mingled" "_law_mingled" (defArgs s_mingled) (defBody s_mingled) (defScope s_mingled) .none kV14 dc14 pm14 an14 cd14 ct14), sl14⟩)
    (c14 : PySem.W.codeIn K cd14 "_law_mingled" = true)
    (k14 : PySem.W.keepIn K (.ref f14) = true)
    {f15 : Addr} {od15 an15 : Option Addr} {sl15 : Array (Option Value)} {oc15 kV15 dc15 pm15 cd15 ct15 : Value}
    (a15 : PySem.W.nsIn K mainGlobals "_law_number" = some (some (.ref f15)))
    (l15 : K.lookup f15 = some ⟨oc15, od15, .func (PySem.W.fnOf "_law_number" "_law_number" (defArgs s_number) (defBody s_number) (defScope s_number) .none kV15 dc15 pm15 an15 cd15 ct15), sl15⟩)
    (c15 : PySem.W.codeIn K cd15 "_law_number" = true)
    (k15 : PySem.W.keepIn K (.ref f15) = true)
    {f16 : Addr} {od16 an16 : Option Addr} {sl16 : Array (Option Value)} {oc16 kV16 dc16 pm16 cd16 ct16 : Value}
    (a16 : PySem.W.nsIn K mainGlobals "_law_new_name" = some (some (.ref f16)))
    (l16 : K.lookup f16 = some ⟨oc16, od16, .func (PySem.W.fnOf "_law_new_name" "_law_new_name" (defArgs s_new_name) (defBody s_new_name) (defScope s_new_name) .none kV16 dc16 pm16 an16 cd16 ct16), sl16⟩)
    (c16 : PySem.W.codeIn K cd16 "_law_new_name" = true)
    (k16 : PySem.W.keepIn K (.ref f16) = true)
    {f17 : Addr} {od17 an17 : Option Addr} {sl17 : Array (Option Value)} {oc17 kV17 dc17 pm17 cd17 ct17 : Value}
    (a17 : PySem.W.nsIn K mainGlobals "_law_parts" = some (some (.ref f17)))
    (l17 : K.lookup f17 = some ⟨oc17, od17, .func (PySem.W.fnOf "_law_parts" "_law_parts" (defArgs s_parts) (defBody s_parts) (defScope s_parts) .none kV17 dc17 pm17 an17 cd17 ct17), sl17⟩)
    (c17 : PySem.W.codeIn K cd17 "_law_parts" = true)
    (k17 : PySem.W.keepIn K (.ref f17) = true)
    {f18 : Addr} {od18 an18 : Option Addr} {sl18 : Array (Option Value)} {oc18 kV18 dc18 pm18 cd18 ct18 : Value}
    (a18 : PySem.W.nsIn K mainGlobals "_law_numbered" = some (some (.ref f18)))
    (l18 : K.lookup f18 = some ⟨oc18, od18, .func (PySem.W.fnOf "_law_numbered" "_law_numbered" (defArgs s_law_numbered) (defBody s_law_numbered) (defScope s_law_numbered) .none kV18 dc18 pm18 an18 cd18 ct18), sl18⟩)
    (c18 : PySem.W.codeIn K cd18 "_law_numbered" = true)
    (k18 : PySem.W.keepIn K (.ref f18) = true)
    {f19 : Addr} {od19 an19 : Option Addr} {sl19 : Array (Option Value)} {oc19 kV19 dc19 pm19 cd19 ct19 : Value}
    (a19 : PySem.W.nsIn K mainGlobals "_law_row" = some (some (.ref f19)))
    (l19 : K.lookup f19 = some ⟨oc19, od19, .func (PySem.W.fnOf "_law_row" "_law_row" (defArgs s_row) (defBody s_row) (defScope s_row) .none kV19 dc19 pm19 an19 cd19 ct19), sl19⟩)
    (c19 : PySem.W.codeIn K cd19 "_law_row" = true)
    (k19 : PySem.W.keepIn K (.ref f19) = true)
    {f20 : Addr} {od20 an20 : Option Addr} {sl20 : Array (Option Value)} {oc20 kV20 dc20 pm20 cd20 ct20 : Value}
    (a20 : PySem.W.nsIn K mainGlobals "_law_simple" = some (some (.ref f20)))
    (l20 : K.lookup f20 = some ⟨oc20, od20, .func (PySem.W.fnOf "_law_simple" "_law_simple" (defArgs s_simple) (defBody s_simple) (defScope s_simple) .none kV20 dc20 pm20 an20 cd20 ct20), sl20⟩)
    (c20 : PySem.W.codeIn K cd20 "_law_simple" = true)
    (k20 : PySem.W.keepIn K (.ref f20) = true)
    {f21 : Addr} {od21 an21 : Option Addr} {sl21 : Array (Option Value)} {oc21 kV21 dc21 pm21 cd21 ct21 : Value}
    (a21 : PySem.W.nsIn K mainGlobals "_law_leaf" = some (some (.ref f21)))
    (l21 : K.lookup f21 = some ⟨oc21, od21, .func (PySem.W.fnOf "_law_leaf" "_law_leaf" (defArgs s_leaf) (defBody s_leaf) (defScope s_leaf) .none kV21 dc21 pm21 an21 cd21 ct21), sl21⟩)
    (c21 : PySem.W.codeIn K cd21 "_law_leaf" = true)
    (k21 : PySem.W.keepIn K (.ref f21) = true)
    {f22 : Addr} {od22 an22 : Option Addr} {sl22 : Array (Option Value)} {oc22 kV22 dc22 pm22 cd22 ct22 : Value}
    (a22 : PySem.W.nsIn K mainGlobals "_law_grown" = some (some (.ref f22)))
    (l22 : K.lookup f22 = some ⟨oc22, od22, .func (PySem.W.fnOf "_law_grown" "_law_grown" (defArgs s_grown) (defBody s_grown) (defScope s_grown) .none kV22 dc22 pm22 an22 cd22 ct22), sl22⟩)
    (c22 : PySem.W.codeIn K cd22 "_law_grown" = true)
    (k22 : PySem.W.keepIn K (.ref f22) = true)
    {f23 : Addr} {od23 an23 : Option Addr} {sl23 : Array (Option Value)} {oc23 kV23 dc23 pm23 cd23 ct23 : Value}
    (a23 : PySem.W.nsIn K mainGlobals "_law_lined" = some (some (.ref f23)))
    (l23 : K.lookup f23 = some ⟨oc23, od23, .func (PySem.W.fnOf "_law_lined" "_law_lined" (defArgs s_lined) (defBody s_lined) (defScope s_lined) .none kV23 dc23 pm23 an23 cd23 ct23), sl23⟩)
    (c23 : PySem.W.codeIn K cd23 "_law_lined" = true)
    (k23 : PySem.W.keepIn K (.ref f23) = true)
    {f24 : Addr} {od24 an24 : Option Addr} {sl24 : Array (Option Value)} {oc24 kV24 dc24 pm24 cd24 ct24 : Value}
    (a24 : PySem.W.nsIn K mainGlobals "_law_sown" = some (some (.ref f24)))
    (l24 : K.lookup f24 = some ⟨oc24, od24, .func (PySem.W.fnOf "_law_sown" "_law_sown" (defArgs s_sown) (defBody s_sown) (defScope s_sown) .none kV24 dc24 pm24 an24 cd24 ct24), sl24⟩)
    (c24 : PySem.W.codeIn K cd24 "_law_sown" = true)
    (k24 : PySem.W.keepIn K (.ref f24) = true)
    {f25 : Addr} {od25 an25 : Option Addr} {sl25 : Array (Option Value)} {oc25 kV25 dc25 pm25 cd25 ct25 : Value}
    (a25 : PySem.W.nsIn K mainGlobals "_law_listed" = some (some (.ref f25)))
    (l25 : K.lookup f25 = some ⟨oc25, od25, .func (PySem.W.fnOf "_law_listed" "_law_listed" (defArgs s_listed) (defBody s_listed) (defScope s_listed) .none kV25 dc25 pm25 an25 cd25 ct25), sl25⟩)
    (c25 : PySem.W.codeIn K cd25 "_law_listed" = true)
    (k25 : PySem.W.keepIn K (.ref f25) = true)
    {f26 : Addr} {od26 an26 : Option Addr} {sl26 : Array (Option Value)} {oc26 kV26 dc26 pm26 cd26 ct26 : Value}
    (a26 : PySem.W.nsIn K mainGlobals "_law_built" = some (some (.ref f26)))
    (l26 : K.lookup f26 = some ⟨oc26, od26, .func (PySem.W.fnOf "_law_built" "_law_built" (defArgs s_built) (defBody s_built) (defScope s_built) .none kV26 dc26 pm26 an26 cd26 ct26), sl26⟩)
    (c26 : PySem.W.codeIn K cd26 "_law_built" = true)
    (k26 : PySem.W.keepIn K (.ref f26) = true)
    {f27 : Addr} {od27 an27 : Option Addr} {sl27 : Array (Option Value)} {oc27 kV27 dc27 pm27 cd27 ct27 : Value}
    (a27 : PySem.W.nsIn K mainGlobals "_law_high" = some (some (.ref f27)))
    (l27 : K.lookup f27 = some ⟨oc27, od27, .func (PySem.W.fnOf "_law_high" "_law_high" (defArgs s_high) (defBody s_high) (defScope s_high) .none kV27 dc27 pm27 an27 cd27 ct27), sl27⟩)
    (c27 : PySem.W.codeIn K cd27 "_law_high" = true)
    (k27 : PySem.W.keepIn K (.ref f27) = true)
    {f28 : Addr} {od28 an28 : Option Addr} {sl28 : Array (Option Value)} {oc28 kV28 dc28 pm28 cd28 ct28 : Value}
    (a28 : PySem.W.nsIn K mainGlobals "_law_asked" = some (some (.ref f28)))
    (l28 : K.lookup f28 = some ⟨oc28, od28, .func (PySem.W.fnOf "_law_asked" "_law_asked" (defArgs s_asked) (defBody s_asked) (defScope s_asked) .none kV28 dc28 pm28 an28 cd28 ct28), sl28⟩)
    (c28 : PySem.W.codeIn K cd28 "_law_asked" = true)
    (k28 : PySem.W.keepIn K (.ref f28) = true)
    {f29 : Addr} {od29 an29 : Option Addr} {sl29 : Array (Option Value)} {oc29 kV29 dc29 pm29 cd29 ct29 : Value}
    (a29 : PySem.W.nsIn K mainGlobals "_law_unchecked" = some (some (.ref f29)))
    (l29 : K.lookup f29 = some ⟨oc29, od29, .func (PySem.W.fnOf "_law_unchecked" "_law_unchecked" (defArgs s_unchecked) (defBody s_unchecked) (defScope s_unchecked) .none kV29 dc29 pm29 an29 cd29 ct29), sl29⟩)
    (c29 : PySem.W.codeIn K cd29 "_law_unchecked" = true)
    (k29 : PySem.W.keepIn K (.ref f29) = true)
    {f30 : Addr} {od30 an30 : Option Addr} {sl30 : Array (Option Value)} {oc30 kV30 dc30 pm30 cd30 ct30 : Value}
    (a30 : PySem.W.nsIn K mainGlobals "law" = some (some (.ref f30)))
    (l30 : K.lookup f30 = some ⟨oc30, od30, .func (PySem.W.fnOf "law" "law" (defArgs s_law) (defBody s_law) (defScope s_law) .none kV30 dc30 pm30 an30 cd30 ct30), sl30⟩)
    (c30 : PySem.W.codeIn K cd30 "law" = true)
    (k30 : PySem.W.keepIn K (.ref f30) = true)
    (z0 : PySem.W.nsIn K mainGlobals "abs" = some none)
    (z1 : PySem.W.nsIn K mainGlobals "bool" = some none)
    (z2 : PySem.W.nsIn K mainGlobals "enumerate" = some none)
    (z3 : PySem.W.nsIn K mainGlobals "int" = some none)
    (z4 : PySem.W.nsIn K mainGlobals "isinstance" = some none)
    (z5 : PySem.W.nsIn K mainGlobals "len" = some none)
    (z6 : PySem.W.nsIn K mainGlobals "list" = some none)
    (z7 : PySem.W.nsIn K mainGlobals "min" = some none)
    (z8 : PySem.W.nsIn K mainGlobals "range" = some none)
    (z9 : PySem.W.nsIn K mainGlobals "repr" = some none)
    (z10 : PySem.W.nsIn K mainGlobals "tuple" = some none)
    : ∃ T : Top K mg W, T.a_law = f30 ∧ ∀ (s : Shared) (v : Value), BindsTo s T.d_law ⟨[v], []⟩ [("_law_script", v)] := by
  have F0 := fun_mk (st := s_text_shape) l0 c0 k0
  have F1 := fun_mk (st := s_button_shape) l1 c1 k1
  have F2 := fun_mk (st := s_row_shape) l2 c2 k2
  have F3 := fun_mk (st := s_col_shape) l3 c3 k3
  have F4 := fun_mk (st := s_when_shape) l4 c4 k4
  have F5 := fun_mk (st := s_put_shape) l5 c5 k5
  have F6 := fun_mk (st := s_each_shape) l6 c6 k6
  have F7 := fun_mk (st := s_part_shapes) l7 c7 k7
  have F8 := fun_mk (st := s_numbered) l8 c8 k8
  have F9 := fun_mk (st := s_levels) l9 c9 k9
  have F10 := fun_mk (st := s_mixed) l10 c10 k10
  have F11 := fun_mk (st := s_bag) l11 c11 k11
  have F12 := fun_mk (st := s_pick) l12 c12 k12
  have F13 := fun_mk (st := s_choice) l13 c13 k13
  have F14 := fun_mk (st := s_mingled) l14 c14 k14
  have F15 := fun_mk (st := s_number) l15 c15 k15
  have F16 := fun_mk (st := s_new_name) l16 c16 k16
  have F17 := fun_mk (st := s_parts) l17 c17 k17
  have F18 := fun_mk (st := s_law_numbered) l18 c18 k18
  have F19 := fun_mk (st := s_row) l19 c19 k19
  have F20 := fun_mk (st := s_simple) l20 c20 k20
  have F21 := fun_mk (st := s_leaf) l21 c21 k21
  have F22 := fun_mk (st := s_grown) l22 c22 k22
  have F23 := fun_mk (st := s_lined) l23 c23 k23
  have F24 := fun_mk (st := s_sown) l24 c24 k24
  have F25 := fun_mk (st := s_listed) l25 c25 k25
  have F26 := fun_mk (st := s_built) l26 c26 k26
  have F27 := fun_mk (st := s_high) l27 c27 k27
  have F28 := fun_mk (st := s_asked) l28 c28 k28
  have F29 := fun_mk (st := s_unchecked) l29 c29 k29
  have F30 := fun_mk (st := s_law) l30 c30 k30
  exact ⟨⟨PySem.W.mg_none_of X G z0,
    PySem.W.mg_none_of X G z1,
    PySem.W.mg_none_of X G z2,
    PySem.W.mg_none_of X G z3,
    PySem.W.mg_none_of X G z4,
    PySem.W.mg_none_of X G z5,
    PySem.W.mg_none_of X G z6,
    PySem.W.mg_none_of X G z7,
    PySem.W.mg_none_of X G z8,
    PySem.W.mg_none_of X G z9,
    PySem.W.mg_none_of X G z10,
    f0,
    _,
    F0,
    F0.binds (ps := ["form"]) (fun _ _ _ _ _ _ us hl => match us, hl with | [_], _ => rfl),
    PySem.W.mg_of X G a0,
    f1,
    _,
    F1,
    F1.binds (ps := ["word"]) (fun _ _ _ _ _ _ us hl => match us, hl with | [_], _ => rfl),
    PySem.W.mg_of X G a1,
    f2,
    _,
    F2,
    (by exact bindS0 (B := fun us => bindArgs _ ⟨us, []⟩) rfl (fun _ _  => rfl)),
    PySem.W.mg_of X G a2,
    f3,
    _,
    F3,
    (by exact bindS0 (B := fun us => bindArgs _ ⟨us, []⟩) rfl (fun _ _  => rfl)),
    PySem.W.mg_of X G a3,
    f4,
    _,
    F4,
    F4.binds (ps := ["form", "first", "second"]) (fun _ _ _ _ _ _ us hl => match us, hl with | [_, _, _], _ => rfl),
    PySem.W.mg_of X G a4,
    f5,
    _,
    F5,
    (by exact bindS1 (B := fun us => bindArgs _ ⟨us, []⟩) (fun _  => rfl) (fun _ _ _  => rfl)),
    PySem.W.mg_of X G a5,
    f6,
    _,
    F6,
    (by exact bindS4 (B := fun us => bindArgs _ ⟨us, []⟩) (fun _ _ _ _  => rfl) (fun _ _ _ _ _ _  => rfl)),
    PySem.W.mg_of X G a6,
    f7,
    _,
    F7,
    F7.binds (ps := ["shape"]) (fun _ _ _ _ _ _ us hl => match us, hl with | [_], _ => rfl),
    PySem.W.mg_of X G a7,
    f8,
    _,
    F8,
    F8.binds (ps := ["shape"]) (fun _ _ _ _ _ _ us hl => match us, hl with | [_], _ => rfl),
    PySem.W.mg_of X G a8,
    f9,
    _,
    F9,
    F9.binds (ps := ["shape"]) (fun _ _ _ _ _ _ us hl => match us, hl with | [_], _ => rfl),
    PySem.W.mg_of X G a9,
    f10,
    _,
    F10,
    F10.binds (ps := ["_law_number_here", "_law_turn"]) (fun _ _ _ _ _ _ us hl => match us, hl with | [_, _], _ => rfl),
    PySem.W.mg_of X G a10,
    f11,
    _,
    F11,
    F11.binds (ps := ["_law_script"]) (fun _ _ _ _ _ _ us hl => match us, hl with | [_], _ => rfl),
    PySem.W.mg_of X G a11,
    f12,
    _,
    F12,
    F12.binds (ps := ["_law_bag_here", "_law_many"]) (fun _ _ _ _ _ _ us hl => match us, hl with | [_, _], _ => rfl),
    PySem.W.mg_of X G a12,
    f13,
    _,
    F13,
    F13.binds (ps := ["_law_bag_here", "_law_things"]) (fun _ _ _ _ _ _ us hl => match us, hl with | [_, _], _ => rfl),
    PySem.W.mg_of X G a13,
    f14,
    _,
    F14,
    F14.binds (ps := ["_law_bag_here", "_law_things"]) (fun _ _ _ _ _ _ us hl => match us, hl with | [_, _], _ => rfl),
    PySem.W.mg_of X G a14,
    f15,
    _,
    F15,
    F15.binds (ps := ["_law_thing"]) (fun _ _ _ _ _ _ us hl => match us, hl with | [_], _ => rfl),
    PySem.W.mg_of X G a15,
    f16,
    _,
    F16,
    F16.binds (ps := ["_law_bag_here", "_law_used"]) (fun _ _ _ _ _ _ us hl => match us, hl with | [_, _], _ => rfl),
    PySem.W.mg_of X G a16,
    f17,
    _,
    F17,
    F17.binds (ps := ["_law_shape"]) (fun _ _ _ _ _ _ us hl => match us, hl with | [_], _ => rfl),
    PySem.W.mg_of X G a17,
    f18,
    _,
    F18,
    F18.binds (ps := ["_law_shape"]) (fun _ _ _ _ _ _ us hl => match us, hl with | [_], _ => rfl),
    PySem.W.mg_of X G a18,
    f19,
    _,
    F19,
    F19.binds (ps := ["_law_bag_here", "_law_most"]) (fun _ _ _ _ _ _ us hl => match us, hl with | [_, _], _ => rfl),
    PySem.W.mg_of X G a19,
    f20,
    _,
    F20,
    F20.binds (ps := ["_law_bag_here", "_law_readable", "_law_deep"]) (fun _ _ _ _ _ _ us hl => match us, hl with | [_, _, _], _ => rfl),
    PySem.W.mg_of X G a20,
    f21,
    _,
    F21,
    F21.binds (ps := ["_law_bag_here", "_law_used", "_law_readable"]) (fun _ _ _ _ _ _ us hl => match us, hl with | [_, _, _], _ => rfl),
    PySem.W.mg_of X G a21,
    f22,
    _,
    F22,
    F22.binds (ps := ["_law_bag_here", "_law_used", "_law_readable", "_law_level", "_law_left"]) (fun _ _ _ _ _ _ us hl => match us, hl with | [_, _, _, _, _], _ => rfl),
    PySem.W.mg_of X G a22,
    f23,
    _,
    F23,
    F23.binds (ps := ["_law_word", "_law_p"]) (fun _ _ _ _ _ _ us hl => match us, hl with | [_, _], _ => rfl),
    PySem.W.mg_of X G a23,
    f24,
    _,
    F24,
    F24.binds (ps := ["_law_called", "_law_f"]) (fun _ _ _ _ _ _ us hl => match us, hl with | [_, _], _ => rfl),
    PySem.W.mg_of X G a24,
    f25,
    _,
    F25,
    F25.binds (ps := ["_law_test", "_law_menu", "_law_key", "_law_called", "_law_f"]) (fun _ _ _ _ _ _ us hl => match us, hl with | [_, _, _, _, _], _ => rfl),
    PySem.W.mg_of X G a25,
    f26,
    _,
    F26,
    F26.binds (ps := ["_law_shape"]) (fun _ _ _ _ _ _ us hl => match us, hl with | [_], _ => rfl),
    PySem.W.mg_of X G a26,
    f27,
    _,
    F27,
    F27.binds (ps := ["_law_shape"]) (fun _ _ _ _ _ _ us hl => match us, hl with | [_], _ => rfl),
    PySem.W.mg_of X G a27,
    f28,
    _,
    F28,
    F28.binds (ps := ["_law_shape"]) (fun _ _ _ _ _ _ us hl => match us, hl with | [_], _ => rfl),
    PySem.W.mg_of X G a28,
    f29,
    _,
    F29,
    F29.binds (ps := ["_law_bag_here", "_law_odd"]) (fun _ _ _ _ _ _ us hl => match us, hl with | [_, _], _ => rfl),
    PySem.W.mg_of X G a29,
    f30,
    _,
    F30,
    F30.binds (ps := ["_law_script"]) (fun _ _ _ _ _ _ us hl => match us, hl with | [_], _ => rfl),
    PySem.W.mg_of X G a30⟩, rfl, fun s v => .of_eq rfl⟩
end K32
open PySem PySem.W PyProof.Rows
set_option maxHeartbeats 0 in
theorem PySem.Challenge.cw_drawnanew_k32_shape_numbers_holds : PySem.Challenge.rw_drawnanew_k32_shape_numbers.Holds := by
  w_on; o_law; k_head; (case hw => w_witness2)
  k_fill
  refine XL.walk_ofG (l := PySem.Challenge.rw_drawnanew_k32_shape_numbers) (n := 63) (k := 15) (x := "_law_script") (CX := fun _ => L2.CX0) (sp := fun w => K32.spLaw _) rfl (by decide) rfl ⟨rfl, by decide, by decide⟩ (fun w h Y => PySem.W.kIn_of Y) ?F (fun _ _ a ns hl _ hS => ⟨a, ns, rfl, hS, hl, fun _ => rfl⟩) (fun _ _ _ _ _ h => h)
  case F =>
    intro w mg fa h KX G hmg
    refine' K32.law_end KX G hmg (K32.top_mk (W := w) KX G ?a0 ?l0 ?c0 ?k0 ?a1 ?l1 ?c1 ?k1 ?a2 ?l2 ?c2 ?k2 ?a3 ?l3 ?c3 ?k3 ?a4 ?l4 ?c4 ?k4 ?a5 ?l5 ?c5 ?k5 ?a6 ?l6 ?c6 ?k6 ?a7 ?l7 ?c7 ?k7 ?a8 ?l8 ?c8 ?k8 ?a9 ?l9 ?c9 ?k9 ?a10 ?l10 ?c10 ?k10 ?a11 ?l11 ?c11 ?k11 ?a12 ?l12 ?c12 ?k12 ?a13 ?l13 ?c13 ?k13 ?a14 ?l14 ?c14 ?k14 ?a15 ?l15 ?c15 ?k15 ?a16 ?l16 ?c16 ?k16 ?a17 ?l17 ?c17 ?k17 ?a18 ?l18 ?c18 ?k18 ?a19 ?l19 ?c19 ?k19 ?a20 ?l20 ?c20 ?k20 ?a21 ?l21 ?c21 ?k21 ?a22 ?l22 ?c22 ?k22 ?a23 ?l23 ?c23 ?k23 ?a24 ?l24 ?c24 ?k24 ?a25 ?l25 ?c25 ?k25 ?a26 ?l26 ?c26 ?k26 ?a27 ?l27 ?c27 ?k27 ?a28 ?l28 ?c28 ?k28 ?a29 ?l29 ?c29 ?k29 ?a30 ?l30 ?c30 ?k30 ?z0 ?z1 ?z2 ?z3 ?z4 ?z5 ?z6 ?z7 ?z8 ?z9 ?z10)
    (case a0 => k_is)
    (case l0 => k_is)
    (case c0 => k_is)
    (case k0 => k_is)
    (case a1 => k_is)
    (case l1 => k_is)
    (case c1 => k_is)
    (case k1 => k_is)
    (case a2 => k_is)
    (case l2 => k_is)
    (case c2 => k_is)
    (case k2 => k_is)
    (case a3 => k_is)
    (case l3 => k_is)
    (case c3 => k_is)
    (case k3 => k_is)
    (case a4 => k_is)
    (case l4 => k_is)
    (case c4 => k_is)
    (case k4 => k_is)
    (case a5 => k_is)
    (case l5 => k_is)
    (case c5 => k_is)
    (case k5 => k_is)
    (case a6 => k_is)
    (case l6 => k_is)
    (case c6 => k_is)
    (case k6 => k_is)
    (case a7 => k_is)
    (case l7 => k_is)
    (case c7 => k_is)
    (case k7 => k_is)
    (case a8 => k_is)
    (case l8 => k_is)
    (case c8 => k_is)
    (case k8 => k_is)
    (case a9 => k_is)
    (case l9 => k_is)
    (case c9 => k_is)
    (case k9 => k_is)
    (case a10 => k_is)
    (case l10 => k_is)
    (case c10 => k_is)
    (case k10 => k_is)
    (case a11 => k_is)
    (case l11 => k_is)
    (case c11 => k_is)
    (case k11 => k_is)
    (case a12 => k_is)
    (case l12 => k_is)
    (case c12 => k_is)
    (case k12 => k_is)
    (case a13 => k_is)
    (case l13 => k_is)
    (case c13 => k_is)
    (case k13 => k_is)
    (case a14 => k_is)
    (case l14 => k_is)
    (case c14 => k_is)
    (case k14 => k_is)
    (case a15 => k_is)
    (case l15 => k_is)
    (case c15 => k_is)
    (case k15 => k_is)
    (case a16 => k_is)
    (case l16 => k_is)
    (case c16 => k_is)
    (case k16 => k_is)
    (case a17 => k_is)
    (case l17 => k_is)
    (case c17 => k_is)
    (case k17 => k_is)
    (case a18 => k_is)
    (case l18 => k_is)
    (case c18 => k_is)
    (case k18 => k_is)
    (case a19 => k_is)
    (case l19 => k_is)
    (case c19 => k_is)
    (case k19 => k_is)
    (case a20 => k_is)
    (case l20 => k_is)
    (case c20 => k_is)
    (case k20 => k_is)
    (case a21 => k_is)
    (case l21 => k_is)
    (case c21 => k_is)
    (case k21 => k_is)
    (case a22 => k_is)
    (case l22 => k_is)
    (case c22 => k_is)
    (case k22 => k_is)
    (case a23 => k_is)
    (case l23 => k_is)
    (case c23 => k_is)
    (case k23 => k_is)
    (case a24 => k_is)
    (case l24 => k_is)
    (case c24 => k_is)
    (case k24 => k_is)
    (case a25 => k_is)
    (case l25 => k_is)
    (case c25 => k_is)
    (case k25 => k_is)
    (case a26 => k_is)
    (case l26 => k_is)
    (case c26 => k_is)
    (case k26 => k_is)
    (case a27 => k_is)
    (case l27 => k_is)
    (case c27 => k_is)
    (case k27 => k_is)
    (case a28 => k_is)
    (case l28 => k_is)
    (case c28 => k_is)
    (case k28 => k_is)
    (case a29 => k_is)
    (case l29 => k_is)
    (case c29 => k_is)
    (case k29 => k_is)
    (case a30 => k_is)
    (case l30 => k_is)
    (case c30 => k_is)
    (case k30 => k_is)
    (case z0 => k_is)
    (case z1 => k_is)
    (case z2 => k_is)
    (case z3 => k_is)
    (case z4 => k_is)
    (case z5 => k_is)
    (case z6 => k_is)
    (case z7 => k_is)
    (case z8 => k_is)
    (case z9 => k_is)
    (case z10 => k_is)
