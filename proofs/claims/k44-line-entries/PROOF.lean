import PyProof.Rows.All
import Wide.All
import OpenK.AllK
import Wide.FinOn
import HandS.ForMost
import HandS.Flow
import HandS.IsInst
import HandS.Wide
import HandS.Walk
import PyProof.Rows.IntBool
import HandS.Property
import HandS.Star
import HandS.OwnEq
import HandS.SetFor
import KE.GoesEnum
import KE.GoesMore
import HandS.Strs
import HandS.Deep
import HandS.TupAny
import KE.KRevSl
import KE.KOpsOwn
import HandS.ForExc
import HandS.FStr
import HandS.ExcField
import HandS.ExcIs
import HandS.ExcSuper
import KE.KExcSuper
import KE.KExcIs
import HandS.OwnIter
import HandS.IterNext
import HandS.Text
import HandS.Zip
import HandS.HotCalls
import PySem.Challenge.RW_drawnanew_k44_line_entries
set_option Elab.async false
set_option linter.all false
set_option maxRecDepth 100000
set_option maxHeartbeats 4000000
/-! XBase: readings that compute, over the hand layer; the heap cut into a part that only grows and cells that change. -/
namespace XL
open PySem PySem.Spec PyProof.Rows L2
abbrev St := L2.St

/-! ### a reading may be exchanged for a stronger one -/
theorem pe_str {X : Cx} {e : Expr} {t t' : TE} (h : PE X e t) (k : ∀ σ H Q, t' σ H Q → t σ H Q) : PE X e t' := ⟨fun pins s σ H Q I q => h.run pins s σ H Q I (k σ H Q q)⟩
theorem pt_str {X : Cx} {e : Expr} {t t' : TT} (h : PT X e t) (k : ∀ σ H Q, t' σ H Q → t σ H Q) : PT X e t' := ⟨fun pins s σ H Q I q => h.run pins s σ H Q I (k σ H Q q)⟩
theorem ps_str {X : Cx} {e : Stmt} {t t' : TS} (h : PS X e t) (k : ∀ D σ H, t' D σ H → t D σ H) : PS X e t' := ⟨fun pins s σ H D I q => h.run pins s σ H D I (k D σ H q)⟩
theorem or_str {X : Cx} {f : Value → Value → Sem Value} {r r' : R2} (h : OpR X f r) (k : ∀ x y H Q, r' x y H Q → r x y H Q) : OpR X f r' := fun pins s σ H x y v u Q I rx ry q => h pins s σ H x y v u Q I rx ry (k x y H Q q)
theorem cr_str {X : Cx} {f : Value} {r r' : List V → Hp → VK → Prop} (h : CallR X f r) (k : ∀ xs H Q, r' xs H Q → r xs H Q) : CallR X f r' := fun pins s σ H xs us Q I rx q => h pins s σ H xs us Q I rx (k xs H Q q)
theorem OpR.or {X : Cx} {f : Value → Value → Sem Value} {r r' : R2} (h : OpR X f r) (h' : OpR X f r') : OpR X f (fun x y H Q => r x y H Q ∨ r' x y H Q) := by
  intro pins s σ H x y v u Q I rx ry q
  rcases q with q | q
  · exact h pins s σ H x y v u Q I rx ry q
  · exact h' pins s σ H x y v u Q I rx ry q

/-! ### names -/
def nth : St → Nat → Option V
  | [], _ => none
  | x :: _, 0 => x
  | _ :: r, n + 1 => nth r n
theorem nth_get : ∀ {σ : St} {i : Nat} {v : V}, nth σ i = some v → σ[i]? = some (some v)
  | [], _, _, h => nomatch h
  | _ :: _, 0, _, h => congrArg some h
  | _ :: r, n + 1, _, h => by
    rw [List.getElem?_cons_succ]
    exact nth_get (σ := r) h
def xVar (i : Nat) : TE := fun σ H Q => match nth σ i with
  | some v => Q v H
  | none => False
section
variable {X : Cx} {a b c : Expr} {ta tb tc : TE} {pos : Pos} {tA tB' : TT} {rest : List Expr}
theorem xv (i : Nat) {x : Str} {pos : Pos} (hN : X.N[i]? = some x := by rfl) (hv : Vis X.env.scope x := by first | exact Or.inl rfl | exact Or.inr (Or.inl rfl) | exact Or.inr (Or.inr rfl)) (hd : (x == ("__debug__" : Str)) = false := by decide)
    (hcd : (x == ("__classdict__" : Str)) = false := by decide) : PE X (.Name x pos) (xVar i) := pe_str (pe_var hN hv hd hcd) fun σ H Q h => by
  unfold xVar at h
  cases e : nth σ i with
  | none => rw [e] at h; exact h.elim
  | some v => rw [e] at h; exact ⟨v, nth_get e, h⟩

/-! ### arithmetic -/
theorem op_mul_ib : OpR X (binaryOp .Mult) (fun x y H Q => ∃ i k, x = .int i ∧ y = .bl k ∧ Q (.int (i * b2i k)) H) := by
  intro pins s σ H x y v u Q I rx ry h
  obtain ⟨i, k, rfl, rfl, q⟩ := h
  obtain ⟨t, rfl⟩ := rx
  cases ry
  refine PySem.IntBool.mul_int_bool ?_
  have e : (if k = true then (1 : Int) else 0) = b2i k := by cases k <;> rfl
  rw [e]
  exact ⟨.int (i * b2i k), H, I.tok _, ⟨_, rfl⟩, q⟩
def yAdd : R2 := fun x y H Q => match x, y with
  | .int i, .int j => Q (.int (i + j)) H
  | .int i, .bl k => Q (.int (i + b2i k)) H
  | .str a, .str b => a.length + b.length ≤ sizeLine ∧ ∀ r : Str, r = a ++ b → Q (.str r) H
  | .ref l, .ref b => rCat (.ref l) (.ref b) H Q
  | _, _ => False
theorem op_addY : OpR X (binaryOp .Add) yAdd := by
  refine or_str (OpR.or (op_add (X := X)) (OpR.or (op_add_ib (X := X)) (OpR.or (op_add_str (X := X)) (op_cat (X := X))))) fun x y H Q h => ?_
  unfold yAdd at h
  split at h
  · exact .inl ⟨_, _, rfl, rfl, h⟩
  · exact .inr (.inl ⟨_, _, rfl, rfl, h⟩)
  · exact .inr (.inr (.inl ⟨_, _, rfl, rfl, h.1, h.2 _ rfl⟩))
  · exact .inr (.inr (.inr h))
  · exact h.elim
def ySub : R2 := fun x y H Q => match x, y with
  | .int i, .int j => Q (.int (i - j)) H
  | _, _ => False
theorem op_subY : OpR X (binaryOp .Sub) ySub := by
  refine or_str (op_sub (X := X)) fun x y H Q h => ?_
  unfold ySub at h
  split at h
  · exact ⟨_, _, rfl, rfl, h⟩
  · exact h.elim
def yMul : R2 := fun x y H Q => match x, y with
  | .int i, .int j => CMul i j ∧ Q (.int (i * j)) H
  | .int i, .bl k => Q (.int (i * b2i k)) H
  | .ref l, .int k => rRep (.ref l) (.int k) H Q
  | _, _ => False
theorem op_mulY : OpR X (binaryOp .Mult) yMul := by
  refine or_str (OpR.or (op_mul (X := X)) (OpR.or (op_mul_ib (X := X)) (op_rep (X := X)))) fun x y H Q h => ?_
  unfold yMul at h
  split at h
  · exact .inl ⟨_, _, rfl, rfl, h.1, h.2⟩
  · exact .inr (.inl ⟨_, _, rfl, rfl, h⟩)
  · exact .inr (.inr h)
  · exact h.elim
def yMod : R2 := fun x y H Q => match x, y with
  | .int i, .int j => 0 < j ∧ ∀ r : Int, r = i % j → 0 ≤ r → r < j → Q (.int r) H
  | _, _ => False
theorem op_modY : OpR X (binaryOp .Mod) yMod := by
  refine or_str (op_mod (X := X)) fun x y H Q h => ?_
  unfold yMod at h
  split at h
  · exact ⟨_, _, rfl, rfl, h.1, h.2 _ rfl (Int.emod_nonneg _ (by have := h.1; omega)) (Int.emod_lt_of_pos _ h.1)⟩
  · exact h.elim
def yDiv : R2 := fun x y H Q => match x, y with
  | .int i, .int j => (0 < j ∧ j < 1073741824) ∧ ∀ r : Int, r = i / j → (0 ≤ i → 0 ≤ r) → Q (.int r) H
  | _, _ => False
theorem op_divY : OpR X (binaryOp .FloorDiv) yDiv := by
  refine or_str (op_fdiv (X := X)) fun x y H Q h => ?_
  unfold yDiv at h
  split at h
  · exact ⟨_, _, rfl, rfl, h.1, h.2 _ rfl (fun h0 => Int.ediv_nonneg h0 (by have := h.1.1; omega))⟩
  · exact h.elim
def yPow : R2 := fun x y H Q => match x, y with
  | .int i, .int j => CPow i j ∧ ∀ r : Int, r = i ^ j.toNat → Q (.int r) H
  | _, _ => False
theorem op_powY : OpR X (binaryOp .Pow) yPow := by
  refine or_str (op_pow (X := X)) fun x y H Q h => ?_
  unfold yPow at h
  split at h
  · exact ⟨_, _, rfl, rfl, h.1, h.2 _ rfl⟩
  · exact h.elim

/-! ### comparisons -/
def yCmp (p : Int → Int → Bool) : R2 := fun x y H Q => match x, y with
  | .int i, .int j => Q (.bl (p i j)) H
  | _, _ => False
theorem yCmp_rI {p : Int → Int → Bool} {x y : V} {H : Hp} {Q : VK} (h : yCmp p x y H Q) : rI0 (fun i j => .bl (p i j)) x y H Q := by
  unfold yCmp at h
  split at h
  · exact ⟨_, _, rfl, rfl, h⟩
  · exact h.elim
theorem op_ltY : OpR X (compareOp .Lt) (yCmp fun i j => decide (i < j)) := or_str (op_lt (X := X)) fun _ _ _ _ h => yCmp_rI h
theorem op_leY : OpR X (compareOp .LtE) (yCmp fun i j => decide (i ≤ j)) := or_str (op_le (X := X)) fun _ _ _ _ h => yCmp_rI h
theorem op_gtY : OpR X (compareOp .Gt) (yCmp fun i j => decide (j < i)) := or_str (op_gt (X := X)) fun _ _ _ _ h => yCmp_rI h
theorem op_geY : OpR X (compareOp .GtE) (yCmp fun i j => decide (j ≤ i)) := or_str (op_ge (X := X)) fun _ _ _ _ h => yCmp_rI h
def yEq (K : PySem.W.Frag) : R2 := fun x y H Q => match x, y with
  | .int i, .int j => Q (.bl (decide (i = j))) H
  | .str i, .str j => Q (.bl (decide (i = j))) H
  | .bl i, .bl j => Q (.bl (decide (i = j))) H
  | .ref a, .ref b => rEqD K (.ref a) (.ref b) H Q
  | x, y => scal x y = true ∧ Q (.bl (decide (x = y))) H
def yNe (K : PySem.W.Frag) : R2 := fun x y H Q => match x, y with
  | .int i, .int j => Q (.bl (!decide (i = j))) H
  | .str i, .str j => Q (.bl (!decide (i = j))) H
  | .bl i, .bl j => Q (.bl (!decide (i = j))) H
  | .ref a, .ref b => rNeD K (.ref a) (.ref b) H Q
  | x, y => scal x y = true ∧ Q (.bl (!decide (x = y))) H
theorem deci {i j : Int} : decide (V.int i = V.int j) = decide (i = j) := by by_cases h : i = j <;> simp [h]
theorem decs {i j : Str} : decide (V.str i = V.str j) = decide (i = j) := by by_cases h : i = j <;> simp [h]
theorem decb {i j : Bool} : decide (V.bl i = V.bl j) = decide (i = j) := by by_cases h : i = j <;> simp [h]
theorem op_eqY (hu : X.A.units + 64 < cLine) : OpR X (compareOp .Eq) (yEq X.K) := by
  refine or_str (OpR.or (op_eq (X := X)) (op_eqD hu)) fun x y H Q h => ?_
  unfold yEq at h
  split at h
  · exact .inl ⟨rfl, by rw [deci]; exact h⟩
  · exact .inl ⟨rfl, by rw [decs]; exact h⟩
  · exact .inl ⟨rfl, by rw [decb]; exact h⟩
  · exact .inr h
  · exact .inl h
theorem op_neY (hu : X.A.units + 64 < cLine) : OpR X (compareOp .NotEq) (yNe X.K) := by
  refine or_str (OpR.or (op_ne (X := X)) (op_neD hu)) fun x y H Q h => ?_
  unfold yNe at h
  split at h
  · exact .inl ⟨rfl, by rw [deci]; exact h⟩
  · exact .inl ⟨rfl, by rw [decs]; exact h⟩
  · exact .inl ⟨rfl, by rw [decb]; exact h⟩
  · exact .inr h
  · exact .inl h

/-! ### tests -/
/-- a bool as a test -/
def xB (t : TE) : TT := fun σ H Q => t σ H fun x H1 => match x with
  | .bl c => Q c H1
  | _ => False
theorem pe_mono {X : Cx} {e : Expr} {t : TE} (_h : PE X e t) : True := trivial
theorem xt_cmp {op : CmpOp} {r : R2} (ho : OpR X (compareOp op) r) (ha : PE X a ta) (hb : PE X b tb) (hm : behindInMarks op b = false) : PT X (.Compare a [op] [b] pos) (xB (tOp r ta tb)) := by
  refine ⟨fun pins s σ H Q I h => ?_⟩
  refine wpAny_isTrue_Compare1 (thn (ha.run pins s σ H _ I h) fun v s1 ⟨x, H1, I1, r1, q1⟩ => thn (hb.run pins s1 σ H1 _ I1 q1) fun u s2 ⟨y, H2, I2, r2, q2⟩ =>
    thn (ho pins s2 σ H2 x y v u _ I2 r1 r2 q2) fun c s3 ⟨z, H3, I3, r3, q3⟩ => ?_) hm
  cases z with
  | bl k =>
    cases r3
    exact wpAny_truthy_bool ⟨H3, I3, q3⟩
  | _ => exact False.elim q3
theorem xt_val {e : Expr} {t : TE} (h : PE X e t) (he : ∀ whole, isTrue e X.env whole = (do let v ← whole; standAt e.pos; holding [v] (truthy v)) := by intro _; rfl) : PT X e (xB t) := by
  refine ⟨fun pins s σ H Q I hw => ?_⟩
  refine isTrue_plain (thn (h.run pins s σ H _ I hw) fun v s1 ⟨x, H1, I1, r1, q1⟩ => ?_) (he _)
  cases x with
  | bl k =>
    cases r1
    exact wpAny_truthy_bool ⟨H1, I1, q1⟩
  | _ => exact False.elim q1
/-- the truth of a value -/
def yTru (K : PySem.W.Frag) (x : V) (H : Hp) (Q : Bool → Hp → Prop) : Prop := match x with
  | .bl c => Q c H
  | .int i => Q (i != 0) H
  | .non => Q false H
  | x => ∃ k, TruV K x H k ∧ Q k H
def xTru (K : PySem.W.Frag) (t : TE) : TT := fun σ H Q => t σ H fun x H1 => yTru K x H1 Q
theorem xt_tru (ha : PE X a ta) (he : ∀ whole, isTrue a X.env whole = (do let v ← whole; standAt a.pos; holding [v] (truthy v)) := by intro _; rfl) : PT X a (xTru X.K ta) := by
  have hq : PE X a (fun σ H Q => ta σ H Q) := ha
  refine ⟨fun pins s σ H Q I hw => ?_⟩
  refine isTrue_plain (thn (ha.run pins s σ H _ I hw) fun v s1 ⟨x, H1, I1, r1, q1⟩ => ?_) (he _)
  have q2 : ∃ k, TruV X.K x H1 k ∧ Q k H1 := by
    change yTru X.K x H1 Q at q1
    unfold yTru at q1
    split at q1
    · exact ⟨_, rfl, q1⟩
    · exact ⟨_, rfl, q1⟩
    · exact ⟨_, rfl, q1⟩
    · exact q1
  exact tru_ok pins s1 σ H1 x v Q I1 r1 q2
def xAnd (t u : TT) : TT := fun σ H Q => t σ H fun c H1 => (c = true → u σ H1 Q) ∧ (c = false → Q false H1)
def xOr (t u : TT) : TT := fun σ H Q => t σ H fun c H1 => (c = true → Q true H1) ∧ (c = false → u σ H1 Q)
theorem xw_and (ha : PT X a tA) (hb : PW X (.BoolOp .And (b :: rest) pos) tB') : PW X (.BoolOp .And (a :: b :: rest) pos) (xAnd tA tB') := by
  refine ⟨fun wh pins s0 σ H Q J h => ?_⟩
  refine isTrue_and (thn (ha.run pins s0 σ H _ J h) fun k s2 ⟨H2, J2, q2⟩ => ?_)
  cases k with
  | true => exact hb.run wh pins s2 σ H2 Q J2 (q2.1 rfl)
  | false => exact ⟨H2, J2, q2.2 rfl⟩
theorem xw_or (ha : PT X a tA) (hb : PW X (.BoolOp .Or (b :: rest) pos) tB') : PW X (.BoolOp .Or (a :: b :: rest) pos) (xOr tA tB') := by
  refine ⟨fun wh pins s0 σ H Q J h => ?_⟩
  refine isTrue_or (thn (ha.run pins s0 σ H _ J h) fun k s2 ⟨H2, J2, q2⟩ => ?_)
  cases k with
  | true => exact ⟨H2, J2, q2.1 rfl⟩
  | false => exact hb.run wh pins s2 σ H2 Q J2 (q2.2 rfl)
/-- and, or, not as values: of bools -/
def xAndV (ta tb : TE) : TE := fun σ H Q => ta σ H fun x H1 => match x with
  | .bl c => (c = true → tb σ H1 Q) ∧ (c = false → Q (.bl false) H1)
  | _ => False
def xOrV (ta tb : TE) : TE := fun σ H Q => ta σ H fun x H1 => match x with
  | .bl c => (c = true → Q (.bl true) H1) ∧ (c = false → tb σ H1 Q)
  | _ => False
def xNotV (ta : TE) : TE := fun σ H Q => ta σ H fun x H1 => match x with
  | .bl c => Q (.bl (!c)) H1
  | _ => False
theorem xe_and (ha : PE X a ta) (hb : PE X (.BoolOp .And (b :: rest) pos) tb) : PE X (.BoolOp .And (a :: b :: rest) pos) (xAndV ta tb) := by
  refine ⟨fun pins s0 σ H Q J h => ?_⟩
  refine BoolOp_and (thn (ha.run pins s0 σ H _ J h) fun v s2 ⟨x, H2, J2, r2, q2⟩ => ?_)
  cases x with
  | bl k =>
    cases r2
    refine wpAny_truthy_bool ?_
    cases k with
    | true => exact hb.run pins s2 σ H2 Q J2 (q2.1 rfl)
    | false => exact ⟨.bl false, H2, J2, rfl, q2.2 rfl⟩
  | _ => exact False.elim q2
theorem xe_or (ha : PE X a ta) (hb : PE X (.BoolOp .Or (b :: rest) pos) tb) : PE X (.BoolOp .Or (a :: b :: rest) pos) (xOrV ta tb) := by
  refine ⟨fun pins s0 σ H Q J h => ?_⟩
  refine BoolOp_or (thn (ha.run pins s0 σ H _ J h) fun v s2 ⟨x, H2, J2, r2, q2⟩ => ?_)
  cases x with
  | bl k =>
    cases r2
    refine wpAny_truthy_bool ?_
    cases k with
    | true => exact ⟨.bl true, H2, J2, rfl, q2.1 rfl⟩
    | false => exact hb.run pins s2 σ H2 Q J2 (q2.2 rfl)
  | _ => exact False.elim q2
theorem xe_not (ha : PE X a ta) : PE X (.UnaryOp .Not a pos) (xNotV ta) := by
  refine ⟨fun pins s0 σ H Q J h => ?_⟩
  refine UnaryOp_ (thn (ha.run pins s0 σ H _ J h) fun v s2 ⟨x, H2, J2, r2, q2⟩ => ?_)
  cases x with
  | bl k =>
    cases r2
    exact not_of (wpAny_truthy_bool ⟨.bl (!k), H2, J2, rfl, q2⟩)
  | _ => exact False.elim q2
/-- a if t else b -/
def xIf (t : TT) (ta tb : TE) : TE := fun σ H Q => t σ H fun c H1 => (c = true → ta σ H1 Q) ∧ (c = false → tb σ H1 Q)
theorem xe_if {c : Expr} (hc : PT X c tA) (ha : PE X a ta) (hb : PE X b tb) : PE X (.IfExp c a b pos) (xIf tA ta tb) := by
  refine ⟨fun pins s0 σ H Q J h => ?_⟩
  refine wpAny_IfExp (thn (hc.run pins s0 σ H _ J h) fun k s2 ⟨H2, J2, q2⟩ => ?_)
  cases k with
  | true => exact ha.run pins s2 σ H2 Q J2 (q2.1 rfl)
  | false => exact hb.run pins s2 σ H2 Q J2 (q2.2 rfl)
/-- if t: .. else: .. -/
def xIfS (c : TT) (t u : TS) : TS := fun D σ H => c σ H fun b H1 => (b = true → t D σ H1) ∧ (b = false → u D σ H1)
theorem xs_if {c : Expr} {as bs : List Stmt} {tc : TT} {t u : TS} (hc : PT X c tc) (ha : PSs X as t) (hb : PSs X bs u) : PS X (.If c as bs pos) (xIfS tc t u) := by
  refine ⟨fun pins s0 σ H D J h => ?_⟩
  refine wpAny_If (thn (hc.run pins s0 σ H _ J h) fun k s2 ⟨H2, J2, q2⟩ => ?_)
  cases k with
  | true => exact ha.run pins s2 σ H2 D J2 (q2.1 rfl)
  | false => exact hb.run pins s2 σ H2 D J2 (q2.2 rfl)

/-! ### calls of built-ins -/
def yLen (K : PySem.W.Frag) : List V → Hp → VK → Prop := fun xs H Q => match xs with
  | [.str y] => y.length ≤ sizeLine ∧ Q (.int y.length) H
  | [.ref p] => ∃ ys, (SqL K H p ys ∨ SqT K H p ys) ∧ Q (.int ys.length) H
  | _ => False
theorem cr_len : CallR X (.builtin "len") (yLen X.K) := by
  refine cr_str (call_len (X := X)) fun xs H Q h => ?_
  unfold yLen at h
  split at h
  · exact ⟨_, _, rfl, ⟨h.1, rfl⟩, h.2⟩
  · obtain ⟨ys, hy, q⟩ := h
    rcases hy with hy | hy
    · exact ⟨_, _, rfl, .inl ⟨ys, hy, rfl⟩, q⟩
    · exact ⟨_, _, rfl, .inr ⟨ys, hy, rfl⟩, q⟩
  · exact h.elim
def yInt : List V → Hp → VK → Prop := fun xs H Q => match xs with
  | [.int i] => Q (.int i) H
  | [.bl k] => Q (.int (if k then 1 else 0)) H
  | [.str z] => ∃ n, PySem.intText? z = some n ∧ z.length ≤ 640 ∧ Q (.int n) H
  | _ => False
theorem cr_int : CallR X (.type "int") yInt := by
  refine cr_str (CallR.or (call_int1 (X := X)) (call_int_str (X := X))) fun xs H Q h => ?_
  unfold yInt at h
  split at h
  · exact .inl (.inl ⟨_, rfl, h⟩)
  · exact .inl (.inr ⟨_, rfl, h⟩)
  · obtain ⟨n, h1, h2, q⟩ := h
    exact .inr ⟨_, n, rfl, h1, h2, q⟩
  · exact h.elim
def yAbs : List V → Hp → VK → Prop := fun xs H Q => match xs with
  | [.int i] => Q (.int i.natAbs) H
  | _ => False
theorem cr_abs : CallR X (.builtin "abs") yAbs := by
  refine cr_str (call_abs (X := X)) fun xs H Q h => ?_
  unfold yAbs at h
  split at h
  · rename_i i
    refine ⟨i, rfl, ?_⟩
    have e : (if i < 0 then -i else i) = (i.natAbs : Int) := by split <;> omega
    rw [e]
    exact h
  · exact h.elim
def yStr : List V → Hp → VK → Prop := fun xs H Q => match xs with
  | [.int i] => i.natAbs.log2 < 1920 ∧ Q (.str (toString i)) H
  | _ => False
theorem cr_strI : CallR X (.type "str") yStr := by
  refine cr_str (call_str_int (X := X)) fun xs H Q h => ?_
  unfold yStr at h
  split at h
  · exact ⟨_, rfl, h.1, h.2⟩
  · exact h.elim
def yIx (K : PySem.W.Frag) : R2 := fun x y H Q => match x, y with
  | .ref p, .int i => ∃ xs v, (SqL K H p xs ∨ SqT K H p xs) ∧ atI xs i = some v ∧ Q v H
  | .str z, .int i => ∃ c, z.length ≤ sizeLine ∧ atI z.cps.toList i = some c ∧ Q (.str ⟨#[c]⟩) H
  | _, _ => False
theorem ix_y : IxR X (yIx X.K) := by
  intro value slice pins s σ H x y v u Q I rx ry h hs
  refine ix_seq (X := X) value slice pins s σ H x y v u Q I rx ry ?_ hs
  unfold yIx at h
  split at h
  · obtain ⟨xs, z, h1, h2, q⟩ := h
    rcases h1 with h1 | h1
    · exact .inl ⟨_, xs, _, z, rfl, rfl, h1, h2, q⟩
    · exact .inr (.inl ⟨_, xs, _, z, rfl, rfl, h1, h2, q⟩)
  · obtain ⟨k, h1, h2, q⟩ := h
    exact .inr (.inr ⟨_, _, k, rfl, rfl, h1, h2, q⟩)
  · exact h.elim
end

/-! ### the heap: what only grows, and the cells that change -/
def Sep (G : Hp) (M : List (Addr × HO)) (H : Hp) : Prop := Same G H ∧ (∀ p ∈ M, H p.1 = some p.2 ∧ G p.1 = none) ∧ (M.map (·.1)).Nodup
section
variable {G G' H H' : Hp} {M : List (Addr × HO)} {p a b : Addr} {o o' u : HO}
theorem same_upd (h : H p = none) : Same H (upd H p o) := fun b x e => by
  rw [upd_ne (ne_of_none e h)]
  exact e
theorem sep0 : Sep H [] H := ⟨Same.refl H, (fun _ h => nomatch h), List.nodup_nil⟩
theorem Sep.st (S : Sep G M H) (h : G a = some o) : H a = some o := S.1 a o h
theorem Sep.hd (S : Sep G ((a, o) :: M) H) : H a = some o := (S.2.1 _ List.mem_cons_self).1
theorem Sep.at (S : Sep G M H) (h : (a, o) ∈ M) : H a = some o := (S.2.1 _ h).1
theorem Sep.fresh (S : Sep G M H) (h : H p = none) : G p = none := S.1.free h
theorem Sep.new (S : Sep G M H) (h : H p = none) : Sep G ((p, o) :: M) (upd H p o) := by
  refine ⟨S.1.trans (same_upd h), fun q hq => ?_, ?_⟩
  · rcases List.mem_cons.mp hq with rfl | hq
    · exact ⟨upd_same, S.fresh h⟩
    · exact ⟨same_upd h _ _ (S.2.1 q hq).1, (S.2.1 q hq).2⟩
  · rw [List.map_cons, List.nodup_cons]
    refine ⟨fun hm => ?_, S.2.2⟩
    obtain ⟨q, hq, e⟩ := List.mem_map.mp hm
    have z := (S.2.1 q hq).1
    rw [e, h] at z
    cases z
theorem Sep.newG (S : Sep G M H) (h : H p = none) : Sep (upd G p o) M (upd H p o) := by
  refine ⟨fun b x e => ?_, fun q hq => ?_, S.2.2⟩
  · by_cases hb : b = p
    · subst hb
      rw [upd_same] at e ⊢
      exact e
    · rw [upd_ne hb] at e ⊢
      exact S.1 b x e
  · have z := S.2.1 q hq
    refine ⟨same_upd h _ _ z.1, ?_⟩
    rw [upd_ne (ne_of_none z.1 h)]
    exact z.2
theorem Sep.grow (S : Sep G M H) (h : H p = none) : Same G (upd G p o) := same_upd (S.fresh h)
theorem Sep.set (S : Sep G ((a, o) :: M) H) : Sep G ((a, o') :: M) (upd H a o') := by
  have hn := S.2.2
  rw [List.map_cons, List.nodup_cons] at hn
  have ha := S.2.1 _ List.mem_cons_self
  refine ⟨fun b x e => ?_, fun q hq => ?_, S.2.2⟩
  · rw [upd_ne (ne_of_none e ha.2)]
    exact S.1 b x e
  · rcases List.mem_cons.mp hq with rfl | hq
    · exact ⟨upd_same, ha.2⟩
    · refine ⟨?_, (S.2.1 q (List.mem_cons_of_mem _ hq)).2⟩
      rw [upd_ne (show q.1 ≠ a from fun e => hn.1 (by have z : q.1 ∈ M.map (·.1) := List.mem_map_of_mem hq
                                                      rw [e] at z; exact z))]
      exact (S.2.1 q (List.mem_cons_of_mem _ hq)).1
theorem Sep.frz (S : Sep G ((a, o) :: M) H) : Sep (upd G a o) M H := by
  have hn := S.2.2
  rw [List.map_cons, List.nodup_cons] at hn
  have ha := S.2.1 _ List.mem_cons_self
  refine ⟨fun b x e => ?_, fun q hq => ?_, hn.2⟩
  · by_cases hb : b = a
    · subst hb
      rw [upd_same] at e
      cases e
      exact ha.1
    · rw [upd_ne hb] at e
      exact S.1 b x e
  · have z := S.2.1 q (List.mem_cons_of_mem _ hq)
    refine ⟨z.1, ?_⟩
    rw [upd_ne (show q.1 ≠ a from fun e => hn.1 (by have z : q.1 ∈ M.map (·.1) := List.mem_map_of_mem hq
                                                    rw [e] at z; exact z))]
    exact z.2
theorem Sep.none (S : Sep G ((a, o) :: M) H) : G a = none := (S.2.1 _ List.mem_cons_self).2
theorem Sep.frzS (S : Sep G ((a, o) :: M) H) : Same G (upd G a o) := same_upd S.none
theorem Sep.drop {q : Addr × HO} (S : Sep G (q :: M) H) : Sep G M H := by
  have hn := S.2.2
  rw [List.map_cons, List.nodup_cons] at hn
  exact ⟨S.1, fun p hp => S.2.1 p (List.mem_cons_of_mem _ hp), hn.2⟩
theorem Sep.perm {M' : List (Addr × HO)} (S : Sep G M H) (h : M.Perm M') : Sep G M' H :=
  ⟨S.1, fun q hq => S.2.1 q (h.mem_iff.mpr hq), (h.map _).nodup_iff.mp S.2.2⟩
theorem Sep.sw {q r : Addr × HO} (S : Sep G (q :: r :: M) H) : Sep G (r :: q :: M) H := S.perm (List.Perm.swap _ _ _)
theorem same_l {K : PySem.W.Frag} {xs : List V} (e : Same H H') (h : SqL K H a xs) : SqL K H' a xs := e.seq h
theorem same_t {K : PySem.W.Frag} {xs : List V} (e : Same H H') (h : SqT K H a xs) : SqT K H' a xs := by
  rcases h with (h | ⟨o, h⟩) | h
  · exact .inl (.inl (e _ _ h))
  · exact .inl (.inr ⟨o, e _ _ h⟩)
  · exact .inr h
theorem Sep.l {K : PySem.W.Frag} {xs : List V} (S : Sep G M H) (h : SqL K G a xs) : SqL K H a xs := same_l S.1 h
theorem Sep.t {K : PySem.W.Frag} {xs : List V} (S : Sep G M H) (h : SqT K G a xs) : SqT K H a xs := same_t S.1 h
end
mutual
theorem dp_same {K : PySem.W.Frag} {H H' : Hp} (e : Same H H') : ∀ {d : PyData} {v : V}, Dp K H v d → Dp K H' v d
  | _, _, .non => .non
  | _, _, .bl b => .bl b
  | _, _, .int i => .int i
  | _, _, .str x => .str x
  | _, _, .lst h hs => .lst (same_l e h) (dpa_same e hs)
  | _, _, .tup h hs => .tup (same_t e h) (dpa_same e hs)
theorem dpa_same {K : PySem.W.Frag} {H H' : Hp} (e : Same H H') : ∀ {ds : List PyData} {vs : List V}, DpAll K H vs ds → DpAll K H' vs ds
  | _, _, .nil => .nil
  | _, _, .cons h hs => .cons (dp_same e h) (dpa_same e hs)
end

/-! ### loops by what has been gone through -/
theorem take_pre {α : Type} {xs : List α} {i : Nat} {x : α} (h : xs[i]? = some x) : xs = xs.take i ++ x :: xs.drop (i + 1) ∧ xs.take (i + 1) = xs.take i ++ [x] := by
  have hi : i < xs.length := (List.getElem?_eq_some_iff.mp h).1
  have e : xs[i] = x := (List.getElem?_eq_some_iff.mp h).2
  refine ⟨?_, ?_⟩
  · rw [← e, List.getElem_cons_drop, List.take_append_drop]
  · rw [List.take_add_one, h]
    rfl
section
variable {K : PySem.W.Frag} {a : Addr} {xs : List V} {g : TG} {tb : TS} {D : Ends} {σ : L2.St} {H : Hp}
theorem for_pre (Pv : List V → L2.St → Hp → Prop) (h0 : Pv [] σ H) (hl : ∀ pre σ H, Pv pre σ H → SqL K H a xs)
    (hs : ∀ pre x post σ H, xs = pre ++ x :: post → Pv pre σ H → g x σ H fun σ2 H2 => tb { D with nx := Pv (pre ++ [x]), ct := Pv (pre ++ [x]), bk := D.nx } σ2 H2) (hd : ∀ σ H, Pv xs σ H → D.nx σ H) :
    ∃ W : Nat → Nat → L2.St → Hp → Prop, (∃ m, W 0 m σ H) ∧ ∀ i m σ H, W i m σ H →
      ((Itl K a).stop i H ∧ D.nx σ H) ∨ ((Itl K a).go i H ∧ ∃ N : L2.St → Hp → Prop, (∀ σ' H', N σ' H' → ∃ m', m' < m ∧ W (i + 1) m' σ' H') ∧ ∀ x H', (Itl K a).yld i H x H' → g x σ H' fun σ2 H2 => tb { D with nx := N, ct := N, bk := D.nx } σ2 H2) :=
  for_list (fun i => Pv (xs.take i)) h0 (fun i σ H _ p => hl _ σ H p) (fun i x σ H hx p => by
    rw [(take_pre hx).2]
    exact hs _ x _ σ H (take_pre hx).1 p) (fun σ H p => hd σ H (by rw [List.take_length] at p; exact p))
theorem for_preT (Pv : List V → L2.St → Hp → Prop) (h0 : Pv [] σ H) (hl : ∀ pre σ H, Pv pre σ H → SqT K H a xs)
    (hs : ∀ pre x post σ H, xs = pre ++ x :: post → Pv pre σ H → g x σ H fun σ2 H2 => tb { D with nx := Pv (pre ++ [x]), ct := Pv (pre ++ [x]), bk := D.nx } σ2 H2) (hd : ∀ σ H, Pv xs σ H → D.nx σ H) :
    ∃ W : Nat → Nat → L2.St → Hp → Prop, (∃ m, W 0 m σ H) ∧ ∀ i m σ H, W i m σ H →
      ((Itt K a).stop i H ∧ D.nx σ H) ∨ ((Itt K a).go i H ∧ ∃ N : L2.St → Hp → Prop, (∀ σ' H', N σ' H' → ∃ m', m' < m ∧ W (i + 1) m' σ' H') ∧ ∀ x H', (Itt K a).yld i H x H' → g x σ H' fun σ2 H2 => tb { D with nx := N, ct := N, bk := D.nx } σ2 H2) :=
  for_tup (fun i => Pv (xs.take i)) h0 (fun i σ H _ p => hl _ σ H p) (fun i x σ H hx p => by
    rw [(take_pre hx).2]
    exact hs _ x _ σ H (take_pre hx).1 p) (fun σ H p => hd σ H (by rw [List.take_length] at p; exact p))
/-- for i, x in enumerate(xs) -/
theorem for_enum {i j : Nat} (Pv : List V → L2.St → Hp → Prop) (h0 : Pv [] σ H) (hl : ∀ pre σ H, Pv pre σ H → SqL K H a xs)
    (hs : ∀ pre x post σ H T, xs = pre ++ x :: post → Pv pre σ H → H T = none →
      tb { D with nx := Pv (pre ++ [x]), ct := Pv (pre ++ [x]), bk := D.nx } ((σ.set i (some (.int (pre.length : Nat)))).set j (some x)) (upd H T (.tup [.int (pre.length : Nat), x]))) (hd : ∀ σ H, Pv xs σ H → D.nx σ H) :
    ∃ W : Nat → Nat → L2.St → Hp → Prop, (∃ m, W 0 m σ H) ∧ ∀ k m σ H, W k m σ H →
      ((Ite K a).stop k H ∧ D.nx σ H) ∨ ((Ite K a).go k H ∧ ∃ N : L2.St → Hp → Prop, (∀ σ' H', N σ' H' → ∃ m', m' < m ∧ W (k + 1) m' σ' H') ∧ ∀ x H', (Ite K a).yld k H x H' →
        (gTup K 2 (gCons (gName i) (gCons (gName j) gNil))) x σ H' fun σ2 H2 => tb { D with nx := N, ct := N, bk := D.nx } σ2 H2) := by
  refine ⟨fun k m σ H => m = xs.length - k ∧ k ≤ xs.length ∧ Pv (xs.take k) σ H, ⟨xs.length, by simp, Nat.zero_le _, h0⟩, ?_⟩
  rintro k m σ H ⟨rfl, hk, p⟩
  have q := hl _ σ H p
  by_cases hlt : k < xs.length
  · refine .inr ⟨⟨xs, xs[k], q, by simp [hlt]⟩, Pv (xs.take (k + 1)), fun σ' H' p' => ⟨xs.length - (k + 1), by omega, rfl, hlt, p'⟩, fun v H' y => ?_⟩
    obtain ⟨T, x, rfl, nT, rfl, hx⟩ := y
    have hx := hx xs q
    refine ⟨T, _, rfl, SqT.of upd_same, rfl, _, _, rfl, _, _, rfl, rfl, ?_⟩
    have z := hs _ x _ σ H T (take_pre hx).1 p nT
    rw [(take_pre hx).2]
    rw [show (xs.take k).length = k by rw [List.length_take]; omega] at z
    exact z
  · have e : k = xs.length := by omega
    subst e
    rw [List.take_length] at p
    exact .inl ⟨⟨xs, q, Nat.le_refl _⟩, hd σ H p⟩
/-- [e for x in xs] -/
theorem lc_pre {te : TE} {vs : List Nat} {i : Nat} {H1 : Hp} {L : Addr} {Qd : Hp → Prop} (Pv : List V → Hp → Prop) (h0 : Pv [] (upd H1 L (.lst []))) (hl : ∀ pre H, Pv pre H → SqL K H a xs)
    (hw : ∀ x, wipe ((wipe σ vs).set i (some x)) vs = wipe σ vs)
    (hs : ∀ pre x post H, xs = pre ++ x :: post → Pv pre H → te ((wipe σ vs).set i (some x)) H fun y H4 => ∃ acc, H4 L = some (.lst acc) ∧ acc.length < sizeLine ∧ Pv (pre ++ [x]) (upd H4 L (.lst (acc ++ [y])))) (hd : ∀ H, Pv xs H → Qd H) :
    ∃ W : Nat → Nat → Hp → Prop, (∃ m, W 0 m (upd H1 L (.lst []))) ∧ ∀ k m H, W k m H →
      ((Itl K a).stop k H ∧ Qd H) ∨ ((Itl K a).go k H ∧ ∃ Nx : Hp → Prop, (∀ H', Nx H' → ∃ m', m' < m ∧ W (k + 1) m' H') ∧ ∀ x H', (Itl K a).yld k H x H' → gName i x (wipe σ vs) H' fun σ2 H2 => wipe σ2 vs = wipe σ vs ∧ tYes σ2 H2 fun b H3 =>
        if b = true then te σ2 H3 fun y H4 => ∃ acc, H4 L = some (.lst acc) ∧ acc.length < sizeLine ∧ Nx (upd H4 L (.lst (acc ++ [y]))) else Nx H3) :=
  lc_list (fun k => Pv (xs.take k)) h0 (fun k H _ p => hl _ H p) (fun k x H hx p => ⟨hw x, by
    rw [(take_pre hx).2]
    exact hs _ x _ H (take_pre hx).1 p⟩) (fun H p => hd H (by rw [List.take_length] at p; exact p))
/-- [e for x in range(n)] -/
theorem lc_rng {te : TE} {vs : List Nat} {i : Nat} {n : Nat} {lo : Int} {H1 : Hp} {L : Addr} {Qd : Hp → Prop} (Pv : Nat → Hp → Prop) (h0 : Pv 0 (upd H1 L (.lst [])))
    (hw : ∀ x, wipe ((wipe σ vs).set i (some x)) vs = wipe σ vs)
    (hs : ∀ k H, k < n → Pv k H → te ((wipe σ vs).set i (some (.int (lo + k)))) H fun y H4 => ∃ acc, H4 L = some (.lst acc) ∧ acc.length < sizeLine ∧ Pv (k + 1) (upd H4 L (.lst (acc ++ [y])))) (hd : ∀ H, Pv n H → Qd H) :
    ∃ W : Nat → Nat → Hp → Prop, (∃ m, W 0 m (upd H1 L (.lst []))) ∧ ∀ k m H, W k m H →
      ((Itr lo n).stop k H ∧ Qd H) ∨ ((Itr lo n).go k H ∧ ∃ Nx : Hp → Prop, (∀ H', Nx H' → ∃ m', m' < m ∧ W (k + 1) m' H') ∧ ∀ x H', (Itr lo n).yld k H x H' → gName i x (wipe σ vs) H' fun σ2 H2 => wipe σ2 vs = wipe σ vs ∧ tYes σ2 H2 fun b H3 =>
        if b = true then te σ2 H3 fun y H4 => ∃ acc, H4 L = some (.lst acc) ∧ acc.length < sizeLine ∧ Nx (upd H4 L (.lst (acc ++ [y]))) else Nx H3) :=
  lc_range (lo := lo) (n := n) Pv h0 (fun k H hk p => ⟨hw _, hs k H hk p⟩) hd
end
/-! ### places of lists -/
theorem atI_in {α : Type} {xs : List α} {i : Int} (h0 : 0 ≤ i) (h1 : i < xs.length) : ∃ v, atI xs i = some v ∧ v ∈ xs := by
  obtain ⟨j, rfl⟩ : ∃ j : Nat, i = (j : Int) := ⟨i.toNat, by omega⟩
  have hj : j < xs.length := by omega
  exact ⟨xs[j], atI_nat (List.getElem?_eq_getElem hj), List.getElem_mem hj⟩
theorem small {n : Nat} (h : n ≤ 100000) : n ≤ sizeLine := Nat.le_trans h (by decide)
theorem smallL {n : Nat} (h : n < 100000) : n < sizeLine := Nat.lt_of_lt_of_le h (by decide)
theorem sz {n : Nat} (h : Nat.ble n 100000 = true := by rfl) : n ≤ sizeLine := small (Nat.le_of_ble_eq_true h)
theorem seqIdx {i : Int} {n : Nat} (h0 : 0 ≤ i) (h1 : i < n) : seqIndex? i n = some i.toNat := by
  unfold seqIndex?
  have e : (if i < 0 then i + n else i) = i := by rw [if_neg (by omega)]
  simp only [e]
  rw [if_pos (by simp; omega)]
theorem atN {α : Type} {xs : List α} {i : Int} {v : α} (h0 : 0 ≤ i) (h : atI xs i = some v) : xs[i.toNat]? = some v := by
  obtain ⟨j, rfl⟩ : ∃ j : Nat, i = (j : Int) := ⟨i.toNat, by omega⟩
  unfold atI ixN at h
  rw [if_pos (by omega)] at h
  split at h
  · simpa using h
  · cases h
theorem mem_erase {α : Type} {xs : List α} {k : Nat} {y : α} (h : y ∈ xs.eraseIdx k) : y ∈ xs := List.mem_of_mem_eraseIdx h
/-- the i-th of a paired list -/
theorem prd_get {α β : Type} {F : α → β → Prop} : ∀ {xs : List α} {ys : List β} {i : Nat} {x : α}, Paired F xs ys → xs[i]? = some x → ∃ y, ys[i]? = some y ∧ F x y
  | _, _, _, _, .nil, h => by simp at h
  | _, _, 0, _, .cons r _, h => by
    simp at h
    subst h
    exact ⟨_, rfl, r⟩
  | _, _, i + 1, _, .cons _ t, h => by
    rw [List.getElem?_cons_succ] at h
    obtain ⟨y, h1, h2⟩ := prd_get t h
    exact ⟨y, by rw [List.getElem?_cons_succ]; exact h1, h2⟩
theorem prd_len {α β : Type} {F : α → β → Prop} : ∀ {xs : List α} {ys : List β}, Paired F xs ys → xs.length = ys.length
  | _, _, .nil => rfl
  | _, _, .cons _ t => congrArg (· + 1) (prd_len t)
theorem prd_imp {α β : Type} {F F' : α → β → Prop} (k : ∀ x y, F x y → F' x y) : ∀ {xs : List α} {ys : List β}, Paired F xs ys → Paired F' xs ys
  | _, _, .nil => .nil
  | _, _, .cons r t => .cons (k _ _ r) (prd_imp k t)
theorem prd_app {α β : Type} {F : α → β → Prop} : ∀ {xs xs' : List α} {ys ys' : List β}, Paired F xs ys → Paired F xs' ys' → Paired F (xs ++ xs') (ys ++ ys')
  | _, _, _, _, .nil, s => s
  | _, _, _, _, .cons r t, s => .cons r (prd_app t s)
theorem prd_take {α β : Type} {F : α → β → Prop} : ∀ {xs : List α} {ys : List β} (n : Nat), Paired F xs ys → Paired F (xs.take n) (ys.take n)
  | _, _, 0, _ => .nil
  | _, _, _ + 1, .nil => .nil
  | _, _, n + 1, .cons r t => .cons r (prd_take n t)
/-- each has a partner -/
theorem prd_ex {α β : Type} {F : α → β → Prop} : ∀ {xs : List α}, (∀ x ∈ xs, ∃ y, F x y) → ∃ ys, Paired F xs ys
  | [], _ => ⟨[], .nil⟩
  | x :: r, h => by
    obtain ⟨y, hy⟩ := h x List.mem_cons_self
    obtain ⟨ys, hs⟩ := prd_ex fun x hx => h x (List.mem_cons_of_mem _ hx)
    exact ⟨y :: ys, .cons hy hs⟩
theorem prd_mem {α β : Type} {F : α → β → Prop} {x : α} : ∀ {xs : List α} {ys : List β}, Paired F xs ys → x ∈ xs → ∃ y ∈ ys, F x y
  | _, _, .nil, h => nomatch h
  | _, _, .cons (b := b) r t, h => by
    rcases List.mem_cons.mp h with rfl | h
    · exact ⟨b, List.mem_cons_self, r⟩
    · obtain ⟨y, h1, h2⟩ := prd_mem t h
      exact ⟨y, List.mem_cons_of_mem _ h1, h2⟩
/-- a statement and what follows it, with a word J between them -/
def xCut (t u : TS) : TS := fun D σ H => ∃ J : L2.St → Hp → Prop, t { D with nx := J } σ H ∧ ∀ σ' H', J σ' H' → u D σ' H'
theorem xss_cut {X : Cx} {st : Stmt} {sts : List Stmt} {t u : TS} (h1 : PS X st t) (h2 : PSs X sts u) : PSs X (st :: sts) (xCut t u) := by
  refine ⟨fun pins s0 σ H D I h => ?_⟩
  obtain ⟨J, hj, hu⟩ := h
  refine wpAny_execs_cons (thn (h1.run pins s0 σ H { D with nx := J } I hj) fun fl s2 q => ?_)
  cases fl with
  | next =>
    obtain ⟨σ2, H2, I2, q2⟩ := q
    exact h2.run pins s2 σ2 H2 D I2 (hu σ2 H2 q2)
  | _ => exact q
section
variable {K : PySem.W.Frag} {a : Addr} {xs : List V} {σ : L2.St}
/-- [e for x in xs], by the turn -/
theorem lc_at {te : TE} {vs : List Nat} {i : Nat} {H1 : Hp} {L : Addr} {Qd : Hp → Prop} (Pv : Nat → Hp → Prop) (h0 : Pv 0 (upd H1 L (.lst []))) (hl : ∀ k H, Pv k H → SqL K H a xs)
    (hw : ∀ x, wipe ((wipe σ vs).set i (some x)) vs = wipe σ vs)
    (hs : ∀ k x H, xs[k]? = some x → Pv k H → te ((wipe σ vs).set i (some x)) H fun y H4 => ∃ acc, H4 L = some (.lst acc) ∧ acc.length < sizeLine ∧ Pv (k + 1) (upd H4 L (.lst (acc ++ [y])))) (hd : ∀ H, Pv xs.length H → Qd H) :
    ∃ W : Nat → Nat → Hp → Prop, (∃ m, W 0 m (upd H1 L (.lst []))) ∧ ∀ k m H, W k m H →
      ((Itl K a).stop k H ∧ Qd H) ∨ ((Itl K a).go k H ∧ ∃ Nx : Hp → Prop, (∀ H', Nx H' → ∃ m', m' < m ∧ W (k + 1) m' H') ∧ ∀ x H', (Itl K a).yld k H x H' → gName i x (wipe σ vs) H' fun σ2 H2 => wipe σ2 vs = wipe σ vs ∧ tYes σ2 H2 fun b H3 =>
        if b = true then te σ2 H3 fun y H4 => ∃ acc, H4 L = some (.lst acc) ∧ acc.length < sizeLine ∧ Nx (upd H4 L (.lst (acc ++ [y]))) else Nx H3) :=
  lc_list Pv h0 (fun k H _ p => hl _ H p) (fun k x H hx p => ⟨hw x, hs _ x H hx p⟩) hd
end
theorem take_snoc {α : Type} {xs : List α} {i : Nat} {x : α} (h : xs[i]? = some x) : xs.take (i + 1) = xs.take i ++ [x] := (take_pre h).2
theorem ff {A : Prop} (h : false = true) : A := nomatch h
theorem tt {A : Prop} (h : true = false) : A := nomatch h
/-! ### the same with the written part K said (within a comprehension the reading must not name its context) -/
section
variable {X : Cx} (K : PySem.W.Frag) {a b e o : Expr} {es : List Expr} {ta tb te to : TE} {t : TA} {pos : Pos} {tg : Expr}
theorem ix_k (h : X.K = K := by rfl) : IxR X (yIx K) := h ▸ ix_y
theorem cr_lenK (h : X.K = K := by rfl) : CallR X (.builtin "len") (yLen K) := h ▸ cr_len
theorem op_eqK (hu : X.A.units + 64 < cLine) (h : X.K = K := by rfl) : OpR X (compareOp .Eq) (yEq K) := h ▸ op_eqY hu
theorem op_neK (hu : X.A.units + 64 < cLine) (h : X.K = K := by rfl) : OpR X (compareOp .NotEq) (yNe K) := h ▸ op_neY hu
theorem xt_truK (ha : PE X a ta) (h : X.K = K := by rfl) (he : ∀ whole, isTrue a X.env whole = (do let v ← whole; standAt a.pos; holding [v] (truthy v)) := by intro _; rfl) : PT X a (xTru K ta) := h ▸ xt_tru ha he
theorem call_isK (h : X.K = K := by rfl) : CallR X (.builtin "isinstance") (rIsi K) := h ▸ call_isi
def yList (K : PySem.W.Frag) : List V → Hp → VK → Prop := fun xs H Q => ∃ p ys, xs = [.ref p] ∧ (SqL K H p ys ∨ SqT K H p ys) ∧ ∀ l, H l = none → Q (.ref l) (upd H l (.lst ys))
theorem call_listK (h : X.K = K := by rfl) : CallR X (.type "list") (yList K) := h ▸ call_list_of
def yTup (K : PySem.W.Frag) : List V → Hp → VK → Prop := fun xs H Q => ∃ p ys, xs = [.ref p] ∧ ((SqL K H p ys ∧ ∀ l, H l = none → Q (.ref l) (upd H l (.tup ys))) ∨ (SqT K H p ys ∧ Q (.ref p) H))
theorem call_tupleK (h : X.K = K := by rfl) : CallR X (.type "tuple") (yTup K) := h ▸ call_tuple_of
theorem cr_sumK (hc : X.calm = true) (h : X.K = K := by rfl) : CallR X (.builtin "sum") (rSum K) := h ▸ cr_sum hc
theorem sl_listK (h : X.K = K := by rfl) : SlR X (rSlL K) := h ▸ sl_list
theorem pi_listK (ha : PE X a ta) (h : X.K = K := by rfl) : PI X tg a (iList K ta) := h ▸ pi_list ha
theorem pi_tupK (ha : PE X a ta) (h : X.K = K := by rfl) : PI X tg a (iTup K ta) := h ▸ pi_tup ha
theorem pe_bmK {T id : String} {name : Str} {apos cpos : Pos} {r : V → List V → Hp → VK → Prop} (pa : PlainAttrs T) (slot : Slot T name id) (hty : typeOf (.builtin id) = pure (.type "method_descriptor")) (hm : MtR X id r) (ho : PE X o to) (ha : PA X (e :: es) t) (hK : X.K = K := by rfl)
    (hbase : attributeBase o name X.env (eval o X.env) = eval o X.env := by rfl)
    (hfew : ((backTo cpos (starEach (e :: es) X.env)).all (fun x => !x.1) && (backToKw cpos (keywordEach [] X.env)).all (fun x => x.1.isSome)
      && decide ((e :: es).length + ([] : List Keyword).length + (if ([] : List Keyword).isEmpty then 0 else 1) < 30)) = true := by rfl)
    (hline : (apos.endLine == cpos.line) = true := by rfl) (hs : starEach (e :: es) X.env = (false, eval e X.env) :: starEach es X.env := by rfl) (hplain : (backTo cpos (starEach es X.env)).any (·.1) = false := by rfl) :
    PE X (.Call (.Attribute o name apos) (e :: es) [] cpos) (tBM K T r to t) := hK ▸ pe_bm pa slot hty hm ho ha hbase hfew hline hs hplain
end
section
variable {X : Cx} {a b c o : Expr} {ta tb tc : TE} {pos : Pos}
/-- a op1 b op2 c, b asked once -/
def xChain (r r' : R2) (ta tb tc : TE) : TE := fun σ H Q => ta σ H fun x H1 => tb σ H1 fun y H2 => r x y H2 fun z H3 => match z with
  | .bl k => (k = true → tc σ H3 fun w' H4 => r' y w' H4 Q) ∧ (k = false → Q (.bl false) H3)
  | _ => False
theorem xe_chain {op op' : CmpOp} {r r' : R2} (ho : OpR X (compareOp op) r) (ho' : OpR X (compareOp op') r') (ha : PE X a ta) (hb : PE X b tb) (hc : PE X c tc)
    (hm : lastMarks [op, op'] [b, c] = false := by with_unfolding_all rfl) : PE X (.Compare a [op, op'] [b, c] pos) (xChain r r' ta tb tc) := by
  refine ⟨fun pins s0 σ H Q J h => ?_⟩
  refine Compare_chain (thn (ha.run pins s0 σ H _ J h) fun v s1 ⟨x, H1, J1, r1, q1⟩ => chain_link (thn (hb.run pins s1 σ H1 _ J1 q1) fun u s2 ⟨y, H2, J2, r2, q2⟩ =>
    thn (ho pins s2 σ H2 x y v u _ J2 r1 r2 q2) fun d s3 ⟨z, H3, J3, r3, q3⟩ => ?_)) hm
  cases z with
  | bl k =>
    cases r3
    refine wpAny_truthy_bool ?_
    cases k with
    | false => exact ite_ff ⟨.bl false, H3, J3, rfl, q3.2 rfl⟩
    | true => exact ite_tt (chain_last (thn (hc.run pins s3 σ H3 _ J3 (q3.1 rfl)) fun w' s4 ⟨z', H4, J4, r4, q4⟩ => ho' pins s4 σ H4 y z' u w' Q J4 r2 r4 q4))
  | _ => exact False.elim q3
theorem xt_chain {op op' : CmpOp} {r r' : R2} (ho : OpR X (compareOp op) r) (ho' : OpR X (compareOp op') r') (ha : PE X a ta) (hb : PE X b tb) (hc : PE X c tc)
    (hm : lastMarks [op, op'] [b, c] = false := by with_unfolding_all rfl) : PT X (.Compare a [op, op'] [b, c] pos) (xB (xChain r r' ta tb tc)) := by
  refine ⟨fun pins s0 σ H Q J h => ?_⟩
  refine isTrue_chain (thn (ha.run pins s0 σ H _ J h) fun v s1 ⟨x, H1, J1, r1, q1⟩ => test_link (thn (hb.run pins s1 σ H1 _ J1 q1) fun u s2 ⟨y, H2, J2, r2, q2⟩ =>
    thn (ho pins s2 σ H2 x y v u _ J2 r1 r2 q2) fun d s3 ⟨z, H3, J3, r3, q3⟩ => ?_)) hm
  cases z with
  | bl k =>
    cases r3
    refine wpAny_truthy_bool ?_
    cases k with
    | false => exact ite_ff ⟨H3, J3, q3.2 rfl⟩
    | true =>
      refine ite_tt (test_last (thn (hc.run pins s3 σ H3 _ J3 (q3.1 rfl)) fun w' s4 ⟨z', H4, J4, r4, q4⟩ => thn (ho' pins s4 σ H4 y z' u w' _ J4 r2 r4 q4) fun d' s5 ⟨z2, H5, J5, r5, q5⟩ => ?_))
      cases z2 with
      | bl k2 =>
        cases r5
        exact wpAny_truthy_bool ⟨H5, J5, q5⟩
      | _ => exact False.elim q5
  | _ => exact False.elim q3
/-- while: a word with its measure -/
def xWhile (c : TT) (tb : TS) : TS := fun D σ H => ∃ W : Nat → L2.St → Hp → Prop, (∃ m, W m σ H) ∧ ∀ m σ H, W m σ H → c σ H fun b H1 =>
  (b = true → tb { D with nx := fun σ' H' => ∃ m', m' < m ∧ W m' σ' H', ct := fun σ' H' => ∃ m', m' < m ∧ W m' σ' H', bk := D.nx } σ H1) ∧ (b = false → D.nx σ H1)
theorem xs_while {c : Expr} {body : List Stmt} {tc : TT} {tb : TS} (hp : PassesOwn (model X.prog X.w) X.A X.env X.xe) (hc : PT X c tc) (hb : PSs X body tb) : PS X (.While c body [] pos) (xWhile tc tb) := by
  refine ⟨fun pins s0 σ H D J h => ?_⟩
  obtain ⟨W, ⟨m0, w0⟩, turn⟩ := h
  refine wpAny_While (codeAny_whileLoop (fun n s' => ∃ σ' H', L2.Inv X pins σ' H' s' ∧ W n σ' H') ?_ m0 ⟨σ, H, J, w0⟩)
  rintro n s1 ⟨σ1, H1, J1, w1⟩
  refine wpAny_passesOwn hp (thn (hc.run pins s1 σ1 H1 _ J1 (turn n σ1 H1 w1)) fun k s2 ⟨H2, J2, q2⟩ => ?_)
  cases k with
  | true =>
    rw [if_pos rfl]
    refine wpAny_passesOwn hp (thn (hb.run pins s2 σ1 H2 _ J2 (q2.1 rfl)) fun f s3 q3 => ?_)
    cases f with
    | next =>
      obtain ⟨σ3, H3, J3, m', hm, w3⟩ := q3
      exact ⟨m', hm, σ3, H3, J3, w3⟩
    | cont =>
      obtain ⟨σ3, H3, J3, m', hm, w3⟩ := q3
      exact ⟨m', hm, σ3, H3, J3, w3⟩
    | brk => exact q3
    | ret v => exact q3
  | false =>
    rw [if_neg Bool.false_ne_true]
    exact wpAny_execs_nil ⟨σ1, H2, J2, q2.2 rfl⟩
/-- a comparison by an own method (__le__ ..) of two instances of C -/
def yOwn (C : Addr) (sp : Sp) (E : XK) : R2 := fun x y H Q => ∃ a b dx dy fs gs, x = .ref a ∧ y = .ref b ∧ H a = some (.ins C dx fs) ∧ H b = some (.ins C dy gs) ∧ sp [.ref a, .ref b] H Q E
theorem op_own {CX : CXT} {C f : Addr} {fd : FuncData} {ps : List Str} {sp : Sp} {E : XK} {op : CmpOp} {n : Nat} (hop : compareOp op = richCompare op) (F : FnOk X.prog X.w X.K X.mg X.base CX n f fd ps sp)
    (hs : PySem.W.findIn X.K (.ref C) (cmpInfo op).2.1 = some (some (.ref f))) (hf : PySem.W.isFn X.K (.ref f) = true) (hb : Binds X.K fd ps []) (hx : Passes CX X E) (hr : Room n X.A) : OpR X (compareOp op) (yOwn C sp E) := by
  intro pins s σ H x y u v Q I rx ry h
  obtain ⟨a, b, dx, dy, fs, gs, rfl, rfl, ha, hb', hsp⟩ := h
  cases rx
  cases ry
  rw [hop]
  obtain ⟨mA, J1, _⟩ := ins_get I.hok ha
  obtain ⟨mB, J2, _⟩ := ins_get I.hok hb'
  obtain ⟨od, J1, _⟩ := J1.look
  obtain ⟨od', J2, _⟩ := J2.look
  obtain ⟨m, hF⟩ := I.fr
  refine PySem.W.cmp_K (op := op) (tb := .ref C) hr.units0 hF I.ok.mod.kin J1 J2.type (by simp [PySem.W.notFirst]) hs hf ?_
  have hl := F.len _ _ _ _ hsp
  refine wpAny_mono (run_fn (us := [.ref a, .ref b]) (vs := [.ref a, .ref b]) (dvs := []) F hr hb .nil hx I (.cons rfl (.cons rfl .nil)) hsp) (fun v s' q => ?_) fun _ _ e => e
  obtain ⟨z, H', I', rz, q⟩ := q
  have fin : EP X pins σ Q v s' := ⟨z, H', I', rz, q⟩
  cases v <;> first | exact fin | (cases z <;> first | exact absurd (show _ = _ from rz) (by intro e; cases e) | (obtain ⟨_, e⟩ := rz; cases e))
variable (K : PySem.W.Frag)
theorem pe_fldK {f : Str} (ha : PE X a ta) (hb : attributeBase a f X.env (eval a X.env) = eval a X.env := by rfl) (h : X.K = K := by rfl) : PE X (.Attribute a f pos) (tFld K ta f) := h ▸ pe_fld ha hb
theorem in_seqK (h : X.K = K := by rfl) : OpR X (compareOp .In) (rIn K false) := h ▸ op_in_seq
theorem notin_seqK (h : X.K = K := by rfl) : OpR X (compareOp .NotIn) (rIn K true) := h ▸ op_notIn_seq
theorem mt_countK (h : X.K = K := by rfl) : MtR X "list.count" (rCntI K) := h ▸ mt_lcount
theorem cr_allK (hc : X.calm = true) (h : X.K = K := by rfl) : CallR X (.builtin "all") (rAll K) := h ▸ cr_all hc
theorem cr_anyK (hc : X.calm = true) (h : X.K = K := by rfl) : CallR X (.builtin "any") (rAny K) := h ▸ cr_any hc
end
theorem xe_glob {X : Cx} {x z : Str} {pos : Pos} (hg : Gl X x) (hm : ∃ t, X.mg x = some (.str z t)) (hd : (x == ("__debug__" : Str)) = false := by decide) : PE X (.Name x pos) (tC (.str z)) := by
  obtain ⟨t, hm⟩ := hm
  exact pe_glob hg hm ⟨_, rfl⟩ hd
theorem xe_globI {X : Cx} {x : Str} {z : Int} {pos : Pos} (hg : Gl X x) (hm : ∃ t, X.mg x = some (.int z t)) (hd : (x == ("__debug__" : Str)) = false := by decide) : PE X (.Name x pos) (tC (.int z)) := by
  obtain ⟨t, hm⟩ := hm
  exact pe_glob hg hm ⟨_, rfl⟩ hd
theorem prd_unsnoc {α β : Type} {F : α → β → Prop} {x : α} : ∀ {xs : List α} {ys : List β}, Paired F (xs ++ [x]) ys → ∃ ys' y, ys = ys' ++ [y] ∧ Paired F xs ys' ∧ F x y
  | [], _, .cons r .nil => ⟨[], _, rfl, .nil, r⟩
  | _ :: xs, _, .cons (b := b) r t => by
    obtain ⟨ys', y, rfl, h1, h2⟩ := prd_unsnoc (xs := xs) t
    exact ⟨b :: ys', y, rfl, .cons r h1, h2⟩
theorem nil_or_snoc {α : Type} (xs : List α) : xs = [] ∨ ∃ ys y, xs = ys ++ [y] := by
  rcases List.eq_nil_or_concat xs with h | ⟨ys, y, h⟩
  · exact .inl h
  · exact .inr ⟨ys, y, by simpa using h⟩
theorem pg_tupK {X : Cx} (K : PySem.W.Frag) (n : Nat) {es : List Expr} {k : Nat} {pos : Pos} {t : TGs} (h : PGs X es t) (hc : X.calm = true := by rfl) (hK : X.K = K := by rfl)
    (hn : (assignEach es X.env).length = n := by rfl) (hst : (assignEach es X.env).findIdx? (·.1) = none := by rfl) : PG X (.Tuple es k pos) (gTup K n t) := hK ▸ pg_tup hc h hn hst
theorem perm_erase {α : Type} : ∀ {xs : List α} {i : Nat} {x : α}, xs[i]? = some x → (x :: xs.eraseIdx i).Perm xs
  | [], _, _, h => by simp at h
  | y :: r, 0, x, h => by
    simp at h
    subst h
    exact List.Perm.refl _
  | y :: r, i + 1, x, h => by
    rw [List.getElem?_cons_succ] at h
    exact (List.Perm.swap _ _ _).trans (List.Perm.cons _ (perm_erase h))
theorem Sep.new2 {G H : Hp} {M : List (Addr × HO)} {x dx : Addr} {o u : HO} (S : Sep G M H) (h1 : H x = Option.none) (h2 : H dx = Option.none) (ne : dx ≠ x) : Sep G ((x, o) :: (dx, u) :: M) (upd (upd H dx u) x o) :=
  (S.new h2).new (by rw [upd_ne (Ne.symm ne)]; exact h1)
end XL
set_option Elab.async false
set_option linter.all false
set_option maxRecDepth 100000
set_option maxHeartbeats 4000000
/-! XIter: enumerate of a tuple. -/
namespace XL
open PySem PySem.Spec PyProof.Rows L2
theorem meets_enum1 {v : Value} {o : Obj} {Hq : Heap → Prop} (B : Begins v o Hq) :
    Meets (Builtin.«enumerate.__new__» ⟨[.type "enumerate", v], []⟩) (fun _ R s => Hq s.heap ∧
      R (.ok (.ret (.ref (s.heap.push o).objs.size))) { s with heap := (s.heap.push o).push { cls := .type "enumerate", data := .fields #[.none, .bool false, .ref s.heap.objs.size, rawInt 0, .none, .none] } }) :=
  .of_wp fun prog w A R s z => by
    obtain ⟨hp, g, d, tk, os⟩ := s
    obtain ⟨z1, z2⟩ := z
    have hsub := sub_enumerate
    have begin1 : ∀ {A' : Around} {E : Value → Shared → Prop} {Q : Value → Shared → Prop}, Q (.ref hp.objs.size) ⟨hp.push o, g, d, tk, os⟩ → wpAny (model prog w) A' (pyIter v) Q E ⟨hp, g, d, tk, os⟩ := fun q => B.iter prog w _ _ ⟨hp, g, d, tk, os⟩ _ z1 q
    wp_walk using begin1
    refine wpAny_stack_any fun st => wpAny_pure ?_
    split
    · rename_i c _ _ _ _ _
      cases (c == Value.type "enumerate") <;> (wp_walk using begin1; exact ⟨_, rfl, z2⟩)
    · wp_walk using begin1
      exact ⟨_, rfl, z2⟩
theorem call_enum1 {prog : Program} {w : World} {A : Around} {E : Value → Shared → Prop} {s : Shared} {v : Value} {o : Obj} {Hq : Heap → Prop} {Q : Value → Shared → Prop} (B : Begins v o Hq) (h1 : Hq s.heap)
    (k : ∀ h', IsEnum h' (s.heap.objs.size + 1) s.heap.objs.size 0 .none → h'.get? s.heap.objs.size = some o → (∀ b o, s.heap.get? b = some o → h'.get? b = some o) → Q (.ref (s.heap.objs.size + 1)) { s with heap := h' }) :
    wpAny (model prog w) A (call (.type "enumerate") [v]) Q E s := by
  refine callType_new F.called_enumerate (by decide) (F.typeCall_enumerate_1 _) (F.newCall_enumerate_1 _) (fun ob => F.args_object_init_2 ob _) F.entry_enumerate_new (meets_enum1 B) ⟨h1, ?_⟩
  have hz : (s.heap.push o).objs.size = s.heap.objs.size + 1 := Heap.size_push ..
  show _ ∧ _
  rw [hz]
  have he : IsEnum ((s.heap.push o).push { cls := .type "enumerate", data := .fields #[.none, .bool false, .ref s.heap.objs.size, rawInt 0, .none, .none] }) (s.heap.objs.size + 1) s.heap.objs.size 0 .none := by
    have z := Heap.get?_push_size (s.heap.push o) (o := { cls := .type "enumerate", data := .fields #[.none, .bool false, .ref s.heap.objs.size, rawInt 0, .none, .none] }) rfl
    rw [hz] at z
    exact z
  exact ⟨⟨_, he, rfl⟩, k _ he (Heap.get?_push_of_some _ (Heap.get?_push_size _ B.free)) fun b o x => Heap.get?_push_of_some _ (Heap.get?_push_of_some _ x)⟩
/-- the tuple at a, each item in a new pair -/
def IteT (K : PySem.W.Frag) (a : Addr) : It :=
  ⟨fun i H => ∃ (xs : List V) (x : V), SqT K H a xs ∧ xs[i]? = some x, fun i H v H' => ∃ T x, v = .ref T ∧ H T = none ∧ H' = upd H T (.tup [.int (i : Nat), x]) ∧ ∀ xs, SqT K H a xs → xs[i]? = some x, fun i H => ∃ xs : List V, SqT K H a xs ∧ xs.length ≤ i⟩
theorem turn_enumT {P : Program} {w : World} {K : PySem.W.Frag} {elts : List Expr} {kk : Nat} {tpos : Pos} (a e it : Addr) (hai : a ≠ it) (hae : a ≠ e) :
    Turn P w K (.Tuple elts kk tpos) (IteT K a) [e, it] e (fun i h => (∃ old, IsEnum h e it ((i : Nat) : Int) old) ∧ h.IsTupleIter it a i ∧ e ≠ it) where
  mem := by simp
  obj := fun i h st b hb => by
    obtain ⟨⟨old, he⟩, ⟨o, ho, hc, hd⟩, _⟩ := st
    have q : b = e ∨ b = it := by simpa using hb
    rcases q with z | z
    · rw [z]; exact ⟨_, he, fun v q => nomatch q⟩
    · rw [z]; exact ⟨o, ho, fun v q => by rw [hd] at q; cases q⟩
  keep := fun i h h' st k => let ⟨⟨old, he⟩, hi, hne⟩ := st; ⟨⟨old, k e (by simp) _ he⟩, hi.at fun o q => k it (by simp) o q, hne⟩
  item := by
    intro X hP hw hK hc i pins s σ H E I hf st hg
    subst hP hw hK
    obtain ⟨⟨old, he⟩, hit, hne⟩ := st
    obtain ⟨xs, x, hq, hx⟩ := hg
    obtain ⟨its, rv, p, hz⟩ := I.tuple hq
    obtain ⟨u, hu, ru⟩ := rv.get hx
    have hel : e < s.heap.objs.size := Heap.lt_size he
    have hil : it < s.heap.objs.size := by obtain ⟨_, q, _⟩ := hit; exact Heap.lt_size q
    have hlen : i < its.toArray.size := by
      have z := (List.getElem?_eq_some_iff.mp hu).1
      simpa using z
    refine wpAny_pyNext_enum_itemC (c := ((i : Nat) : Int)) (Draws.tuple (A := X.A.in1) (I.ok.hd hc) it a hai its.toArray) he ⟨hit, p⟩ hlen hne (by simp; exact ⟨hne, fun z => hae z.symm⟩) fun y h' tk hy ho st' hT hsz hk => ?_
    have ey : y = u := by
      have z : its[i]? = some y := by simpa using hy
      rw [hu] at z
      exact (Option.some.inj z).symm
    subst ey
    refine ⟨_, rfl, wpAny_letOwnedTupleGo_enum (s := { s with heap := h', toks := tk + 1 }) ho fun h'' he' sb => ?_⟩
    have hT2 : h''.get? s.heap.objs.size = some { cls := .type "tuple", data := .seq #[.int i tk, y] } := (sb.2 _ (Nat.ne_of_gt hel)).trans hT
    have new : ObjOk X.prog X.w (upd H s.heap.objs.size (.tup [.int (i : Nat), x])) h'' s.heap.objs.size (.tup [.int (i : Nat), x]) :=
      ⟨by show 2 ≤ sizeLine; decide, [.int i tk, y], .cons ⟨_, rfl⟩ (.cons ru .nil), ⟨_, hT2, rfl, _, rfl⟩⟩
    have I1 : L2.Inv X pins σ (upd H s.heap.objs.size (.tup [.int (i : Nat), x])) { s with heap := h'', toks := tk + 1 } :=
      I.turnedNew (ch := [e, it]) (fun b ob hb q => (sb.2 b (fun z => hb (by simp [z]))).trans (hk b ob (fun z => hb (by simp [z])) (fun z => hb (by simp [z])) q)) hf (Nat.le_refl _) new
    refine ⟨.ref s.heap.objs.size, _, I1, rfl, ⟨_, x, rfl, I.hok.fresh (Nat.le_refl _), rfl, fun ys hy => by rw [I.tuple_inj hy hq]; exact hx⟩, ⟨⟨y, ?_⟩, st'.1.at fun o q => (sb.2 it (Ne.symm hne)).trans q, hne⟩, fun b hb => ?_⟩
    · have e1 : ((i + 1 : Nat) : Int) = (i : Int) + 1 := by omega
      rw [e1]; exact he'
    · have hb2 : b < s.heap.objs.size := by
        have q : b = e ∨ b = it := by simpa using hb
        rcases q with z | z
        · rw [z]; exact hel
        · rw [z]; exact hil
      rw [upd_ne (Nat.ne_of_lt hb2)]
      exact (hf b hb).1
  done := by
    intro X hP hw hK hc i pins s σ H E I hf st hg
    subst hP hw hK
    obtain ⟨⟨old, he⟩, hit, hne⟩ := st
    obtain ⟨xs, hq, hx⟩ := hg
    obtain ⟨its, rv, p, hz⟩ := I.tuple hq
    obtain ⟨f0, f1, f2, f3, f4, f5⟩ := hf it (by simp)
    have hl := rv.length
    have D := Draws.tuple (prog := X.prog) (w := X.w) (A := X.A.in1) (I.ok.hd hc) it a hai its.toArray
    by_cases hi : i = its.toArray.size
    · subst hi
      exact wpAny_pyNext_enum_endD D he ⟨hit, p⟩ fun h' eb => ⟨rfl, I.turned (t' := s.toks) (fun b o hb q => eb b o hb q) f0 f1 f3 f4 f5⟩
    · have D2 : Draws X.prog X.w X.A.in1 it [it, a] i (fun _ _ => False) (fun j h => (j = i ∨ False) ∧ h.IsTupleIter it a i ∧ h.IsTuple a its.toArray) := {
        live := fun _ _ st => let ⟨o, ho, _⟩ := st.2.1; ⟨o, ho⟩
        frame := fun _ _ _ st hk => ⟨st.1, st.2.1.at fun o e => hk it (by simp) o e, st.2.2.at fun o e => hk a (by simp) o e⟩
        item := fun j s Q E hj st hQ => by
          rcases st.1 with z | z
          · omega
          · exact z.elim
        done := fun s Q E st hE => wpAny_nextOf_tuple_end (I.ok.hd hc) st.2.1 st.2.2 (by
          simp only [List.getElem?_toArray]
          exact List.getElem?_eq_none_iff.mpr (by omega)) hE }
      exact wpAny_pyNext_enum_endD D2 he ⟨.inl rfl, hit, p⟩ fun h' eb => ⟨rfl, I.turned (t' := s.toks) (fun b o hb q => eb b o hb q) f0 f1 f3 f4 f5⟩
  self := fun A i s Q E st h => let ⟨⟨_, he⟩, _⟩ := st; wpAny_pyIter_enum he h
def iEnumT (K : PySem.W.Frag) (ta : TA) : TI := fun σ H R => ta σ H fun vs H1 => ∃ a xs, vs = [.ref a] ∧ SqT K H1 a xs ∧ R (IteT K a) H1
theorem pi_enumT {X : Cx} {e : Expr} {ta : TA} {p pos tpos : Pos} {elts : List Expr} {kk : Nat} (hg : Gl X "enumerate") (hm : X.mg "enumerate" = none) (ha : PA X [e] ta) (hs : starEach [e] X.env = [(false, eval e X.env)] := by rfl) :
    PI X (.Tuple elts kk tpos) (.Call (.Name "enumerate" p) [e] [] pos) (iEnumT X.K ta) := by
  refine ⟨fun pins s σ H R I h => ?_⟩
  refine Call_ (ld_blt I hg hm boot_enumerate (PyProof.Rows.callWith_type1 (thn (ha.run pos pins s σ H _ I h) fun us s1 ⟨vs, H1, I1, r1, q1⟩ => ?_) hs rfl))
  obtain ⟨a, xs, ex, hq, q⟩ := q1
  subst ex
  cases r1 with
  | cons r rr =>
    cases rr
    cases r
    obtain ⟨its, rv, p', hz⟩ := I1.tuple hq
    have hal : a < s1.heap.objs.size := by obtain ⟨o, ho, _⟩ := p'; exact Heap.lt_size ho
    refine call_enum1 (begins_tuple a its.toArray) p' fun h' he hit hk => wpAny_pyIter_enum he ?_
    have I2 : L2.Inv X pins σ H1 { s1 with heap := h' } := I1.kept (t' := s1.toks) hk
    refine ⟨s1.heap.objs.size + 1, [s1.heap.objs.size + 1, s1.heap.objs.size], _, _, H1, rfl, I2, turn_enumT a (s1.heap.objs.size + 1) s1.heap.objs.size (Nat.ne_of_lt hal) (Nat.ne_of_lt (Nat.lt_succ_of_lt hal)), ⟨⟨.none, he⟩, ⟨_, hit, rfl, rfl⟩, Nat.succ_ne_self _⟩, fun b hb => ?_, q⟩
    have q' : b = s1.heap.objs.size + 1 ∨ b = s1.heap.objs.size := by simpa using hb
    have hle : s1.heap.objs.size ≤ b := by
      rcases q' with z | z
      · rw [z]; exact Nat.le_add_right _ _
      · rw [z]; exact Nat.le_refl _
    exact I1.fpOk hle (I1.hok.fresh hle)
theorem for_enumT {K : PySem.W.Frag} {a : Addr} {xs : List V} {tb : TS} {D : Ends} {σ : L2.St} {H : Hp} {i j : Nat} (Pv : Nat → L2.St → Hp → Prop) (h0 : Pv 0 σ H) (hl : ∀ k σ H, Pv k σ H → SqT K H a xs)
    (hs : ∀ k x σ H T, xs[k]? = some x → Pv k σ H → H T = none →
      tb { D with nx := Pv (k + 1), ct := Pv (k + 1), bk := D.nx } ((σ.set i (some (.int (k : Nat)))).set j (some x)) (upd H T (.tup [.int (k : Nat), x]))) (hd : ∀ σ H, Pv xs.length σ H → D.nx σ H) :
    ∃ W : Nat → Nat → L2.St → Hp → Prop, (∃ m, W 0 m σ H) ∧ ∀ k m σ H, W k m σ H →
      ((IteT K a).stop k H ∧ D.nx σ H) ∨ ((IteT K a).go k H ∧ ∃ N : L2.St → Hp → Prop, (∀ σ' H', N σ' H' → ∃ m', m' < m ∧ W (k + 1) m' σ' H') ∧ ∀ x H', (IteT K a).yld k H x H' →
        (gTup K 2 (gCons (gName i) (gCons (gName j) gNil))) x σ H' fun σ2 H2 => tb { D with nx := N, ct := N, bk := D.nx } σ2 H2) := by
  refine ⟨fun k m σ H => m = xs.length - k ∧ k ≤ xs.length ∧ Pv k σ H, ⟨xs.length, by simp, Nat.zero_le _, h0⟩, ?_⟩
  rintro k m σ H ⟨rfl, hk, p⟩
  have q := hl _ σ H p
  by_cases hlt : k < xs.length
  · refine .inr ⟨⟨xs, xs[k], q, by simp [hlt]⟩, Pv (k + 1), fun σ' H' p' => ⟨xs.length - (k + 1), by omega, rfl, hlt, p'⟩, fun v H' y => ?_⟩
    obtain ⟨T, x, rfl, nT, rfl, hx⟩ := y
    refine ⟨T, _, rfl, SqT.of upd_same, rfl, _, _, rfl, _, _, rfl, rfl, ?_⟩
    exact hs k x σ H T (hx xs q) p nT
  · have e : k = xs.length := by omega
    subst e
    exact .inl ⟨⟨xs, q, Nat.le_refl _⟩, hd σ H p⟩
end XL
set_option Elab.async false
set_option linter.all false
set_option maxRecDepth 100000
set_option maxHeartbeats 4000000
/-! XDeep: x in t, t.index(x), items data of any depth, t a list or a tuple. -/
namespace XL
open PySem PySem.Spec PyProof.Rows L2
section
variable {X : Cx} (K : PySem.W.Frag)
def rInX (K : PySem.W.Frag) (neg : Bool) : R2 := fun x y H Q => ∃ d ds, Dp K H x d ∧ (Dp K H y (.list ds) ∨ Dp K H y (.tuple ds)) ∧ SeqAt.shaped d = true ∧ PyData.canLayAll0 ds = true ∧ Q (.bl (if neg then !(ds.any fun z => PyData.eqv z d) else ds.any fun z => PyData.eqv z d)) H
theorem in_deepK (hu : X.A.units + 65 < cLine) (h : X.K = K := by rfl) : OpR X (compareOp .In) (rInX K false) := by
  subst h
  intro pins s σ H x y v u Q I rx ry h
  obtain ⟨d, ds, hd, he, sd, se, q⟩ := h
  obtain ⟨as, r1⟩ := Dp.reads I d x v hd rx
  rcases he with he | he
  · obtain ⟨bs, r2⟩ := Dp.reads I (.list ds) y u he ry
    exact SeqAt.in_list_reads r2 r1 se (SeqAt.canLay_of_shaped sd) (room_in_shaped sd hu) ⟨.bl _, H, I, rfl, q⟩
  · obtain ⟨bs, r2⟩ := Dp.reads I (.tuple ds) y u he ry
    exact SeqAt.in_tuple_reads r2 r1 se (SeqAt.canLay_of_shaped sd) (room_in_shaped sd hu) ⟨.bl _, H, I, rfl, q⟩
theorem notin_deepK (hu : X.A.units + 65 < cLine) (h : X.K = K := by rfl) : OpR X (compareOp .NotIn) (rInX K true) := by
  subst h
  intro pins s σ H x y v u Q I rx ry h
  obtain ⟨d, ds, hd, he, sd, se, q⟩ := h
  obtain ⟨as, r1⟩ := Dp.reads I d x v hd rx
  rcases he with he | he
  · obtain ⟨bs, r2⟩ := Dp.reads I (.list ds) y u he ry
    exact SeqAt.notIn_list_reads r2 r1 se (SeqAt.canLay_of_shaped sd) (room_in_shaped sd hu) ⟨.bl _, H, I, rfl, q⟩
  · obtain ⟨bs, r2⟩ := Dp.reads I (.tuple ds) y u he ry
    exact SeqAt.notIn_tuple_reads r2 r1 se (SeqAt.canLay_of_shaped sd) (room_in_shaped sd hu) ⟨.bl _, H, I, rfl, q⟩
/-- t.index(x), t a tuple: the first place of an equal one -/
def rIndexT (K : PySem.W.Frag) : V → List V → Hp → VK → Prop := fun x xs H Q => ∃ (a : Addr) (y : V) (d : PyData) (ds : List PyData) (j : Nat) (z : PyData), x = V.ref a ∧ xs = [y] ∧ Dp K H (V.ref a) (.tuple ds) ∧ Dp K H y d ∧
  PyData.canLayAll0 ds = true ∧ SeqAt.shaped d = true ∧ ds[j]? = some z ∧ PyData.eqv z d = true ∧ (∀ (m : Nat) (z' : PyData), m < j → ds[m]? = some z' → PyData.eqv z' d = false) ∧ Q (.int (j : Nat)) H
theorem mt_tindexK (hu : X.A.units + 65 < cLine) (h : X.K = K := by rfl) : MtR X "tuple.index" (rIndexT K) := by
  subst h
  intro pins s σ H x xs v us Q I rx rxs h
  obtain ⟨a, y, d, ds, j, z, rfl, rfl, hl, hy, hxs, sd, hz, hzj, hno, q⟩ := h
  cases rx
  cases rxs with
  | cons ry rt =>
    rename_i uy ut
    cases rt
    obtain ⟨bs, r1⟩ := Dp.reads I d y uy hy ry
    have hroom : X.A.units + 1 + min (PyData.depthAll ds) d.depth < cLine := room_in_shaped sd hu
    cases hl with
    | tup hs ha =>
      obtain ⟨its, rv, ⟨⟨cls, dd, data, sls⟩, ho, hc, n, hdt⟩, hlen⟩ := I.tuple hs
      simp only at hc hdt
      subst hc hdt
      obtain ⟨as, h4⟩ := Dp.readsAll I ds _ its ha rv
      have hn : its.length = ds.length := SeqAt.ReadsAll.length ds its as h4
      have hmap : its.map (SeqAt.readOf s.heap) = ds := SeqAt.readsAll_map ds its as hxs h4
      have hvl := rv.length
      obtain ⟨hjd, _⟩ := List.getElem?_eq_some_iff.mp hz
      have hjl : j < its.length := by omega
      have hj : j < its.toArray.size := by simpa using hjl
      have at_ : ∀ (m : Nat) (hm : m < its.toArray.size) (z' : PyData), ds[m]? = some z' → SeqAt.readOf s.heap its.toArray[m] = z' := by
        intro m hm z' hz'
        have hml : m < its.length := by simpa using hm
        rw [← hmap, List.getElem?_map, List.getElem?_eq_getElem hml] at hz'
        have e1 : SeqAt.readOf s.heap its[m] = z' := Option.some.inj (show some (SeqAt.readOf s.heap its[m]) = some z' from hz')
        simpa using e1
      refine call_meets PySem.F.slot_tuple_index ⟨_, ho, rfl⟩ PySem.F.entry_tuple_index (PySem.F.args_tuple_index_2 _ _)
        (TI.tuple_indexAt a its.toArray n dd sls uy (fun u => PyData.eqv (SeqAt.readOf s.heap u) d) j hj ?_ ?_) ⟨ho, SeqAt.items_eqAt (vs := its.toArray) (show ReadsAll s.heap its.toArray.toList ds as from h4) r1 hxs (SeqAt.canLay_of_shaped sd) hroom, ?_⟩
      · show PyData.eqv (SeqAt.readOf s.heap its.toArray[j]) d = true
        rw [at_ j hj z hz]
        exact hzj
      · intro m hm hmj
        have hmd : m < ds.length := by omega
        have hz' : ds[m]? = some ds[m] := List.getElem?_eq_getElem hmd
        show PyData.eqv (SeqAt.readOf s.heap its.toArray[m]) d = false
        rw [at_ m hm _ hz']
        exact hno m _ hmj hz'
      · exact ⟨.int (j : Nat), H, I.tok _, ⟨_, rfl⟩, q⟩
end
theorem u65 {k : Nat} {A : Around} (r : Room k A) : A.units + 65 < cLine := by have := r.un; omega
/-- xs[::-1] of a list -/
def tRev (K : PySem.W.Frag) (te : TE) : TE := fun σ H Q => te σ H fun x H1 => ∃ a xs, x = .ref a ∧ SqL K H1 a xs ∧ ∀ p, H1 p = none → Q (.ref p) (upd H1 p (.lst xs.reverse))
theorem pe_rev {X : Cx} {e m : Expr} {te : TE} {p2 pos : Pos} (he : PE X e te) (hm : PE X m (tC (.int (-1)))) : PE X (.Subscript e (.Slice none none (some m) p2) pos) (tRev X.K te) := by
  refine ⟨fun pins s σ H Q I h => ?_⟩
  refine Subscript_ (thn (he.run pins s σ H _ I h) fun v s1 ⟨x, H1, I1, r1, q1⟩ => ?_)
  refine wpAny_Slice (wpAny_evalPart_none (wpAny_evalPart_none (wpAny_evalPart_some (thn (hm.run pins s1 σ H1 (fun y H2 => y = .int (-1) ∧ H2 = H1) I1 ⟨rfl, rfl⟩) fun vm s3 ⟨y, H3, I3, r3, ey, eH⟩ => ?_))))
  subst ey eH
  obtain ⟨t, rfl⟩ := r3
  obtain ⟨a, xs, rfl, hx, q⟩ := q1
  cases r1
  have I4 : L2.Inv X pins σ H3 { s3 with heap := s3.heap.push { cls := .type "slice", data := .fields #[.none, .none, .int (-1) t] } } := I3.kept (t' := s3.toks) fun b ob q => Heap.get?_push_of_some _ q
  obtain ⟨its, r, ht, hz⟩ := I4.list hx
  have hlen := r.length
  show wpAny (model X.prog X.w) X.A (subscriptTail e (.Slice none none (some m) p2) (.ref a) (.ref s3.heap.objs.size)) (EP X pins σ Q) X.xe { s3 with heap := s3.heap.push { cls := .type "slice", data := .fields #[.none, .none, .int (-1) t] } }
  refine tail_any (ops := [.ref a, .ref s3.heap.objs.size]) ht.isList.typeIs slot_list_getitem.lookup ?_ (by with_unfolding_all rfl)
  refine wpAny_getItem_list_slice ht.isList (Heap.IsSliceOf.new ..) .none .none (.int (-1) t) (by decide) ?_ (by rw [List.size_toArray] <;> omega)
  rw [PySem.W.krv_pick]
  refine ⟨.ref _, _, I4.laid (t' := s3.toks) (o := .lst xs.reverse) (fun b ob q => Heap.get?_push_of_some _ q) (Nat.le_refl _) ?_, rfl, q _ (I4.hok.fresh (Nat.le_refl _))⟩
  exact ⟨by rw [List.length_reverse]; exact hz, _, 0, r.reverse, Heap.get?_push_size _ rfl⟩
theorem pe_revK {X : Cx} {e m : Expr} {te : TE} {p2 pos : Pos} (K : PySem.W.Frag) (he : PE X e te) (hm : PE X m (tC (.int (-1)))) (h : X.K = K := by rfl) : PE X (.Subscript e (.Slice none none (some m) p2) pos) (tRev K te) := h ▸ pe_rev he hm
theorem tst {b : Bool} {A B : Prop} (h1 : b = true → A) (h0 : b = false → B) : if b = true then A else B := by
  cases b
  · exact h0 rfl
  · exact h1 rfl
theorem sl_tupAK {X : Cx} (K : PySem.W.Frag) (h : X.K = K := by rfl) : SlR X (rSlA K) := h ▸ sl_tupA
/-! ### tuples whose object has no dict (so that their methods are reached) -/
def TupF (G : Hp) (a : Addr) (xs : List V) : Prop := ∃ o : Obj, o.dict = none ∧ G a = some (.frz o (.tup xs))
def Tu (G : Hp) (a : Addr) (xs : List V) : Prop := G a = some (.tup xs) ∨ TupF G a xs
theorem TupF.same {G G' : Hp} {a : Addr} {xs : List V} (e : Same G G') (h : TupF G a xs) : TupF G' a xs := let ⟨o, h1, h2⟩ := h; ⟨o, h1, e _ _ h2⟩
theorem Tu.same {G G' : Hp} {a : Addr} {xs : List V} (e : Same G G') (h : Tu G a xs) : Tu G' a xs := by
  rcases h with h | h
  · exact .inl (e _ _ h)
  · exact .inr (h.same e)
theorem Tu.sq {K : PySem.W.Frag} {H : Hp} {a : Addr} {xs : List V} (h : Tu H a xs) : SqT K H a xs := by
  rcases h with h | ⟨o, _, h⟩
  · exact .inl (.inl h)
  · exact .inl (.inr ⟨o, h⟩)
theorem Tu.ty {K : PySem.W.Frag} {H : Hp} {a : Addr} {xs : List V} (h : Tu H a xs) : TyX K H (.ref a) (.type "tuple") := by
  rcases h with h | ⟨o, _, h⟩
  · exact .base (.tup h)
  · exact .fTuple h
theorem TupF.tu {G : Hp} {a : Addr} {xs : List V} (h : TupF G a xs) : Tu G a xs := .inr h
section
variable {X : Cx} (K : PySem.W.Frag)
/-- tuple(xs) -/
def yTupF (K : PySem.W.Frag) : List V → Hp → VK → Prop := fun xs H Q => ∃ p ys, xs = [.ref p] ∧ ((SqL K H p ys ∧ ∀ l o, H l = none → o.dict = none → Q (.ref l) (upd H l (.frz o (.tup ys)))) ∨ (SqT K H p ys ∧ Q (.ref p) H))
theorem call_tupleFK (h : X.K = K := by rfl) : CallR X (.type "tuple") (yTupF K) := by
  subst h
  intro pins s σ H xs us Q I r h
  obtain ⟨p, ys, rfl, h⟩ := h
  obtain ⟨u, rfl, rx⟩ := vals1 r
  cases rx
  rcases h with ⟨hq, q⟩ | ⟨hq, q⟩
  · obtain ⟨its, r', pl, hz⟩ := I.list hq
    have hlen := r'.length
    refine call_tuple_list pl.isList (fun h' kp => ?_) (by simp only [List.size_toArray] <;> omega)
    have I1 : L2.Inv X pins σ H { s with heap := h' } := I.kept (t' := s.toks) kp
    have I2 : L2.Inv X pins σ (upd H h'.objs.size (.frz { cls := .type "tuple", data := .seq its.toArray } (.tup ys))) { s with heap := h'.push { cls := .type "tuple", data := .seq its.toArray } } :=
      I1.laid (t' := s.toks) (fun b o e => Heap.get?_push_of_some _ e) (Nat.le_refl _) (show ObjOk X.prog X.w _ _ _ (.frz { cls := .type "tuple", data := .seq its.toArray } (.tup ys)) from ⟨Heap.get?_push_size _ rfl, hz, its, r', IsTup.new _ _⟩)
    exact ⟨.ref h'.objs.size, _, I2, rfl, q _ _ (I1.hok.fresh (Nat.le_refl _)) rfl⟩
  · obtain ⟨its, r', pl, hz⟩ := I.tuple hq
    exact call_tuple_same pl ⟨.ref p, H, I, rfl, q⟩
/-- t.m(e, ..), t a tuple -/
def tTM (r : V → List V → Hp → VK → Prop) (to : TE) (t : TA) : TE := fun σ H Q => to σ H fun x H1 => (∃ a xs, x = .ref a ∧ TupF H1 a xs) ∧ t σ H1 fun vs H2 => r x vs H2 Q
theorem pe_tm {o e : Expr} {es : List Expr} {to : TE} {t : TA} {id : String} {name : Str} {apos cpos : Pos} {r : V → List V → Hp → VK → Prop} (slot : Slot "tuple" name id) (hty : typeOf (.builtin id) = pure (.type "method_descriptor")) (hm : MtR X id r) (ho : PE X o to) (ha : PA X (e :: es) t)
    (hbase : attributeBase o name X.env (eval o X.env) = eval o X.env := by rfl)
    (hfew : ((backTo cpos (starEach (e :: es) X.env)).all (fun x => !x.1) && (backToKw cpos (keywordEach [] X.env)).all (fun x => x.1.isSome)
      && decide ((e :: es).length + ([] : List Keyword).length + (if ([] : List Keyword).isEmpty then 0 else 1) < 30)) = true := by rfl)
    (hline : (apos.endLine == cpos.line) = true := by rfl) (hs : starEach (e :: es) X.env = (false, eval e X.env) :: starEach es X.env := by rfl) (hplain : (backTo cpos (starEach es X.env)).any (·.1) = false := by rfl) :
    PE X (.Call (.Attribute o name apos) (e :: es) [] cpos) (tTM r to t) := by
  refine ⟨fun pins s σ H Q I h => ?_⟩
  refine wpAny_Call_method_late hbase hfew hline rfl (thn (ho.run pins s σ H _ I h) fun v s1 ⟨x, H1, I1, r1, ty, q1⟩ => ?_)
  obtain ⟨a, xs, rfl, ob, hd, ha'⟩ := ty
  cases r1
  obtain ⟨h1, _, _, _, h2⟩ := I1.hok _ _ ha'
  refine ⟨"tuple", id, PySem.F.plainAttrs_tuple, slot, hty, ⟨ob, h1, ?_⟩, fun b e => ?_, ?_⟩
  · obtain ⟨ob', e1, e2, _⟩ := h2
    rw [h1] at e1
    rw [Option.some.inj e1]
    exact e2
  · cases e
    exact ⟨ob, h1, hd⟩
  have hA := ha.run cpos pins s1 σ H1 _ I1 q1
  rw [hs] at hA ⊢
  refine Calls.callWith_builtin (by show (false || (backTo cpos (starEach es X.env)).any (·.1)) = false; rw [hplain] <;> rfl) (Calls.evalArgs_plain ?_)
  exact thn hA fun us s2 ⟨vs, H2, I2, r2, q2⟩ => hm pins s2 σ H2 (V.ref a) vs (.ref a) us Q I2 rfl r2 q2
end
/-- t[lo:hi]: the whole of it is t itself -/
def rSlF (K : PySem.W.Frag) : V → Option Int → Option Int → Hp → VK → Prop := fun x lo hi H Q => ∃ a xs, x = .ref a ∧ SqT K H a xs ∧
  (HT.sIx xs.length 0 lo = 0 ∧ HT.sIx xs.length xs.length hi = xs.length → Q (.ref a) H) ∧ (¬ (HT.sIx xs.length 0 lo = 0 ∧ HT.sIx xs.length xs.length hi = xs.length) → ∀ p ob, H p = none → ob.dict = none → Q (.ref p) (upd H p (.frz ob (.tup (cutV xs lo hi)))))
theorem sl_tupFK {X : Cx} (K : PySem.W.Frag) (h : X.K = K := by rfl) : SlR X (rSlF K) := by
  subst h
  intro pins s σ H x v vl vu lo hi sl Q I rx hs pl pu h
  obtain ⟨a, xs, rfl, hx, q1, q2⟩ := h
  by_cases hw : HT.sIx xs.length 0 lo = 0 ∧ HT.sIx xs.length xs.length hi = xs.length
  · exact sl_tupA pins s σ H _ v vl vu lo hi sl Q I rx hs pl pu ⟨a, xs, rfl, hx, q1, fun z => absurd hw z⟩
  · cases rx
    obtain ⟨its, r, ht, hz⟩ := I.tuple hx
    have hlen : its.toArray.size = xs.length := by rw [List.size_toArray]; exact r.length.symm
    refine ⟨"tuple", _, PyProof.Rows.slot_tuple_getitem.lookup, ht.typeIs, ?_⟩
    refine HT.getItem_tuple_cut ht hs pl pu (by rw [hlen]; exact hw) ?_ (by rw [hlen]; exact hz)
    rw [hlen]
    refine ⟨.ref s.heap.objs.size, _, I.laid (t' := s.toks) (o := .frz { cls := .type "tuple", data := .seq (List.take (HT.sIx xs.length xs.length hi - HT.sIx xs.length 0 lo) (List.drop (HT.sIx xs.length 0 lo) its.toArray.toList)).toArray } (.tup (cutV xs lo hi))) (fun b ob q => Heap.get?_push_of_some _ q) (Nat.le_refl _) ?_, rfl, q2 hw _ _ (I.hok.fresh (Nat.le_refl _)) ?_⟩
    · exact ⟨Heap.get?_push_size _ rfl, Nat.le_trans (cutV_length xs lo hi) hz, _, (r.drop (HT.sIx xs.length 0 lo)).take (HT.sIx xs.length xs.length hi - HT.sIx xs.length 0 lo), IsTup.new _ _⟩
    · rfl
theorem Sep.sub {G H : Hp} {M M' : List (Addr × HO)} (S : Sep G M H) (h : M'.Sublist M) : Sep G M' H := ⟨S.1, fun p hp => S.2.1 p (h.subset hp), List.Nodup.sublist (h.map _) S.2.2⟩
theorem Sep.rot2 {G H : Hp} {a b c d : Addr × HO} {M : List (Addr × HO)} (S : Sep G (a :: b :: c :: d :: M) H) : Sep G (c :: d :: a :: b :: M) H := S.perm (List.perm_append_comm_assoc [a, b] [c, d] M)
theorem Sep.no3 {G H : Hp} {a b c : Addr × HO} {M : List (Addr × HO)} (S : Sep G (a :: b :: c :: M) H) : Sep G (a :: b :: M) H := S.sub ((List.sublist_cons_self c M).cons₂ b |>.cons₂ a)
/-! ### lists of ints, of pairs of ints, as data -/
def prd (p : Int × Int) : PyData := .tuple [.int p.1, .int p.2]
theorem prd_can (p : Int × Int) : (prd p).canLay0 = true := by simp [prd, PyData.canLay0, PyData.canLayAll0]
theorem prd_shaped (p : Int × Int) : SeqAt.shaped (prd p) = true := by
  unfold SeqAt.shaped
  rw [prd_can]
  simp [prd, PyData.depth, PyData.depthAll]
theorem prds_can : ∀ ps : List (Int × Int), PyData.canLayAll0 (ps.map prd) = true
  | [] => by simp [PyData.canLayAll0]
  | p :: r => by simp [PyData.canLayAll0, prd_can p, prds_can r]
theorem ints_can : ∀ ns : List Int, PyData.canLayAll0 (ns.map PyData.int) = true
  | [] => by simp [PyData.canLayAll0]
  | n :: r => by simp [PyData.canLayAll0, PyData.canLay0, ints_can r]
theorem prd_eqv (p q : Int × Int) : PyData.eqv (prd p) (prd q) = decide (p = q) := by
  obtain ⟨a, b⟩ := p
  obtain ⟨c, d⟩ := q
  simp only [prd, PyData.eqv, PyData.eqvAll, Bool.and_true]
  by_cases h1 : a = c <;> by_cases h2 : b = d <;> simp [h1, h2]
theorem int_shaped (n : Int) : SeqAt.shaped (.int n) = true := by simp [SeqAt.shaped, PyData.canLay0, PyData.depth]
theorem ints_dp {K : PySem.W.Frag} {H : Hp} : ∀ ns : List Int, DpAll K H (ns.map V.int) (ns.map PyData.int)
  | [] => .nil
  | n :: r => .cons (.int n) (ints_dp r)
theorem any_ints (n : Int) (ns : List Int) : ((ns.map PyData.int).any fun z => PyData.eqv z (.int n)) = decide (n ∈ ns) := by
  induction ns with
  | nil => rfl
  | cons m r ih =>
    rw [List.map_cons, List.any_cons, ih]
    show ((m == n) || decide (n ∈ r)) = decide (n ∈ m :: r)
    by_cases e : n = m
    · subst e; simp
    · have e2 : ¬ m = n := fun q => e q.symm
      simp [e, e2]
theorem any_prds (p : Int × Int) (ps : List (Int × Int)) : ((ps.map prd).any fun z => PyData.eqv z (prd p)) = decide (p ∈ ps) := by
  induction ps with
  | nil => rfl
  | cons q r ih =>
    rw [List.map_cons, List.any_cons, ih, prd_eqv]
    by_cases e : p = q
    · subst e; simp
    · have e2 : ¬ q = p := fun h => e h.symm
      simp [e, e2]
end XL
set_option Elab.async false
set_option linter.all false
set_option maxRecDepth 100000
set_option maxHeartbeats 4000000
/-! XOwn: o[i], o[i] = v by own methods. -/
namespace XL
open PySem PySem.Spec PyProof.Rows L2
section
variable {X : Cx} {CX : CXT} {C f : Addr} {fd : FuncData} {ps : List Str} {sp : Sp} {E : XK} {n : Nat} {o i : Expr} {to ti : TE} {pos : Pos}
def yIxO (C : Addr) (sp : Sp) (E : XK) : R2 := fun x y H Q => ∃ a dx fs, x = .ref a ∧ H a = some (.ins C dx fs) ∧ sp [.ref a, y] H Q E
theorem pe_ixO (ho : PE X o to) (hi : PE X i ti) (F : FnOk X.prog X.w X.K X.mg X.base CX n f fd ps sp) (hs : PySem.W.findIn X.K (.ref C) "__getitem__" = some (some (.ref f))) (hf : PySem.W.fnIn X.K f = true) (hfn : PySem.W.isFn X.K (.ref f) = true)
    (hb : Binds X.K fd ps []) (hx : Passes CX X E) (hr : Room (n + 1) X.A) (hsl : ∀ x v, subscripted i true (.ref x) v = runValue (.builtin "lifetime.subscript" ⟨[.ref x, v], []⟩) := by intro _ _; with_unfolding_all rfl) :
    PE X (.Subscript o i pos) (tOp (yIxO C sp E) to ti) := by
  refine ⟨fun pins s σ H Q I h => ?_⟩
  refine Subscript_ (thn (ho.run pins s σ H _ I h) fun v s1 ⟨x, H1, I1, r1, q1⟩ => thn (hi.run pins s1 σ H1 _ I1 q1) fun u s2 ⟨y, H2, I2, r2, q2⟩ => ?_)
  obtain ⟨a, dx, fs, rfl, ha, hsp⟩ := q2
  cases r1
  obtain ⟨mA, J, _⟩ := ins_get I2.hok ha
  obtain ⟨od, J, _⟩ := J.look
  obtain ⟨m, hF⟩ := I2.fr
  refine PySem.W.sub_K hF I2.ok.mod.kin J hs hf hfn ?_ (hsl _ _)
  have hl : ([Value.ref a, u] ++ []).length = ps.length := F.len _ _ _ _ hsp
  refine wpAny_call (codeAny_mono (F.run X.A.in1 X.stack s2 H2 ⟨[.ref a, u], []⟩ [.ref a, u] [.ref a, y] Q E hr.in1 I2.env0.in1 (hb s2 [.ref a, u] I2.kIn hl) (.cons rfl (.cons r2 .nil)) hsp) fun r s' hq => ?_)
  cases r with
  | error e => exact hx pins σ H2 s2 e s' I2 hq
  | ok fl =>
    cases fl with
    | ret u => exact I2.after hq
    | next => exact False.elim hq
    | brk => exact False.elim hq
    | cont => exact False.elim hq
def yStO (C : Addr) (sp : Sp) (E : XK) : TSet := fun x y v H Q => ∃ a dx fs, x = .ref a ∧ H a = some (.ins C dx fs) ∧ sp [.ref a, y, v] H (fun _ H' => Q H') E
theorem set_own (F : FnOk X.prog X.w X.K X.mg X.base CX n f fd ps sp) (hq : PySem.W.noSeq X.K C = true) (hs : PySem.W.findIn X.K (.ref C) "__setitem__" = some (some (.ref f))) (hfn : PySem.W.isFn X.K (.ref f) = true)
    (hb : Binds X.K fd ps []) (hx : Passes CX X E) (hr : Room n X.A) : PSet X (yStO C sp E) := by
  intro pins s σ H x y v xv yv vv Q I rx ry rv h
  obtain ⟨a, dx, fs, rfl, ha, hsp⟩ := h
  cases rx
  obtain ⟨mA, J, _⟩ := ins_get I.hok ha
  obtain ⟨od, J, _⟩ := J.look
  obtain ⟨m, hF⟩ := I.fr
  refine PySem.W.ksp_setItem hF I.ok.mod.kin J hq hs hfn ?_
  refine wpAny_mono (run_fn (us := [.ref a, yv, vv]) (vs := [.ref a, y, v]) (dvs := []) F hr hb .nil hx I (.cons rfl (.cons ry (.cons rv .nil))) hsp) (fun r s' q => ?_) fun _ _ e => e
  obtain ⟨z, H', I', rz, q⟩ := q
  exact ⟨H', I', q⟩
end
end XL
set_option Elab.async false
set_option linter.all false
set_option maxRecDepth 100000
set_option maxHeartbeats 4000000
/-! XTup: tuples made by a display or by +, as objects without a dict. -/
namespace XL
open PySem PySem.Spec PyProof.Rows L2
section
variable {X : Cx} {es : List Expr} {t : TA} {pos : Pos}
def tTupF (t : TA) : TE := fun σ H Q => t σ H fun xs H1 => xs.length ≤ sizeLine ∧ ∀ p ob, H1 p = none → ob.dict = none → Q (.ref p) (upd H1 p (.frz ob (.tup xs)))
theorem pe_tupF {x1} (h : PA X es t) : PE X (.Tuple es x1 pos) (tTupF t) := by
  refine ⟨fun pins s σ H Q I hq => ?_⟩
  refine wpAny_Tuple_spliced (thn (h.run pos pins s σ H _ I hq) fun us s1 ⟨xs, H1, I1, r, z, q⟩ => ⟨by rw [← r.length]; exact z, ?_⟩)
  have hf : H1 s1.heap.objs.size = none := I1.hok.fresh (Nat.le_refl _)
  refine ⟨.ref s1.heap.objs.size, _, I1.laid (t' := s1.toks) (o := .frz { cls := .type "tuple", data := .seq us.toArray } (.tup xs)) (fun b u e => Heap.get?_push_of_some _ e) (Nat.le_refl _) ?_, rfl, q _ _ hf rfl⟩
  exact ⟨Heap.get?_push_size _ rfl, z, us, r, ⟨_, Heap.get?_push_size _ rfl, rfl, _, rfl⟩⟩
def rCatF (K : PySem.W.Frag) : R2 := fun x y H Q => ∃ a b xs ys, x = .ref a ∧ y = .ref b ∧ SqT K H a xs ∧ SqT K H b ys ∧ xs.length + ys.length ≤ sizeLine ∧
  (xs = [] → Q (.ref b) H) ∧ (xs ≠ [] → ys = [] → Q (.ref a) H) ∧ (xs ≠ [] → ys ≠ [] → ∀ p ob, H p = none → ob.dict = none → Q (.ref p) (upd H p (.frz ob (.tup (xs ++ ys)))))
theorem op_catFK (K : PySem.W.Frag) (h : X.K = K := by rfl) : OpR X (binaryOp .Add) (rCatF K) := by
  subst h
  intro pins s σ H x y v u Q I rx ry h
  obtain ⟨a, b, xs, ys, rfl, rfl, ha, hb, hz, q0, q1, q2⟩ := h
  by_cases hx : xs = []
  · exact op_catA pins s σ H _ _ v u Q I rx ry ⟨a, b, xs, ys, rfl, rfl, ha, hb, hz, q0, fun z => absurd hx z, fun z => absurd hx z⟩
  · cases rx
    cases ry
    obtain ⟨its, r1, p1, _⟩ := I.tuple ha
    obtain ⟨its2, r2, p2, _⟩ := I.tuple hb
    refine HT.cat_tup p1 p2 (fun z => hx (r1.nil_iff.mp z)) (fun z => ⟨.ref a, H, I, rfl, q1 hx (r2.nil_iff.mp z)⟩) (fun z => ?_) (by rw [← r1.length, ← r2.length]; exact hz)
    refine ⟨.ref s.heap.objs.size, _, I.laid (t' := s.toks) (o := .frz { cls := .type "tuple", data := .seq (its ++ its2).toArray } (.tup (xs ++ ys))) (fun b ob q => Heap.get?_push_of_some _ q) (Nat.le_refl _) ?_, rfl, q2 hx (fun w => z (r2.nil_iff.mpr w)) _ _ (I.hok.fresh (Nat.le_refl _)) rfl⟩
    exact ⟨Heap.get?_push_size _ rfl, by rw [List.length_append]; exact hz, _, r1.append r2, IsTup.new _ _⟩
end
section
variable {K : PySem.W.Frag} {a : Addr} {xs : List V} {Qd : Hp → Prop} {B : V → Hp → (Hp → Prop) → Prop} {H0 : Hp}
/-- a clause of a comprehension over a list -/
theorem loopL (Pv : Nat → Hp → Prop) (h0 : Pv 0 H0) (hl : ∀ k H, Pv k H → SqL K H a xs) (hs : ∀ k x H, xs[k]? = some x → Pv k H → B x H (Pv (k + 1))) (hd : ∀ H, Pv xs.length H → Qd H) :
    ∃ W : Nat → Nat → Hp → Prop, (∃ m, W 0 m H0) ∧ ∀ i m H, W i m H → ((Itl K a).stop i H ∧ Qd H) ∨ ((Itl K a).go i H ∧ ∃ Nx : Hp → Prop, (∀ H', Nx H' → ∃ m', m' < m ∧ W (i + 1) m' H') ∧ ∀ x H', (Itl K a).yld i H x H' → B x H' Nx) := by
  refine ⟨fun i m H => m = xs.length - i ∧ i ≤ xs.length ∧ Pv i H, ⟨xs.length, by simp, Nat.zero_le _, h0⟩, ?_⟩
  rintro i m H ⟨rfl, hi, p⟩
  have q := hl i H p
  by_cases hlt : i < xs.length
  · refine .inr ⟨⟨xs, xs[i], q, by simp [hlt]⟩, Pv (i + 1), fun H' p' => ⟨xs.length - (i + 1), by omega, rfl, hlt, p'⟩, fun x H' y => ?_⟩
    obtain ⟨e, y⟩ := y
    subst e
    exact hs i x _ (y xs q) p
  · have e : i = xs.length := by omega
    subst e
    exact .inl ⟨⟨xs, q, Nat.le_refl _⟩, hd H p⟩
/-- a clause of a comprehension over a range -/
theorem loopR {lo : Int} {n : Nat} (Pv : Nat → Hp → Prop) (h0 : Pv 0 H0) (hs : ∀ k H, k < n → Pv k H → B (.int (lo + k)) H (Pv (k + 1))) (hd : ∀ H, Pv n H → Qd H) :
    ∃ W : Nat → Nat → Hp → Prop, (∃ m, W 0 m H0) ∧ ∀ i m H, W i m H → ((Itr lo n).stop i H ∧ Qd H) ∨ ((Itr lo n).go i H ∧ ∃ Nx : Hp → Prop, (∀ H', Nx H' → ∃ m', m' < m ∧ W (i + 1) m' H') ∧ ∀ x H', (Itr lo n).yld i H x H' → B x H' Nx) := by
  refine ⟨fun i m H => m = n - i ∧ i ≤ n ∧ Pv i H, ⟨n, by simp, Nat.zero_le _, h0⟩, ?_⟩
  rintro i m H ⟨rfl, hi, p⟩
  by_cases hlt : i < n
  · refine .inr ⟨hlt, Pv (i + 1), fun H' p' => ⟨n - (i + 1), by omega, rfl, hlt, p'⟩, fun x H' y => ?_⟩
    obtain ⟨e, y⟩ := y
    subst e y
    exact hs i _ hlt p
  · have e : i = n := by omega
    subst e
    exact .inl ⟨Nat.le_refl _, hd H p⟩
/-- row + (item,) -/
theorem cat_one {G H : Hp} {M : List (Addr × HO)} {r : Addr} {n : List Int} {i : Int} {Q : VK} (S : Sep G M H) (hr : TupF G r (n.map V.int)) (hl : n.length ≤ 1000)
    (q : ∀ (p : Addr) (G' H' : Hp), Same G G' → Sep G' M H' → TupF G' p ((n ++ [i]).map V.int) → Q (.ref p) H') :
    [V.int i].length ≤ sizeLine ∧ ∀ p ob, H p = none → ob.dict = none → rCatF K (.ref r) (.ref p) (upd H p (.frz ob (.tup [.int i]))) Q := by
  refine ⟨sz, fun p ob np hob => ?_⟩
  have S1 := S.newG (o := .frz ob (.tup [.int i])) np
  have s1 := S.grow (o := .frz ob (.tup [.int i])) np
  have h1 : TupF (upd G p (.frz ob (.tup [.int i]))) p [.int i] := ⟨ob, hob, upd_same⟩
  refine ⟨r, p, n.map V.int, [.int i], rfl, rfl, ((hr.same s1).same S1.1).tu.sq, (h1.same S1.1).tu.sq, small (by rw [List.length_map]; simp; omega), fun e => ?_, fun _ e => (nomatch e), fun _ _ p2 ob2 np2 hob2 => ?_⟩
  · have e2 : n = [] := List.map_eq_nil_iff.mp e
    subst e2
    exact q p _ _ s1 S1 h1
  · have e3 : n.map V.int ++ [V.int i] = (n ++ [i]).map V.int := by rw [List.map_append]; rfl
    rw [e3]
    exact q p2 _ _ (s1.trans (S1.grow np2)) (S1.newG np2) ⟨ob2, hob2, upd_same⟩
end
end XL
set_option Elab.async false
set_option linter.all false
set_option maxRecDepth 100000
set_option maxHeartbeats 4000000
/-! XExc: an error of the program's own, class E(ScreenError): __init__(self, x): super().__init__(f'..{x!r}'); self.x = x: made, raised, caught. -/
namespace PySem
namespace XExc
open PySem.W PySem.Calls PyProof.Rows PySem.HandSPX
/-! ### the text of __init__ -/
def iA (fld : Str) (p1 p2 : Pos) : Arguments := { posonlyargs := [], args := [{ arg := "self", annotation := none, pos := p1 }, { arg := fld, annotation := none, pos := p2 }], vararg := none, kwonlyargs := [], kw_defaults := [], kwarg := none, defaults := [] }
structure Ps where
  a : Pos
  b : Pos
  c : Pos
  d : Pos
  e : Pos
  f : Pos
  g : Pos
  h : Pos
  i : Pos
  j : Pos
  k : Pos
  l : Pos
  m : Pos
def iSup (q : Ps) : Expr := .Call (.Name "super" q.a) [] [] q.b
def iArg (fld : Str) (msg : Str) (q : Ps) : Expr := .JoinedStr [.Constant (.str msg) 0 q.d, .FormattedValue (.Name fld q.e) 114 none q.f] q.g
def iCall (fld : Str) (msg : Str) (q : Ps) : Expr := .Call (.Attribute (iSup q) "__init__" q.c) [iArg fld msg q] [] q.h
def iB (fld : Str) (msg : Str) (q : Ps) : List Stmt := [.Expr (iCall fld msg q) q.i, .Assign [.Attribute (.Name "self" q.j) fld q.k] (.Name fld q.l) q.m]
/-- how the call is evaluated (the positions decide nothing here) -/
def Evals (fld msg : Str) (q : Ps) : Prop := ∃ pl : Env → Sem Bool, ∀ env : Env, eval (iCall fld msg q) env = (do
  let ov ← attributeBase (iSup q) "__init__" env (eval (iSup q) env)
  standAt q.c.atName
  let (f, first) ← holding [ov] (getMethod ov "__init__" (pl env))
  callWith q.h f first (backTo q.h (starEach [iArg fld msg q] env)) [])
def iN (fld : Str) : List (Str × NameKind) := [(PySem.Str.ofString "self", .local), (fld, .local), (PySem.Str.ofString "__class__", .free), (PySem.Str.ofString "super", .globalImplicit)]
def iS (fld : Str) : Scope := { kind := .function, names := iN fld, isGenerator := false, isCoroutine := false, more := [] }
/-- what the written part says of the class at C and of its __init__ at fI -/
structure ExTxt (P : Program) (K : Frag) (mg : Str → Option Value) (nm fld msg : Str) (C fI : Addr) : Prop where
  gC : mg nm = some (.ref C)
  cls : ∃ nm q N bs bm sn sub ab col dd k0 k1 k2 k3 k5, K.lookup C = some (excClassObj nm q C N bs bm true sn sub ab col dd k0 k1 k2 k3 k5 "ValueError.__new__") ∧ refsVE bm = true
  sa : findIn K (.ref C) "__setattr__" = some (some (.builtin "object.__setattr__"))
  ga : findIn K (.ref C) "__getattribute__" = some (some (.builtin "BaseException.__getattribute__"))
  gg : findIn K (.ref C) "__getattr__" = some none
  noN : findIn K (.ref C) fld = some none
  iC : findIn K (.ref C) "__init__" = some (some (.ref fI))
  tC : typeIn K (.ref fI) = some (.type "function")
  kC : keepIn K (.ref C) = true
  exC : subIn K (.ref C) (.type "BaseException") = some true
  tyC : typeIn K (.ref C) = some (.type "type")
  hdC : hasDictIn K C = true
  fn : ∃ (oc kV doc pm ct : Value) (od an : Option Addr) (osl : Array (Option Value)) (qual : Str) (cda cc : Addr) (p1 p2 : Pos) (q : Ps) (vs : Array Value) (file : Str) (tf : Tok) (ccl cl : Value) (cdd cld : Option Addr) (ccs csl : Array (Option Value)),
    K.lookup fI = some ⟨oc, od, .func (ksFn "__init__" qual (iA fld p1 p2) (iB fld msg q) (iS fld) .none kV doc pm an (.ref cda) ct cc), osl⟩ ∧ codeIn K (.ref cda) qual = true ∧ K.lookup cda = some ⟨ccl, cdd, .fields vs, ccs⟩ ∧ vs[2]? = some (.str file tf) ∧
    ((P.main.file : Str) == file) = true ∧ K.lookup cc = some ⟨cl, cld, .cell (some (.ref C)), csl⟩ ∧ Evals fld msg q ∧
    ∀ x v : Value, bindArgs (ksFn "__init__" qual (iA fld p1 p2) (iB fld msg q) (iS fld) .none kV doc pm an (.ref cda) ct cc) ⟨[x, v], []⟩ = pure [(("self" : Str), x), (fld, v)]
  sup : ks_superIn K C C "__init__" = some (some (.builtin "ValueError.__init__"))
  subV : subIn K (.ref C) (.type "ValueError") = some true
  mroS : mroIn K C (.ref C) = some true
  opq : nsIn K cStatics "thirdparty.any" = some none
  htop : (P.main.scope.names.lookup ("super" : Str)).isSome = false
  hsup : mg "super" = none
  f1 : fld ≠ "self"
  f2 : fld ≠ "__class__"
  f3 : fld ≠ "super"
  f4 : (fld == ("__debug__" : Str)) = false
  ml : msg.length ≤ 1000
/-- where the program stands -/
def PF (P : Program) (fl : Str) : Prop := ((P.main.file : Str) == fl) = true ∧ (P.main.scope.names.lookup ("super" : Str)).isSome = false
/-- what can be told in the message -/
def Rp (v : Value) : Prop := (∃ (y : Str) (t : Tok), v = .str y t ∧ (reprText y).length ≤ 100000) ∨ ∃ (i : Int) (t : Tok), v = .int i t ∧ i.natAbs.log2 < 1920
structure InitEnd (h h' : Heap) (x C dx : Addr) (fld : Str) (v : Value) : Prop where
  keep : ∀ b o, b ≠ x → h.get? b = some o → h'.get? b = some o
  obj : ∃ t1 : Addr, h'.get? x = some { cls := .ref C, dict := some dx, data := .fields #[.ref t1, .none, .none, .none, .bool false, .none] }
  dbig : h.objs.size ≤ dx
  dne : dx ≠ x
  ns : h'.Ns1 dx (fun y => if y = fld then some v else none)
structure OwnMade (h h' : Heap) (e C d : Addr) (fld : Str) (v : Value) : Prop where
  keep : ∀ b o, h.get? b = some o → h'.get? b = some o
  new : h.objs.size ≤ e
  obj : ∃ oe vs, h'.get? e = some oe ∧ oe.cls = .ref C ∧ oe.dict = some d ∧ oe.data = .fields vs ∧ vs[1]? = some .none
  dbig : h.objs.size ≤ d
  dne : d ≠ e
  ns : h'.Ns1 d (fun y => if y = fld then some v else none)
section
variable {prog : Program} {w : World} {A : Around} {E : Value → Shared → Prop} {h : Heap} {g : Array GenState} {d : Drawn} {t : Nat} {os : OsState}
variable {nm q : Str} {C N : Addr} {bs bm : List Value} {hdct : Bool} {sn : List Str} {sub : List Value} {ab : Bool} {col : Option Bool} {dd : Option Addr} {k0 k1 k2 k3 k5 : Option Value}
theorem call_mw {u e t0 : Addr} {rest : List Value} {Q : Value → Shared → Prop}
    (hC : h.get? C = some (excClassObj nm q C N bs bm hdct sn sub ab col dd k0 k1 k2 k3 k5 "ValueError.__new__")) (he : h.get? e = some (excO C t0)) (hu : h.get? u = some (kxs_mw "ValueError.__init__" e)) (hrest : rest.length ≤ sizeLine)
    (hq : ∀ h' t1, (∀ b o, b ≠ e → h.get? b = some o → h'.get? b = some o) → h.objs.size ≤ h'.objs.size → h'.get? e = some (excO C t1) → Q .none ⟨h', g, d, t, os⟩) :
    wpAny (model prog w) A (call (.ref u) rest) Q E ⟨h, g, d, t, os⟩ := by
  refine wpAny_call (codeAny_of_tree ?_)
  show wpAny _ A.in1 (callAny (.ref u) ⟨rest, []⟩) _ _ _
  simp only [callAny]
  refine wpAny_bind (wpAny_load hu ?_)
  simp only [kxs_mw, show (Value.type "method-wrapper" == Value.type "method" || Value.type "method-wrapper" == Value.type "builtin_function_or_method" || Value.type "method-wrapper" == Value.type "method-wrapper") = true by decide, if_true]
  refine W.KFB.if_so (by decide) ?_
  refine wpAny_bind (check_bound_init F.excBase_ValueError.toExcCallFacts hC he rfl ?_)
  refine wpAny_bind (wpAny_pure (wpAny_pure ?_))
  refine ⟨plainId_quiet F.excBase_ValueError.init.plain _, codeAny_builtin F.excBase_ValueError.initEntry ?_⟩
  rw [Around.under_plainId F.excBase_ValueError.init.plain _]
  wp_walk
  refine hq _ h.objs.size (fun b o hb ho => ?_) ?_ ?_
  · rw [Heap.get?_update_other _ _ (Ne.symm hb)]
    exact Heap.get?_push_of_some _ ho
  · simp [Heap.size_push]
  · rw [Heap.get?_update_self _ (Heap.get?_push_of_some _ he) rfl]
    rfl
end
section
variable {prog : Program} {w : World} {A : Around} {E : Value → Shared → Prop} {R : Result → Shared → Prop} {s : Shared} {K : Frag} {mg mb : Str → Option Value} {nm fld msg : Str} {C fI : Addr}
theorem one_size (v : Value) : [v].length ≤ sizeLine := by
  rw [sizeLine_eq]
  exact (by decide : 1 ≤ 16777216)
/-- f'..{v!r}' -/
theorem told_ok {env : Env} {q : Ps} {m : Str → Option Value} {v : Value} {Q : Value → Shared → Prop} (hn : s.heap.Ns env.locals m) (hv : m fld = some v) (hr : Rp v) (hml : msg.length ≤ 1000) (hk : env.scope.kind = .function) (hl : env.kindOf fld = some .local) (hd : (fld == ("__debug__" : Str)) = false)
    (h : ∀ u tk, Q u { s with toks := tk }) : wpAny (model prog w) A (eval (iArg fld msg q) env) Q E s := by
  unfold iArg
  have sm : ∀ n : Nat, n ≤ 200000 → n ≤ sizeLine := fun n hn => Nat.le_trans hn (by decide)
  refine wpAny_JoinedStr ?_
  have e0 : evalEach [Expr.Constant (.str msg) 0 q.d, .FormattedValue (.Name fld q.e) 114 none q.f] env = [eval (.Constant (.str msg) 0 q.d) env, eval (.FormattedValue (.Name fld q.e) 114 none q.f) env] := by first | rfl | simp [evalEach]
  rw [e0]
  refine Calls.Constant_str ⟨msg, _, rfl, ?_, ?_⟩
  · rw [Str.length_append]
    exact sm _ (by show 0 + msg.length ≤ _; omega)
  refine wpAny_FormattedValue_repr (ESX.ldL hn hv ?_ hk hl hd)
  rcases hr with ⟨y, t, rfl, hz⟩ | ⟨i, t, rfl, hz⟩
  · have hz' : (reprText y).length ≤ sizeLine := sm _ (by omega)
    have out : ∀ (tk : Tok) (tt : Nat), ∃ (y' : Str) (t' : Tok), Value.str (reprText y) tk = .str y' t' ∧ (Str.empty ++ msg ++ y').length ≤ sizeLine ∧ Joins (model prog w) A E [] (Str.empty ++ msg ++ y') (fun out s₁ => out.length ≤ sizeLine ∧ Q (.str out s₁.toks) { s₁ with toks := s₁.toks + 1 }) { s with toks := tt } := fun tk tt => by
      have hl : (Str.empty ++ msg ++ reprText y).length ≤ sizeLine := by
        rw [Str.length_append, Str.length_append]
        exact sm _ (by show 0 + msg.length + _ ≤ _; omega)
      exact ⟨_, _, rfl, hl, hl, h _ _⟩
    exact pyReprObj_str (wpAny_formatField_str (out _ _) (out _ _) hz') hz'
  · have hz' := int_text_fits hz
    have ln : (toString i : Str).length ≤ 100000 := by
      have e := int_text_length_le (k := 1920) (by decide) hz
      show (Str.ofString (toString i)).length ≤ 100000
      rw [ofString_length]
      omega
    have out : ∀ (tk : Tok) (tt : Nat), ∃ (y' : Str) (t' : Tok), Value.str (toString i) tk = .str y' t' ∧ (Str.empty ++ msg ++ y').length ≤ sizeLine ∧ Joins (model prog w) A E [] (Str.empty ++ msg ++ y') (fun out s₁ => out.length ≤ sizeLine ∧ Q (.str out s₁.toks) { s₁ with toks := s₁.toks + 1 }) { s with toks := tt } := fun tk tt => by
      have hl : (Str.empty ++ msg ++ (toString i : Str)).length ≤ sizeLine := by
        rw [Str.length_append, Str.length_append]
        exact sm _ (by show 0 + msg.length + _ ≤ _; omega)
      exact ⟨_, _, rfl, hl, hl, h _ _⟩
    exact pyReprObj_int hz (wpAny_formatField_str (out _ _) (out _ _) hz')
end
section
variable {prog : Program} {w : World} {A : Around} {E : Value → Shared → Prop} {R : Result → Shared → Prop} {K : Frag} {mg mb : Str → Option Value} {nm fld msg : Str} {C fI : Addr}
theorem kept_but {K : Frag} {h h' : Heap} {x : Addr} (X : K.In h) (hx : K.lookup x = none) (k : ∀ b o, b ≠ x → h.get? b = some o → h'.get? b = some o) : K.In h' := fun a o e =>
  k a o (fun z => by rw [z, hx] at e; cases e) (X a o e)
theorem exc_init (T : ExTxt prog K mg nm fld msg C fI) {x t0 : Addr} {v : Value} {hp : Heap} {g : Array GenState} {dr : Drawn} {tk : Nat} {os : OsState} (X : K.In hp) (hlim : hp.NoLimit) (hG : hp.Ns mainGlobals mg) (hB : hp.Ns builtinsNs mb) (hbb : ∀ x : Str, x ≠ "__name__" → mb x = bootBuiltins x)
    (hx : hp.get? x = some (excO C t0)) (hnx : K.lookup x = none) (hroom : A.depth < recursionLimit) (hr : Rp v)
    (hq : ∀ h' tk' dx, InitEnd hp h' x C dx fld v → R (.ok (.ret .none)) ⟨h', g, dr, tk', os⟩) :
    codeAny (model prog w) A (.call (.ref fI) ⟨[.ref x, v], []⟩) R ⟨hp, g, dr, tk, os⟩ := by
  obtain ⟨oc, kV, doc, pm, ct, od, an, osl, qual, cda, cc, p1, p2, q, vs, file, tf, ccl, cl, cdd, cld, ccs, csl, ho, hcd, hcda, hvs, hfile, hcc, ⟨pl, hev⟩, hbind⟩ := T.fn
  obtain ⟨nm', q', N, bs, bm, sn, sub, ab, col, dd, k0, k1, k2, k3, k5, hC, hbm⟩ := T.cls
  have hcl : clsIn K C = some { name := nm', bases := bs, mro := .ref C :: bm, ns := N, qualname := q', hasDict := true, slotNames := sn, subclasses := sub, abstract := ab, collection := col, hasDel := false } := by unfold clsIn; rw [hC] <;> rfl
  have e1 : (iS fld).names.lookup fld = some .local := by
    show (iN fld).lookup fld = _
    unfold iN
    have z : (fld == PySem.Str.ofString "self") = false := by simpa using T.f1
    simp [List.lookup, z]
  have e2 : (iS fld).names.lookup ("self" : Str) = some .local := rfl
  have e3 : (iS fld).names.lookup ("__class__" : Str) = some .free := by
    show (iN fld).lookup ("__class__" : Str) = _
    unfold iN
    have z : (("__class__" : Str) == fld) = false := by simpa using Ne.symm T.f2
    have z2 : (("__class__" : Str) == PySem.Str.ofString "self") = false := by decide
    simp [List.lookup, z, z2]
  have e4 : (iS fld).names.lookup ("super" : Str) = some .globalImplicit := by
    show (iN fld).lookup ("super" : Str) = _
    unfold iN
    have z : (("super" : Str) == fld) = false := by simpa using Ne.symm T.f3
    have z2 : (("super" : Str) == PySem.Str.ofString "self") = false := by decide
    have z3 : (("super" : Str) == PySem.Str.ofString "__class__") = false := by decide
    simp [List.lookup, z, z2, z3]
  refine ks_codeAny_call_defAt (fd := ksFn "__init__" qual (iA fld p1 p2) (iB fld msg q) (iS fld) .none kV doc pm an (.ref cda) ct cc) (body := iB fld msg q) (binds := [("self", .ref x), (fld, v)]) hroom (X _ _ ho) rfl hlim (codeRec_of X hcd) rfl (BindsTo.of_eq (hbind _ _)) ?_ ?_ (fun h₁ hn k => ?_) rfl rfl rfl
  · intro y hy
    have hy : y ∈ iN fld := hy
    unfold iN at hy
    simp only [List.mem_cons, List.not_mem_nil, or_false] at hy
    rcases hy with rfl | rfl | rfl | rfl <;> exact fun z => nomatch z
  · intro y hy
    simp only [List.mem_cons, List.not_mem_nil, or_false] at hy
    rcases hy with rfl | rfl
    · exact e2
    · exact e1
  have X₁ : K.In h₁ := X.keeps k
  have hxL : hp.objs.size ≠ x := Nat.ne_of_gt (Heap.lt_size hx)
  have hx₁ := k _ _ hx
  have mS : List.lookup ("self" : Str) (List.reverse [(("self" : Str), Value.ref x), (fld, v)]) = some (.ref x) := by
    show List.lookup ("self" : Str) [(fld, v), (("self" : Str), Value.ref x)] = _
    have z : (("self" : Str) == fld) = false := by simpa using Ne.symm T.f1
    simp [List.lookup, z]
  have mF : List.lookup fld (List.reverse [(("self" : Str), Value.ref x), (fld, v)]) = some v := by
    show List.lookup fld [(fld, v), (("self" : Str), Value.ref x)] = _
    simp [List.lookup]
  refine ks_wpAt_execs_cons (ks_wpAt_Expr_any (ks_wpAt_MethodCall (o := iSup q) (name := "__init__") (he := hev _) ?_))
  have oC := X₁ _ _ hC
  refine ks_wpAt_super_base (env := callEnv (ksFn "__init__" qual (iA fld p1 p2) (iB fld msg q) (iS fld) .none kV doc pm an (.ref cda) ct cc) hp.objs.size fI) e4 e3 (by decide) rfl (X₁ _ _ ho) rfl rfl rfl (X₁ _ _ hcda) rfl hvs hfile T.htop ?_
  refine ks_loadName_global rfl e4 (loadGlobal_builtin (hG.keeps k) T.hsup (hB.keeps k) ((hbb _ (by decide +kernel)).trans (by first | boot_by_name | rfl | kernel_rfl)) ⟨rfl, ?_⟩)
  refine wpAny_loadName_free rfl e3 rfl ⟨_, X₁ _ _ hcc, rfl⟩ ?_
  refine wpAny_loadName_local rfl e2 hn mS ?_
  refine ks_wpAny_isType_cls oC rfl ⟨rfl, ?_⟩
  refine ks_wpAny_call_super oC rfl hx₁ rfl (fun c e => (nomatch e)) (looks_mroIn X₁ T.mroS) (fun h₂ hso k₂ => ?_)
  have X₂ : K.In h₂ := X₁.keeps k₂
  have hx₂ := k₂ _ _ hx₁
  have hsup : alongIn K "__init__" (((Value.ref C :: bm).dropWhile (· != .ref C)).drop 1) = some (some (.builtin "ValueError.__init__")) := by
    have z := T.sup
    unfold ks_superIn at z
    rw [hcl] at z
    exact z
  have I₂ : InstAt h₂ x (excO C t0) C none := ⟨hx₂, rfl, rfl, trivial⟩
  refine kxs_getMethod kxs_ValueError hso (looks_opaque X₂ T.opq) (l₀ := .ref C :: bm) ?_ rfl X₂ hsup (I₂.type.andThen (looks_subIn X₂ T.subV)) (ks_ne X₂ I₂ hcl) (by decide) ?_
  · exact fun A Q E s k q => wpAny_bind ((looks_clsIn X₂ hcl) A _ E s k (wpAny_pure q))
  have hu : (h₂.push (kxs_mw "ValueError.__init__" x)).get? h₂.objs.size = some (kxs_mw "ValueError.__init__" x) := Heap.get?_push_at rfl rfl
  have k₃ : ∀ b o, h₂.get? b = some o → (h₂.push (kxs_mw "ValueError.__init__" x)).get? b = some o := fun b o e => Heap.get?_push_of_some _ e
  have X₃ := X₂.keeps k₃
  have hn₃ : (h₂.push (kxs_mw "ValueError.__init__" x)).Ns hp.objs.size _ := (hn.keeps k₂).keeps k₃
  refine kxs_callWith (i := "ValueError.__init__") (x := x) rfl (evalArgs_plain ?_)
  show wpAny _ _ (spliced ((false, eval (iArg fld msg q) _) :: backTo q.h (starEach [] _))) _ _ _
  refine Calls.spliced_cons (told_ok hn₃ mF hr T.ml rfl e1 T.f4 fun u tk' => Calls.spliced_nil ⟨hu, ?_⟩)
  show wpAny _ _ (call (.ref h₂.objs.size) [u]) _ _ _
  refine call_mw (X₃ _ _ hC) (k₃ _ _ hx₂) hu (one_size _) fun h₄ t1 k₄ sz₄ hx₄ => ?_
  show wpAt _ _ _ (execs _ _) _ _ _
  refine wpAt_of_wpAny ?_
  have X₄ : K.In h₄ := kept_but X₃ hnx k₄
  have hn₄ : h₄.Ns hp.objs.size (fun x_1 => List.lookup x_1 (List.reverse [(("self" : Str), Value.ref x), (fld, v)])) := by
    obtain ⟨oL, es, ep, hL, r⟩ := hn₃
    exact ⟨oL, es, ep, k₄ _ _ hxL hL, r⟩
  refine wpAny_execs_cons (plainObj_wpAny_Assign_Attribute ?_)
  refine ESX.ldL hn₄ mF (ESX.ldL hn₄ mS ?_ rfl e2) rfl e1 T.f4
  refine set_plain X₄ (ox := excO C t1) (od := none) ⟨hx₄, rfl, rfl, trivial⟩ T.sa ?_
  refine exc_osa X₄ hx₄ hcl (show refsVE (.ref C :: bm) = true from hbm) rfl T.noN (fun h₅ tk₅ dx k₅ dn dne hx₅ hn₅ => ?_)
  show wpAny _ _ (execs _ _) _ _ _
  have z : hp.objs.size < h₄.objs.size := hn₄.lt
  exact wpAny_execs_nil (hq h₅ tk₅ dx ⟨fun b o hb e => k₅ b o hb (k₄ b o hb (k₃ b o (k₂ b o (k b o e)))), ⟨t1, hx₅⟩, Nat.le_of_lt (Nat.lt_of_lt_of_le z dn), dne, hn₅⟩)
end
section
variable {prog : Program} {w : World} {A : Around} {R : Result → Shared → Prop} {K : Frag} {mg mb : Str → Option Value} {nm fld msg : Str} {C fI : Addr}
theorem exc_made (T : ExTxt prog K mg nm fld msg C fI) {v : Value} {hp : Heap} {g : Array GenState} {dr : Drawn} {tk : Nat} {os : OsState} (X : K.In hp) (hlim : hp.NoLimit) (hG : hp.Ns mainGlobals mg) (hB : hp.Ns builtinsNs mb) (hbb : ∀ x : Str, x ≠ "__name__" → mb x = bootBuiltins x) (hroom : A.depth + 1 < recursionLimit) (hr : Rp v)
    (hq : ∀ h' tk' e d, OwnMade hp h' e C d fld v → R (.ok (.ret (.ref e))) ⟨h', g, dr, tk', os⟩) :
    codeAny (model prog w) A (.call (.ref C) ⟨[v], []⟩) R ⟨hp, g, dr, tk, os⟩ := by
  obtain ⟨nm', q', N, bs, bm, sn, sub, ab, col, dd, k0, k1, k2, k3, k5, hC, hbm⟩ := T.cls
  have k : ∀ b o, hp.get? b = some o → ((hp.push (kdv_tup [v])).push (excO C hp.objs.size)).get? b = some o := fun b o e => Heap.get?_push_of_some _ (Heap.get?_push_of_some _ e)
  have hget : ((hp.push (kdv_tup [v])).push (excO C hp.objs.size)).get? (hp.objs.size + 1) = some (excO C hp.objs.size) := by heap_get
  have hnx : K.lookup (hp.objs.size + 1) = none := by
    cases e : K.lookup (hp.objs.size + 1) with
    | none => rfl
    | some o =>
      have z : hp.get? (hp.objs.size + 1) = some o := X _ _ e
      exact absurd (Nat.lt_of_succ_lt (Heap.lt_size z)) (Nat.lt_irrefl _)
  refine call_own F.excBase_ValueError (fun X => refsVE_contains X bm hbm) (X _ _ hC) (looks_findIn X T.iC) (fun self => bind_fn X self T.tC) (one_size v) ?_
  refine exc_init (tk := tk) T (X.keeps k) (hlim.keeps k) (hG.keeps k) (hB.keeps k) hbb hget hnx ?_ hr fun h' tk' dx ⟨k', ⟨t1, hx⟩, dn, dne, hns⟩ => ?_
  · show A.depth + 1 < recursionLimit
    exact hroom
  · have old : ∀ b o, hp.get? b = some o → h'.get? b = some o := fun b o e => k' b o (Nat.ne_of_lt (Nat.lt_succ_of_lt (Heap.lt_size e))) (k b o e)
    have z : hp.objs.size + 1 + 1 ≤ dx := by
      first
        | (simpa only [Heap.size_push] using dn)
        | exact dn
        | (have q := dn; rw [Heap.size_push, Heap.size_push] at q; exact q)
    exact ⟨rfl, hq h' tk' (hp.objs.size + 1) dx ⟨old, Nat.le_succ _, ⟨_, _, hx, rfl, rfl, rfl, rfl⟩, Nat.le_trans (Nat.le_trans (Nat.le_succ _) (Nat.le_succ _)) z, dne, hns⟩⟩
end
end XExc
end PySem
namespace XL
open PySem PySem.Spec PyProof.Rows L2
/-! ### the error, over the abstract heap -/
def RpV (v : V) : Prop := (∃ y : Str, v = .str y ∧ (reprText y).length ≤ 100000) ∨ ∃ i : Int, v = .int i ∧ i.natAbs.log2 < 1920
theorem RpV.rp {v : V} {u : Value} (h : RpV v) (r : RelV v u) : PySem.XExc.Rp u := by
  rcases h with ⟨y, rfl, hz⟩ | ⟨i, rfl, hz⟩
  · obtain ⟨t, rfl⟩ := r
    exact .inl ⟨y, t, rfl, hz⟩
  · obtain ⟨t, rfl⟩ := r
    exact .inr ⟨i, t, rfl, hz⟩
theorem relO_one {fld : Str} {v : V} {v' : Value} (r : RelV v v') (f : Str) : RelO (List.lookup f [(fld, v)]) (if f = fld then some v' else none) := by
  by_cases hw : f = fld
  · subst hw
    rw [if_pos rfl]
    have q : List.lookup f [(f, v)] = some v := by simp [List.lookup]
    rw [q]
    exact r
  · rw [if_neg hw]
    have qw : (f == fld) = false := by simpa using hw
    have q2 : List.lookup f [(fld, v)] = none := by simp [List.lookup, qw]
    rw [q2]
    trivial
section
variable {X : Cx} {C fI : Addr} {nm fld msg : Str}
def tMkX (C : Addr) (fld : Str) (ta : TA) : L2.St → Hp → XK → Prop := fun σ H Q => ta σ H fun vs H1 => ∃ v, vs = [v] ∧ RpV v ∧ ∀ d, H1 d = none → Q (.ref C) (some d) (upd H1 d (.xd [(fld, v)]))
theorem pmk_x {a : Expr} {ta : TA} {p pos : Pos} {k : Nat} (T : PySem.XExc.ExTxt X.prog X.K X.mg nm fld msg C fI) (hr : Room (k + 1) X.A) (ha : PA X [a] ta) (hg : Gl X nm := by rfl) (hd : (nm == ("__debug__" : Str)) = false := by decide)
    (he : starEach (a :: []) X.env = (false, eval a X.env) :: starEach [] X.env := by rfl) (hpl : (backTo pos (starEach [] X.env)).any (·.1) = false := by rfl) :
    PMk X (.Call (.Name nm p) [a] [] pos) (tMkX C fld ta) := by
  intro pins s σ H Q I h
  refine wpAny_Call_Name_kw (ld_glob I hg T.gC ?_ hd)
  refine PySem.W.callWith_K (h₀ := X.base) I.ok.mod.kin T.kC (thn (ha.run pos pins s σ H _ I h) fun us s1 hh => ?_) he hpl
  obtain ⟨vs, H1, I1, r1, v, ev, rp, q1⟩ := hh
  subst ev
  refine ⟨I1.kIn, ?_⟩
  cases r1 with
  | cons rv rn =>
    rename_i v' us'
    cases rn
    show wpAny _ _ (call (.ref C) [v']) _ _ _
    have hlim := I1.nolimit
    have hG := I1.mod.glob.keeps I1.bk
    obtain ⟨mb, hB, hbb⟩ := I1.mod.blt
    have hB := hB.keeps I1.bk
    obtain ⟨hp, g, dr, tk, os⟩ := s1
    refine wpAny_call (PySem.XExc.exc_made T I1.kIn hlim hG hB hbb (by have := hr.dp; omega) (rp.rp rv) fun h' tk' e d M => ?_)
    show MkP X pins σ Q (.ref e) ⟨h', g, dr, tk', os⟩
    obtain ⟨oe, fv, hoe, hc, hd, hdat, h1⟩ := M.obj
    have hns := M.ns
    obtain ⟨G', g1, g2⟩ := restrict h' fun b => decide (b ≠ e)
    have gk : ∀ b, b ≠ e → G'.get? b = h'.get? b := fun b hb => g1 b (decide_eq_true hb)
    have ge : G'.get? e = none := g2 e (by simp)
    have old : ∀ b o, hp.get? b = some o → G'.get? b = some o := fun b o q => (gk b (Nat.ne_of_lt (Nat.lt_of_lt_of_le (Heap.lt_size q) M.new))).trans (M.keep b o q)
    have ob : ObjOk X.prog X.w (upd H1 d (.xd [(fld, v)])) G' d (.xd [(fld, v)]) :=
      ⟨_, hns.at (fun o q => (gk d M.dne).trans q), fun f => relO_one rv f⟩
    have J : Inv X pins σ (upd H1 d (.xd [(fld, v)])) ⟨G', g, dr, tk', os⟩ := I1.laid (t' := tk') old M.dbig ob
    refine ⟨e, oe, fv, ⟨G', g, dr, tk', os⟩, _, .ref C, some d, rfl, J, fun b o q => ?_, ge, hoe, ⟨hc, hd⟩, hdat, h1, ?_, rfl, I1.bare, raises_own T.exC T.tyC, q1 d (I1.hok.fresh M.dbig)⟩
    · by_cases hb : b = e
      · have q' : G'.get? b = some o := q
        rw [hb, ge] at q'; cases q'
      · exact (gk b hb).symm.trans q
    · rw [upd_ne (Ne.symm M.dne)]
      exact I1.hok.fresh M.new
def tRaiseX (C : Addr) (fld : Str) (W : WX) (ta : TA) : TS := fun _ σ H => tMkX C fld ta σ H fun cls d H' => W cls d σ H'
theorem ps_raiseX {a : Expr} {ta : TA} {W : WX} {p pos pos2 : Pos} {k : Nat} (hc : X.calm = true) (T : PySem.XExc.ExTxt X.prog X.K X.mg nm fld msg C fI) (hr : Room (k + 1) X.A) (tk : Takes X W) (ha : PA X [a] ta) (hg : Gl X nm := by rfl) (hd : (nm == ("__debug__" : Str)) = false := by decide)
    (he : starEach (a :: []) X.env = (false, eval a X.env) :: starEach [] X.env := by rfl) (hpl : (backTo pos (starEach [] X.env)).any (·.1) = false := by rfl) :
    PS X (.Raise (some (.Call (.Name nm p) [a] [] pos)) none pos2) (tRaiseX C fld W ta) := ps_raise hc tk (pmk_x T hr ha hg hd he hpl)
end
/-! ### isinstance(e, c), isinstance(e, (c, ..)) of a caught error -/
section
variable {X : Cx} {a : Addr} {oe : Obj} {cls : Value} {d : Option Addr} {pn : List (Addr × Obj)}
inductive ClsRs : List V → List Value → Prop where
  | nil : ClsRs [] []
  | cons {c : Addr} {cs : List V} {us : List Value} (h : ClsRs cs us) : ClsRs (.ref c :: cs) (.ref c :: us)
theorem ClsRs.eq : ∀ {cs : List V} {us : List Value}, ClsRs cs us → ∀ {ws : List Value}, Vals cs ws → ws = us
  | _, _, .nil, _, .nil => rfl
  | _, _, .cons h, _, .cons r rs => by
    cases r
    rw [h.eq rs]
def rIsX (K : PySem.W.Frag) (cls : Value) (d : Option Addr) (a : Addr) : List V → Hp → VK → Prop := fun xs H Q => ∃ (D dd : Addr) (fs : List (Str × V)) (b : Bool), cls = .ref D ∧ d = some dd ∧ H dd = some (.xd fs) ∧ ExcC K D ∧
  ((∃ (c : V) (cv : Value), xs = [.ref a, c] ∧ (∀ u, RelV c u → u = cv) ∧ PySem.W.kitOne K (.ref D) cv = some b) ∨ ∃ (p : Addr) (cs : List V) (us : List Value), xs = [.ref a, .ref p] ∧ H p = some (.tup cs) ∧ ClsRs cs us ∧ PySem.W.kitAny K (.ref D) us = some b) ∧ Q (.bl b) H
theorem call_isX (hz : Zc cls d oe) (hf : ∃ vs, oe.data = .fields vs) : CallR (X.suite a ((a, oe) :: pn)) (.builtin "isinstance") (rIsX X.K cls d a) := by
  intro pins s σ H xs us Q I r h
  obtain ⟨D, dd, fs, b, rfl, rfl, hd, C, hcs, q⟩ := h
  obtain ⟨hget, _⟩ := I.pin (a, oe) (List.mem_append.mpr (.inl List.mem_cons_self))
  obtain ⟨vs, hv⟩ := hf
  have hx : ObjOk X.prog X.w H s.heap dd (.xd fs) := I.hok dd _ hd
  obtain ⟨mA, hns, _⟩ := hx
  obtain ⟨od, ho, _⟩ := lookIn_ns hns
  have J : PySem.W.InstAt s.heap a oe D (some od) := ⟨hget, hz.1, by unfold PySem.W.notCls; rw [hv] <;> rfl, by rw [hz.2]; exact ho⟩
  have cl : (PySem.W.clsIn X.K D).isSome = true := by
    obtain ⟨cd, hc, _⟩ := PySem.W.any_some C.hd
    rw [hc]
    rfl
  have Z := PySem.W.kitx_exc (x := a) (ox := oe) (od := some od) cl C.hg C.hk C.hs C.ha C.hn C.ht C.hm
  rcases hcs with ⟨c, cv, rfl, hcv, e⟩ | ⟨p, cs, us2, rfl, hp, hc, e⟩
  · cases r with
    | cons rx rr =>
      cases rr with
      | cons rt rr =>
        cases rr
        cases rx
        have ec := hcv _ rt
        subst ec
        exact PySem.W.kia_one Z I.kIn J e (fun z => nomatch z) fun tk => ⟨.bl b, H, I.kept (t' := tk) fun _ _ z => z, rfl, q⟩
  · cases r with
    | cons rx rr =>
      cases rr with
      | cons rt rr =>
        cases rr
        cases rx
        cases rt
        obtain ⟨_, its, rv, o, h1, h2, n, h3⟩ := (show ObjOk X.prog X.w H s.heap p (.tup cs) from I.hok p _ hp)
        have ei := hc.eq rv
        subst ei
        obtain ⟨oc, od', oda, osl⟩ := o
        dsimp only at h2 h3
        subst h2 h3
        exact PySem.W.kia_tup Z I.kIn J h1 e (fun z => nomatch z) fun tk => ⟨.bl b, H, I.kept (t' := tk) fun _ _ z => z, rfl, q⟩
end
/-! ### own [ ] and [ ] = within a try -/
section
variable {X : Cx} {CX : CXT} {C f : Addr} {fd : FuncData} {ps : List Str} {sp : Sp} {E : L2.St → XK} {n : Nat} {o i e : Expr} {to ti te : TE} {pos pos' : Pos}
def tIxOS (C : Addr) (sp : Sp) (E : L2.St → XK) (to ti : TE) : TE := fun σ H Q => to σ H fun x H1 => ti σ H1 fun y H2 => ∃ a dx fs, x = .ref a ∧ H2 a = some (.ins C dx fs) ∧ sp [.ref a, y] H2 Q (E σ)
theorem pe_ixOS (ho : PE X o to) (hi : PE X i ti) (F : FnOk X.prog X.w X.K X.mg X.base CX n f fd ps sp) (hs : PySem.W.findIn X.K (.ref C) "__getitem__" = some (some (.ref f))) (hf : PySem.W.fnIn X.K f = true) (hfn : PySem.W.isFn X.K (.ref f) = true)
    (hb : Binds X.K fd ps []) (hx : ∀ σ, PassesAt CX X σ (E σ)) (hr : Room (n + 1) X.A) (hsl : ∀ x v, subscripted i true (.ref x) v = runValue (.builtin "lifetime.subscript" ⟨[.ref x, v], []⟩) := by intro _ _; with_unfolding_all rfl) :
    PE X (.Subscript o i pos) (tIxOS C sp E to ti) := by
  refine ⟨fun pins s σ H Q I h => ?_⟩
  refine Subscript_ (thn (ho.run pins s σ H _ I h) fun v s1 ⟨x, H1, I1, r1, q1⟩ => thn (hi.run pins s1 σ H1 _ I1 q1) fun u s2 ⟨y, H2, I2, r2, q2⟩ => ?_)
  obtain ⟨a, dx, fs, rfl, ha, hsp⟩ := q2
  cases r1
  obtain ⟨mA, J, _⟩ := ins_get I2.hok ha
  obtain ⟨od, J, _⟩ := J.look
  obtain ⟨m, hF⟩ := I2.fr
  refine PySem.W.sub_K hF I2.ok.mod.kin J hs hf hfn ?_ (hsl _ _)
  have hl : ([Value.ref a, u] ++ []).length = ps.length := F.len _ _ _ _ hsp
  refine wpAny_call (codeAny_mono (F.run X.A.in1 X.stack s2 H2 ⟨[.ref a, u], []⟩ [.ref a, u] [.ref a, y] Q (E σ) hr.in1 I2.env0.in1 (hb s2 [.ref a, u] I2.kIn hl) (.cons rfl (.cons r2 .nil)) hsp) fun r s' hq => ?_)
  cases r with
  | error e => exact hx σ pins H2 s2 e s' I2 hq
  | ok fl =>
    cases fl with
    | ret u => exact I2.after hq
    | next => exact False.elim hq
    | brk => exact False.elim hq
    | cont => exact False.elim hq
def gSubS (C : Addr) (sp : Sp) (E : L2.St → XK) (to ti : TE) : TG := fun v σ H Q => to σ H fun x H1 => ti σ H1 fun y H2 => ∃ a dx fs, x = .ref a ∧ H2 a = some (.ins C dx fs) ∧ sp [.ref a, y, v] H2 (fun _ H' => Q σ H') (E σ)
theorem pg_subOS (ho : PE X o to) (hi : PE X i ti) (F : FnOk X.prog X.w X.K X.mg X.base CX n f fd ps sp) (hq : PySem.W.noSeq X.K C = true) (hs : PySem.W.findIn X.K (.ref C) "__setitem__" = some (some (.ref f))) (hfn : PySem.W.isFn X.K (.ref f) = true)
    (hb : Binds X.K fd ps []) (hx : ∀ σ, PassesAt CX X σ (E σ)) (hr : Room n X.A)
    (ha : ∀ v, assign (.Subscript o i pos) X.env v = (do
      let ov ← holding [v] (eval o X.env)
      let iv ← holding [v, ov] (eval i X.env)
      standAt pos
      holding [v, ov, iv] (setItem ov iv v)
      release [v, ov, iv] []) := by intro _; rfl) : PG X (.Subscript o i pos) (gSubS C sp E to ti) := by
  refine ⟨fun pins s σ H v u Q I r h => ?_⟩
  rw [ha]
  refine wpAny_bind (wpAny_holding (thn (ho.run pins s σ H _ I h) fun ov s1 ⟨x, H1, I1, r1, q1⟩ => ?_))
  refine wpAny_bind (wpAny_holding (thn (hi.run pins s1 σ H1 _ I1 q1) fun iv s2 ⟨y, H2, I2, r2, q2⟩ => ?_))
  obtain ⟨a, dx, fs, rfl, ha2, hsp⟩ := q2
  cases r1
  obtain ⟨mA, J, _⟩ := ins_get I2.hok ha2
  obtain ⟨od, J, _⟩ := J.look
  obtain ⟨m, hF⟩ := I2.fr
  refine wpAny_bind (wpAny_standAt (wpAny_bind (wpAny_holding (PySem.W.ksp_setItem hF I2.ok.mod.kin J hq hs hfn ?_))))
  refine wpAny_mono (run_fnS (us := [.ref a, iv, u]) (vs := [.ref a, y, v]) (E := E) F hr hb (hx σ) I2 (.cons rfl (.cons r2 (.cons r .nil))) hsp) (fun r s' q => ?_) fun _ _ e => e
  obtain ⟨z, H', I', rz, q⟩ := q
  exact wpAny_release ⟨σ, H', I', q⟩
end
end XL
set_option Elab.async false
set_option linter.all false
set_option maxRecDepth 100000
set_option maxHeartbeats 4000000
/-! XOwnIt: list(o), o an object whose own __iter__ hands on iter(t), t a tuple. -/
namespace XL
open PySem PySem.Spec PyProof.Rows L2
/-- an iterator over the tuple at t, the next place is i -/
def ItT (t it : Addr) (i : Nat) : HO := .ext fun h => IsTupIter h it t i
/-- .. that has ended -/
def ItTE (it : Addr) : HO := .ext fun h => ∃ o, h.get? it = some o
theorem itT_ok {P : Program} {w : World} {H : Hp} {h : Heap} {t it : Addr} {i : Nat} (e : IsTupIter h it t i) : ObjOk P w H h it (ItT t it i) := by
  obtain ⟨o, h1, h2⟩ := e
  exact ⟨⟨o, h1, h2⟩, ⟨_, h1⟩, fun g1 g2 ⟨o', q1, q2⟩ k => ⟨o', k _ q1, q2⟩⟩
theorem itTE_ok {P : Program} {w : World} {H : Hp} {h : Heap} {it : Addr} {o : Obj} (e : h.get? it = some o) : ObjOk P w H h it (ItTE it) := ⟨⟨o, e⟩, ⟨_, e⟩, fun g1 g2 ⟨o', q1⟩ k => ⟨o', k _ q1⟩⟩
section
variable {X : Cx} {pins : List (Addr × Obj)} {σ : L2.St} {H : Hp} {s : Shared}
theorem itT_get {t it : Addr} {i : Nat} (I : Inv X pins σ H s) (e : H it = some (ItT t it i)) : IsTupIter s.heap it t i := (I.hok it _ e).1
theorem call_iter_tup {M : Program} {w : World} {A : Around} {E : Value → Shared → Prop} {s : Shared} {t : Addr} {items : Array Value} {Q : Value → Shared → Prop} (ht : IsTup s.heap t items)
    (h : Q (.ref s.heap.objs.size) { s with heap := s.heap.push { cls := .type "tuple_iterator", data := .fields #[.ref t, .int 0 0] } }) : wpAny (model M w) A (call (.builtin "iter") [.ref t]) Q E s := by
  refine Calls.call_function_entry (by decide +kernel) (by decide +kernel) PySem.W.kdk_entry_iter (PySem.W.kdk_args_iter _) ?_
  unfold Builtin.«iter»
  refine wpAny_bind (m := someArgs "iter" 1 2 _) (wpAny_of_eq (a := [Value.ref t]) (by first | rfl | kernel_rfl!) ?_)
  show wpAny _ _ (pyIter (.ref t) >>= _) _ _ _
  refine wpAny_bind (iter_tuple ht ?_)
  exact wpAny_pure ⟨_, rfl, h⟩
/-- iter(t) -/
def rIterT (K : PySem.W.Frag) : List V → Hp → VK → Prop := fun xs H Q => ∃ (t : Addr) (zs : List V), xs = [.ref t] ∧ SqT K H t zs ∧ ∀ it, H it = none → Q (.ref it) (upd H it (ItT t it 0))
theorem call_iterT : CallR X (.builtin "iter") (rIterT X.K) := by
  intro pins s σ H xs us Q I r h
  obtain ⟨t, zs, rfl, hq, q⟩ := h
  obtain rfl := Vals.ref1 r
  obtain ⟨its, rv, pl, hz⟩ := I.tuple hq
  refine call_iter_tup pl ?_
  exact ⟨.ref s.heap.objs.size, _, I.laid (t' := s.toks) (fun b u e => Heap.get?_push_of_some _ e) (Nat.le_refl _) (itT_ok ⟨_, Heap.get?_push_size _ rfl, rfl, rfl⟩), rfl, q _ (I.hok.fresh (Nat.le_refl _))⟩
theorem call_iterTK (K : PySem.W.Frag) (h : X.K = K := by rfl) : CallR X (.builtin "iter") (rIterT K) := h ▸ call_iterT
theorem sqT_upd {K : PySem.W.Frag} {H : Hp} {t x : Addr} {zs : List V} {o : HO} (h : SqT K H t zs) (hx : ∀ o' xs, H x ≠ some (.tup xs) ∧ H x ≠ some (.frz o' (.tup xs))) : SqT K (upd H x o) t zs := by
  rcases h with (h | ⟨ob, h⟩) | h
  · have ne : t ≠ x := fun z => (hx default zs).1 (by rw [← z]; exact h)
    exact .inl (.inl (by rw [upd_ne ne]; exact h))
  · have ne : t ≠ x := fun z => (hx ob zs).2 (by rw [← z]; exact h)
    exact .inl (.inr ⟨ob, by rw [upd_ne ne]; exact h⟩)
  · exact .inr h
/-- the end of a tuple: the iterator itself stays there -/
theorem next_tup_end {P : Program} {w : World} {A : Around} {E : Value → Shared → Prop} {s : Shared} {it t : Addr} {i : Nat} {items : Array Value} {Q : Option Value → Shared → Prop} (hh : A.handled = none)
    (hit : IsTupIter s.heap it t i) (ht : IsTup s.heap t items) (hx : items[i]? = none)
    (hQ : ∀ h', Heap.ExtBut it s.heap h' → (∃ o, h'.get? it = some o) → Q none { s with heap := h' }) : wpAny (model P w) A (pyNext (.ref it)) Q E s := by
  obtain ⟨o, ho, hc, hd⟩ := id hit
  obtain ⟨ol, hol, _, nl, hdl⟩ := ht
  unfold pyNext
  refine wpAny_bind (wpAny_attempt (wpAny_callSpecial?_slot (name := Str.ofString "__next__") hit.typeIs slot_tupleiter_next (wpAny_call_entry slot_tupleiter_next hit.typeIs entry_tupleiter_next ?_ (args_tupleiter_next _))))
  show wpAny _ _ (field (.ref it) 0 >>= _) _ _ s
  refine wpAny_bind (wpAny_field ho hd (x := .ref t) rfl (PySem.W.KFB.if_not rfl ?_))
  show wpAny _ _ (field (.ref it) 1 >>= _) _ _ s
  refine wpAny_bind (wpAny_field ho hd (x := .int i 0) rfl ?_)
  show wpAny _ _ (seqItems? (.ref t) >>= _) _ _ s
  refine wpAny_bind (wpAny_seqItems hol hdl ?_)
  simp only [Int.toNat_natCast, hx]
  refine wpAny_bind (wpAny_rule (wpAny_bind (wpAny_setField ho hd (by simp) ?_)))
  show wpAny _ _ (newExc (.type "StopIteration") [] >>= _) _ _ _
  refine wpAny_bind ?_
  simp only [newExc, newTuple]
  refine wpAny_bind (wpAny_newObj_type ?_ (by size_fits))
  refine wpAny_bind (m := firstArgMember _ _) (wpAny_of_eq (a := Value.none) (by first | rfl | (simp only [firstArgMember]; rfl)) ?_)
  refine wpAny_newObj_type ?_ (by size_fits)
  simp only [raiseNew]
  refine wpAny_bind (wpAny_handled ?_)
  first | rw [show A.in1.handled = none from hh] | rw [hh]
  refine wpAny_bind (wpAny_pure (wpAny_throw ?_))
  refine wpAny_bind (wpAny_isInstance (T := "StopIteration") (b := true) ⟨_, Heap.get?_push_size _ rfl, rfl⟩ isSubtype_stop ?_)
  exact wpAny_pure (hQ _ (((Heap.SameBut.update ..).extBut.push _).push _) ⟨_, Heap.get?_push_of_some _ (Heap.get?_push_of_some _ (Heap.get?_update_self _ ho (Obj.isFreed_of_fields (Obj.data_mapFields hd _))))⟩)
/-- the loop that fills the list at q -/
theorem loop_tup {A1 : Around} {Rs : Result → Shared → Prop} {q it t : Addr} {zs : List V} (hd : A1.in1.handled = none) (hne : q ≠ it) :
    ∀ (k i : Nat) (H : Hp) (s : Shared), zs.length - i = k → i ≤ zs.length → Inv X pins σ H s → H it = some (ItT t it i) → SqT X.K H t zs → H q = some (.lst (zs.take i)) →
      (∀ s', Inv X pins σ (upd (upd H it (ItTE it)) q (.lst zs)) s' → Rs (.ok (.ret .none)) s') → codeAny (model X.prog X.w) A1 (.builtin "list.extend.loop" ⟨[.ref q, .ref it, .none], []⟩) Rs s := by
  intro k
  induction k with
  | zero =>
    intro i H s hk hi I hit ht hq hR
    obtain ⟨its, rv, pl, hz⟩ := I.tuple ht
    have hin : zs.length = its.length := rv.length
    have mu : Mut (H it) := by rw [hit]; exact True.intro
    refine codeAny_builtin PySem.F.entry_extend_loop ?_
    rw [Around.under_plainId PySem.F.plain_extend_loop _]
    show wpAny _ A1.in1 (pyNext (.ref it) >>= _) _ _ s
    have ei : i = zs.length := by omega
    refine wpAny_bind (next_tup_end hd (itT_get I hit) pl (by rw [List.getElem?_toArray]; exact List.getElem?_eq_none (by omega)) fun h' eb ⟨o, ho⟩ => wpAny_pure ?_)
    have I2 : Inv X pins σ (upd H it (ItTE it)) { s with heap := h' } := I.write (x := it) (e := it) (t' := s.toks) mu (.inl rfl) (fun b o nb z => eb b o nb z) ⟨_, ho⟩ (itTE_ok ho)
    refine hR _ ?_
    have e : upd (upd H it (ItTE it)) q (.lst zs) = upd H it (ItTE it) := by
      funext b
      by_cases hb : b = q
      · rw [hb, upd_same, upd_ne hne, hq, ei, List.take_length]
      · rw [upd_ne hb]
    rw [e]
    exact I2
  | succ k ih =>
    intro i H s hk hi I hit ht hq hR
    obtain ⟨its, rv, pl, hz⟩ := I.tuple ht
    have hin : zs.length = its.length := rv.length
    have mu : Mut (H it) := by rw [hit]; exact True.intro
    have hlt : i < zs.length := by omega
    have hzi := List.getElem?_eq_getElem hlt
    obtain ⟨u, hu, ru⟩ := rv.get hzi
    refine codeAny_builtin PySem.F.entry_extend_loop ?_
    rw [Around.under_plainId PySem.F.plain_extend_loop _]
    show wpAny _ A1.in1 (pyNext (.ref it) >>= _) _ _ s
    refine wpAny_bind (next_tuple_item (itT_get I hit) pl (by rw [List.getElem?_toArray]; exact hu) fun h' hit' sb => ?_)
    obtain ⟨o, ho, _⟩ := id hit'
    have I2 : Inv X pins σ (upd H it (ItT t it (i + 1))) { s with heap := h' } := I.write (x := it) (e := it) (t' := s.toks) mu (.inl rfl) (fun b o nb z => (sb.2 b nb).trans z) ⟨_, ho⟩ (itT_ok hit')
    have hq2 : upd H it (ItT t it (i + 1)) q = some (.lst (zs.take i)) := by rw [upd_ne hne]; exact hq
    show wpAny _ A1.in1 (updateSeq q (·.push u) >>= _) _ _ _
    obtain ⟨z, its2, c, r2, hl, e⟩ := I2.lstM hq2
    have l2 : its2.length ≤ 16777215 := by
      rw [← hl, List.length_take]
      have := hz
      rw [sizeLine_eq] at this
      omega
    refine wpAny_bind (wpAny_updateSeq e rfl (wpAny_pure ⟨plainId_quiet PySem.F.plain_extend_loop _, ?_⟩) (by rw [List.size_toArray, sizeLine_eq]; omega) (by show (its2.toArray.push u).size ≤ sizeLine + 1; rw [Array.size_push, List.size_toArray, sizeLine_eq]; omega))
    have I3 := I2.lset (f := (·.push u)) (its' := its2 ++ [u]) (ys := zs.take i ++ [zs[i]]) (t' := s.toks) hq2 e (by simp) (r2.append (.cons ru .nil)) (by rw [List.length_append, List.length_singleton, List.length_take, sizeLine_eq]; rw [sizeLine_eq] at hz; omega)
    refine ih (i + 1) _ _ (by omega) (by omega) I3 ?_ ?_ ?_ fun s' I4 => hR s' ?_
    · rw [upd_ne (Ne.symm hne), upd_same]
    · exact sqT_upd (sqT_upd ht fun o' xs => ⟨by rw [hit]; exact fun z => (nomatch z), by rw [hit]; exact fun z => (nomatch z)⟩) fun o' xs => ⟨by rw [hq2]; exact fun z => (nomatch z), by rw [hq2]; exact fun z => (nomatch z)⟩
    · rw [upd_same, take_snoc hzi]
    · have e4 : upd (upd (upd (upd H it (ItT t it (i + 1))) q (.lst (zs.take i ++ [zs[i]]))) it (ItTE it)) q (.lst zs) = upd (upd H it (ItTE it)) q (.lst zs) := by
        funext b
        by_cases hb : b = q
        · rw [hb, upd_same, upd_same]
        · rw [upd_ne hb, upd_ne hb]
          by_cases hb2 : b = it
          · rw [hb2, upd_same, upd_same]
          · rw [upd_ne hb2, upd_ne hb2, upd_ne hb, upd_ne hb2]
      rw [← e4]
      exact I4
/-- list(o) -/
def rListIt (K : PySem.W.Frag) (C : Addr) (sp : Sp) (E : XK) : List V → Hp → VK → Prop := fun xs H Q => ∃ a dx fs, xs = [.ref a] ∧ H a = some (.ins C dx fs) ∧
  ∀ q, H q = none → sp [.ref a] (upd H q (.lst [])) (fun v H1 => ∃ (it t : Addr) (zs : List V), v = .ref it ∧ H1 it = some (ItT t it 0) ∧ SqT K H1 t zs ∧ H1 q = some (.lst []) ∧ (∃ dx' fs', H1 a = some (.ins C dx' fs')) ∧ Q (.ref q) (upd (upd H1 it (ItTE it)) q (.lst zs))) E
theorem hint_own {M : Model} {A : Around} {E : Value → Shared → Prop} {s : Shared} {Q : Bool → Shared → Prop} {K : PySem.W.Frag} {C a : Addr} {ox : Obj} {od : Option Obj} (h1 : PySem.W.findIn K (.ref C) "__len__" = some none) (h2 : PySem.W.findIn K (.ref C) "__length_hint__" = some none)
    (hK : K.In s.heap) (J : PySem.W.InstAt s.heap a ox C od) (h : Q true s) : wpAny M A (Builtin.List.listLengthHint (.ref a)) Q E s := by
  unfold Builtin.List.listLengthHint
  refine wpAny_bind (wpAny_bind (J.type.here ((PySem.W.looks_findIn hK h1).here (PySem.W.KFB.if_not rfl (PySem.W.KFB.if_not rfl ?_)))))
  exact wpAny_bind (wpAny_bind (J.type.here ((PySem.W.looks_findIn hK h2).here (wpAny_pure h))))
theorem call_listIt {C f : Addr} {fd : FuncData} {ps : List Str} {sp : Sp} {E : XK} {n : Nat} {CX : CXT} (hs : PySem.W.findIn X.K (.ref C) "__iter__" = some (some (.ref f))) (hfn : PySem.W.isFn X.K (.ref f) = true) (n1 : PySem.W.findIn X.K (.ref C) "__len__" = some none) (n2 : PySem.W.findIn X.K (.ref C) "__length_hint__" = some none)
    (F : FnOk X.prog X.w X.K X.mg X.base CX n f fd ps sp) (hb : Binds X.K fd ps []) (hx : Passes CX X E) (hr : Room (n + 2) X.A) : CallR X (.type "list") (rListIt X.K C sp E) := by
  intro pins s σ H xs us Q I rv h
  obtain ⟨a, dx, fs, rfl, ha, hq⟩ := h
  obtain ⟨u, rfl, ru⟩ := rv.one
  cases ru
  have sb : Sub X n X.A.in1.in1 := (Sub.in1 (Sub.in1 (⟨hr, rfl⟩ : Sub X (n + 2) X.A)))
  refine callType_codes (Q₁ := fun obj s₁ => obj = .ref s.heap.objs.size ∧ s₁ = { s with heap := s.heap.push { cls := .type "list", data := .seq #[] } }) PySem.F.called_list (PySem.F.typeCall_list_1 _) PySem.F.entry_list_init
    (code_list_new _ ⟨rfl, rfl⟩) fun obj s₁ h₁ => ?_
  obtain ⟨rfl, rfl⟩ := h₁
  have hS : (s.heap.push { cls := .type "list", data := .seq #[] }).get? s.heap.objs.size = some { cls := .type "list", data := .seq #[] } := Heap.get?_push_size _ rfl
  refine ⟨⟨_, hS, rfl⟩, PySem.F.args_list_init_2 _ _, ?_⟩
  have fr : H s.heap.objs.size = none := I.hok.fresh (Nat.le_refl _)
  have hsp := hq _ fr
  have I1 : Inv X pins σ (upd H s.heap.objs.size (.lst [])) { s with heap := s.heap.push { cls := .type "list", data := .seq #[] } } := I.lnew (its := []) (t' := s.toks) .nil (Nat.zero_le _)
  show wpAny _ _ (do let old ← Builtin.List.listItems (.ref s.heap.objs.size); Builtin.List.listUpdate (.ref s.heap.objs.size) (fun _ => #[]); letGo old.toList.reverse; Builtin.List.listExtendWith (.ref s.heap.objs.size) (.ref a) .none) _ _ _
  refine wpAny_bind ?_
  unfold Builtin.List.listItems
  refine wpAny_bind (wpAny_seqItems hS rfl (wpAny_pure ?_))
  show wpAny _ _ (updateSeq s.heap.objs.size (fun _ => #[]) >>= fun _ => letGo (#[] : Array Value).toList.reverse >>= fun _ => Builtin.List.listExtendWith (.ref s.heap.objs.size) (.ref a) .none) _ _ _
  refine wpAny_bind (wpAny_updateSeq hS rfl ?_)
  have I2 := I1.lset (f := fun _ => #[]) (its := []) (its' := []) (ys := []) (t' := s.toks) upd_same hS rfl .nil (Nat.zero_le _)
  rw [upd_upd] at I2
  refine wpAny_bind (wpAny_letGo ?_)
  have ha2 : upd H s.heap.objs.size (.lst []) a = some (.ins C dx fs) := by rw [upd_ne (ne_of_none ha fr)]; exact ha
  have hne : s.heap.objs.size ≠ a := Ne.symm (ne_of_none ha fr)
  generalize hH2 : upd H s.heap.objs.size (.lst []) = H2 at *
  generalize s.heap.objs.size = q at *
  obtain ⟨mA, J, _⟩ := ins_get I2.hok ha2
  obtain ⟨od, J, _⟩ := J.look
  obtain ⟨m0, hF⟩ := I2.fr
  unfold Builtin.List.listExtendWith
  refine wpAny_bind (J.type.here ?_)
  have h1 : Builtin.List.listSameRef (.ref q) (.ref a) = false := by simp [Builtin.List.listSameRef, hne]
  have h2 : (Value.ref C == Value.type "list") = false := rfl
  have h3 : (Value.ref C == Value.type "tuple") = false := rfl
  simp only [h1, h2, h3, Bool.or_false, Bool.false_eq_true, if_false]
  refine wpAny_bind (PySem.W.owit_iter hF I2.ok.mod.kin J hs hfn ?_)
  have e0 : ∀ {s : Shared} {H : Hp}, Inv X pins σ H s → Env0 X.prog X.w X.K X.mg X.base X.A.in1.in1 X.stack s H := fun {s H} I => by
    have e := I.env0
    exact ⟨by rw [sb.fr]; exact e.frames, e.mod, e.bs, e.bsz, e.funs, e.frf, e.hok, e.bare⟩
  have hl := F.len _ _ _ _ hsp
  have r2 : Vals [V.ref a] [Value.ref a] := .cons rfl .nil
  refine wpAny_call (codeAny_mono (F.run X.A.in1.in1 X.stack _ _ ⟨[.ref a], []⟩ [.ref a] [.ref a] _ E sb.room (e0 I2) (by
    have := hb _ [.ref a] I2.kIn (by simpa using hl)
    simpa using this) r2 hsp) fun r s' hq' => ?_)
  cases r with
  | error e => exact hx pins σ _ _ e s' I2 hq'
  | ok fl =>
    cases fl with
    | next => exact False.elim hq'
    | brk => exact False.elim hq'
    | cont => exact False.elim hq'
    | ret u =>
      obtain ⟨v, H', I', rv, it, t, zs, ev, hit, ht, hqq, ⟨dx', fs', ha'⟩, hQ⟩ := I2.after hq'
      subst ev
      cases rv
      have hT : s'.TypeIs (.ref it) "tuple_iterator" := (itT_get I' hit).typeIs
      have hqi : q ≠ it := fun z => by
        rw [z, hit] at hqq
        exact (nomatch hqq)
      show wpAny _ _ (specialOf (.ref it) "__next__") _ _ _
      refine wpAny_specialOf hT slot_tupleiter_next.lookup ?_
      obtain ⟨mA', J', _⟩ := ins_get I'.hok ha'
      obtain ⟨od', J', _⟩ := J'.look
      refine wpAny_bind (wpAny_holding (hint_own n1 n2 I'.kIn J' ?_))
      have go : ∀ s'', Inv X pins σ H' s'' → codeAny (model X.prog X.w) X.A.in1 (.builtin "list.extend.loop" ⟨[.ref q, .ref it, .none], []⟩) (wants (fun r s₂ => r = .none ∧ EP X pins σ Q (.ref q) s₂) X.xe) s'' := fun s'' I'' =>
        loop_tup (t := t) (zs := zs) sb.room.hd hqi zs.length 0 H' s'' (by simp) (Nat.zero_le _) I'' hit ht (by rw [hqq]; rfl) fun s3 I3 => ⟨rfl, .ref q, _, I3, rfl, hQ⟩
      obtain ⟨z, its, k, r3, hl3, e3⟩ := I'.lstM hqq
      cases r3
      refine wpAny_ite_split (fun _ => ?_) (fun _ => wpAny_pure ⟨plainId_quiet PySem.F.plain_extend_loop _, go s' I'⟩)
      refine wpAny_bind (wpAny_rule ?_)
      refine wpAny_bind ?_
      show wpAny _ _ (updateSeq q (·.push .none) >>= fun _ => updateSeq q (·.pop)) _ _ _
      refine wpAny_bind (wpAny_updateSeq e3 rfl ?_)
      have I3 := I'.lset (f := (·.push Value.none)) (its' := [Value.none]) (ys := [.non]) (t' := s'.toks) hqq e3 (by simp) (.cons rfl .nil) (by rw [List.length_singleton, sizeLine_eq]; decide)
      obtain ⟨z4, its4, k4, r4, hl4, e4⟩ := I3.lstM upd_same
      obtain ⟨u4, rfl, ru4⟩ := r4.one
      refine wpAny_updateSeq e4 rfl ?_ (by show 1 ≤ sizeLine; rw [sizeLine_eq]; decide) (by show 0 ≤ sizeLine + 1; exact Nat.zero_le _)
      have I4 := I3.lset (f := (·.pop)) (its := [u4]) (its' := []) (ys := []) (t' := s'.toks) upd_same e4 (by rfl) .nil (Nat.zero_le _)
      rw [upd_upd] at I4
      have hH : upd H' q (.lst []) = H' := by
        funext b
        by_cases hb : b = q
        · rw [hb, upd_same, hqq]
        · rw [upd_ne hb]
      rw [hH] at I4
      exact wpAny_pure ⟨plainId_quiet PySem.F.plain_extend_loop _, go _ I4⟩
end
end XL
set_option Elab.async false
set_option linter.all false
set_option maxRecDepth 100000
set_option maxHeartbeats 4000000
/-! XOr: two rules for one piece of text; what classes say of an own error. -/
namespace XL
open PySem PySem.Spec PyProof.Rows L2
section
variable {X : Cx}
theorem pe_or {e : Expr} {t u : TE} (h : PE X e t) (k : PE X e u) : PE X e (fun σ H Q => t σ H Q ∨ u σ H Q) := ⟨fun pins s σ H Q I q => q.elim (h.run pins s σ H Q I) (k.run pins s σ H Q I)⟩
theorem pg_or {e : Expr} {t u : TG} (h : PG X e t) (k : PG X e u) : PG X e (fun v σ H Q => t v σ H Q ∨ u v σ H Q) := ⟨fun pins s σ H v w Q I r q => q.elim (h.run pins s σ H v w Q I r) (k.run pins s σ H v w Q I r)⟩
theorem cr_or {f : Value} {t u : List V → Hp → VK → Prop} (h : CallR X f t) (k : CallR X f u) : CallR X f (fun xs H Q => t xs H Q ∨ u xs H Q) := fun pins s σ H xs us Q I r q => q.elim (h pins s σ H xs us Q I r) (k pins s σ H xs us Q I r)
end
section
variable {P : Program} {w : World} {K : PySem.W.Frag} {mg : Str → Option Value} {base : Heap} {CX : CXT} {k : Nat} {f : Addr} {fd : FuncData} {ps : List Str} {sp sq : Sp}
theorem fn_or (h : FnOk P w K mg base CX k f fd ps sp) (h2 : FnOk P w K mg base CX k f fd ps sq) : FnOk P w K mg base CX k f fd ps (fun vs H Q E => sp vs H Q E ∨ sq vs H Q E) :=
  ⟨fun vs H Q E q => q.elim (h.len vs H Q E) (h2.len vs H Q E), fun A outer s H args us vs Q E hr he hb hv q => q.elim (h.run A outer s H args us vs Q E hr he hb hv) (h2.run A outer s H args us vs Q E hr he hb hv)⟩
end
theorem kit_of {K : PySem.W.Frag} {D C : Addr} {b : Bool} (hne : (Value.ref D == Value.ref C) = false) (h2 : PySem.W.isClsIn K C = true) (h3 : PySem.W.typeIn K (.ref C) = some (.type "type")) (h4 : PySem.W.subIn K (.ref D) (.ref C) = some b) : PySem.W.kitOne K (.ref D) (.ref C) = some b := by
  have e2 : ((PySem.W.clsIn K C).isSome && PySem.W.typeIn K (.ref C) == some (.type "type")) = true := by
    have h2' : (PySem.W.clsIn K C).isSome = true := h2
    rw [h2', h3]
    rfl
  show (if (Value.ref D == Value.ref C) = true then some true else (if ((PySem.W.clsIn K C).isSome && PySem.W.typeIn K (.ref C) == some (.type "type")) = true then PySem.W.subIn K (.ref D) (.ref C) else none)) = some b
  rw [if_neg (by rw [hne]; decide), if_pos e2]
  exact h4
theorem exm_of {K : PySem.W.Frag} {S : Addr} {cls : Value} {b : Bool} (h1 : PySem.W.subIn K (.ref S) (.type "BaseException") = some true) (h2 : PySem.W.isClsIn K S = true) (h3 : PySem.W.typeIn K (.ref S) = some (.type "type")) (h4 : PySem.W.subIn K cls (.ref S) = some b) : PySem.W.exmOne K cls (.ref S) = some b := by
  have e1 : (PySem.W.subIn K (.ref S) (.type "BaseException") == some true) = true := by rw [h1] <;> rfl
  have e2 : ((PySem.W.clsIn K S).isSome && PySem.W.typeIn K (.ref S) == some (.type "type")) = true := by
    have h2' : (PySem.W.clsIn K S).isSome = true := h2
    rw [h2', h3] <;> rfl
  show (if (PySem.W.subIn K (.ref S) (.type "BaseException") == some true) = true then (if ((PySem.W.clsIn K S).isSome && PySem.W.typeIn K (.ref S) == some (.type "type")) = true then PySem.W.subIn K cls (.ref S) else none) else none) = some b
  rw [if_pos e1, if_pos e2]
  exact h4
end XL
set_option Elab.async false
set_option linter.all false
set_option maxRecDepth 100000
set_option maxHeartbeats 4000000
/-! XTxt: texts of small letters; a name that is not used. -/
namespace XL
open PySem PySem.Spec PyProof.Rows L2
def LS : Str := "abcdefghijklmnopqrstuvwxyz"
structure Lt (a b : Nat) (z : Str) : Prop where
  lo : a ≤ z.length
  hi : z.length ≤ b
  ch : ∀ c ∈ z.cps.toList, c ∈ LS.cps.toList
theorem len_tl (z : Str) : z.length = z.cps.toList.length := by
  show z.cps.size = _
  rw [Array.length_toList]
theorem Lt.one {c : Nat} (h : c ∈ LS.cps.toList) : Lt 1 1 ⟨#[c]⟩ := ⟨Nat.le_refl _, Nat.le_refl _, fun d hd => by
  have : d = c := by simpa using hd
  rw [this]
  exact h⟩
theorem Lt.wide {a b a' b' : Nat} {z : Str} (h : Lt a b z) (h1 : a' ≤ a) (h2 : b ≤ b') : Lt a' b' z := ⟨Nat.le_trans h1 h.lo, Nat.le_trans h.hi h2, h.ch⟩
theorem app_len (x y : Str) : (x ++ y).length = x.length + y.length := Str.length_append x y
theorem app_tl (x y : Str) : (x ++ y).cps.toList = x.cps.toList ++ y.cps.toList := by
  rw [Str.cps_append]
  simp
theorem Lt.app {a b c d : Nat} {x y : Str} (h : Lt a b x) (k : Lt c d y) : Lt (a + c) (b + d) (x ++ y) := by
  have h1 := h.lo; have h2 := h.hi; have h3 := k.lo; have h4 := k.hi
  refine ⟨by rw [app_len]; omega, by rw [app_len]; omega, fun e he => ?_⟩
  rw [app_tl] at he
  rcases List.mem_append.mp he with z | z
  · exact h.ch e z
  · exact k.ch e z
theorem cut_mem {z : Str} {lo hi : Option Int} {c : Nat} (h : c ∈ (cutS z lo hi).cps.toList) : c ∈ z.cps.toList := by
  have h2 : c ∈ (z.cps.toList.drop (HT.sIx z.length 0 lo)).take (HT.sIx z.length z.length hi - HT.sIx z.length 0 lo) := by simpa [cutS] using h
  exact List.mem_of_mem_drop (List.mem_of_mem_take h2)
theorem cut_to_len (z : Str) (k : Nat) : (cutS z none (some (k : Int))).length = min k z.length := by
  rw [len_tl]
  show ((z.cps.toList.drop (HT.sIx z.length 0 none)).take (HT.sIx z.length z.length (some (k : Int)) - HT.sIx z.length 0 none)).toArray.toList.length = _
  rw [HT.sIx_nat, HT.sIx_none]
  rw [Nat.sub_zero, List.drop_zero, List.length_take, ← len_tl]
  omega
theorem cut_from_len (z : Str) (k : Nat) (h : k ≤ z.length) : (cutS z (some (k : Int)) none).length = z.length - k := by
  rw [len_tl]
  show ((z.cps.toList.drop (HT.sIx z.length 0 (some (k : Int)))).take (HT.sIx z.length z.length none - HT.sIx z.length 0 (some (k : Int)))).toArray.toList.length = _
  rw [HT.sIx_nat, HT.sIx_none, List.length_take, List.length_drop, ← len_tl]
  omega
theorem Lt.to {a b : Nat} {z : Str} (h : Lt a b z) (k : Nat) : Lt (min k a) (min k b) (cutS z none (some (k : Int))) := by
  have h1 := h.lo; have h2 := h.hi
  exact ⟨by rw [cut_to_len]; omega, by rw [cut_to_len]; omega, fun c hc => h.ch c (cut_mem hc)⟩
theorem joinL_nil : ∀ ps : List (List Nat), TL.joinL [] ps = ps.flatten
  | [] => rfl
  | [p] => by simp [TL.joinL]
  | p :: q :: r => by
    show p ++ ([] ++ TL.joinL [] (q :: r)) = _
    rw [joinL_nil (q :: r)]
    simp
theorem Lt.join {ys : List Str} (h : ∀ y ∈ ys, Lt 1 1 y) : Lt ys.length ys.length (Txt.join "" ys) := by
  have e : (Txt.join "" ys).cps.toList = (ys.map fun y => y.cps.toList).flatten := by
    rw [TL.join_eq]
    exact (TL.tl_join "" ys).trans (joinL_nil _)
  have el : ∀ {ys : List Str}, (∀ y ∈ ys, Lt 1 1 y) → ((ys.map fun y => y.cps.toList).flatten).length = ys.length := by
    intro ys
    induction ys with
    | nil => intro _; rfl
    | cons y r ih =>
      intro h
      have h1 := h y List.mem_cons_self
      have z := ih fun y hy => h y (List.mem_cons_of_mem _ hy)
      have l1 := h1.lo; have l2 := h1.hi
      rw [len_tl] at l1 l2
      rw [List.map_cons, List.flatten_cons, List.length_append, z, List.length_cons]
      omega
  have l := el h
  refine ⟨by rw [len_tl, e, l]; exact Nat.le_refl _, by rw [len_tl, e, l]; exact Nat.le_refl _, fun c hc => ?_⟩
  rw [e] at hc
  obtain ⟨p, hp, hcp⟩ := List.mem_flatten.mp hc
  obtain ⟨y, hy, rfl⟩ := List.mem_map.mp hp
  exact (h y hy).ch c hcp
theorem sum_ones : ∀ {ys : List Str}, (∀ y ∈ ys, Lt 1 1 y) → (ys.map (·.length)).sum = ys.length
  | [], _ => rfl
  | y :: r, h => by
    have h1 := h y List.mem_cons_self
    have z := sum_ones fun y hy => h y (List.mem_cons_of_mem _ hy)
    have l1 := h1.lo; have l2 := h1.hi
    rw [List.map_cons, List.sum_cons, z, List.length_cons]
    omega
/-! ### one that is not used -/
theorem nd_sub {α : Type} [DecidableEq α] : ∀ {xs ys : List α}, xs.Nodup → (∀ x ∈ xs, x ∈ ys) → xs.length ≤ ys.length
  | [], _, _, _ => Nat.zero_le _
  | x :: r, ys, nd, h => by
    have hx := h x List.mem_cons_self
    have nd' := List.nodup_cons.mp nd
    have z := nd_sub (ys := ys.erase x) nd'.2 fun y hy => (List.mem_erase_of_ne (fun e : y = x => nd'.1 (by rw [← e]; exact hy))).mpr (h y (List.mem_cons_of_mem _ hy))
    rw [List.length_erase_of_mem hx] at z
    have : 0 < ys.length := List.length_pos_of_mem hx
    rw [List.length_cons]
    omega
def letter (k : Nat) : Nat := LS.cps.toList.getD k 0
theorem letter_at {k : Nat} (h : k < 26) : LS.cps.toList[k]? = some (letter k) := by
  have z : ∀ j : Nat, j < 26 → LS.cps.toList[j]? = some (letter j) := by decide +kernel
  exact z k h
theorem letter_inj {i j : Nat} (hi : i < 26) (hj : j < 26) (h : letter i = letter j) : i = j := by
  have z : ∀ i : Nat, i < 26 → ∀ j : Nat, j < 26 → letter i = letter j → i = j := by decide +kernel
  exact z i hi j hj h
def tail2 (k : Nat) : Str := (⟨#[letter (k / 26)]⟩ : Str) ++ ⟨#[letter (k % 26)]⟩
theorem tail2_inj {p : Str} {i j : Nat} (hi : i < 676) (hj : j < 676) (h : p ++ tail2 i = p ++ tail2 j) : i = j := by
  have e := congrArg (fun z : Str => z.cps.toList) h
  simp only [app_tl, tail2] at e
  have e2 := List.append_cancel_left e
  have e3 : [letter (i / 26), letter (i % 26)] = [letter (j / 26), letter (j % 26)] := by simpa using e2
  injection e3 with h1 h2
  injection h2 with h2 _
  have a := letter_inj (by omega) (by omega) h1
  have b := letter_inj (by omega) (by omega) h2
  omega
theorem tail2_lt {k : Nat} (h : k < 676) : Lt 2 2 (tail2 k) :=
  (Lt.one (List.mem_of_getElem? (letter_at (by omega)))).app (Lt.one (List.mem_of_getElem? (letter_at (by omega))))
theorem unused (p : Str) (us : List Str) (h : us.length < 676) : ∃ k, k < 676 ∧ p ++ tail2 k ∉ us := by
  apply Classical.byContradiction
  intro no
  have all : ∀ z ∈ (List.range 676).map (fun k => p ++ tail2 k), z ∈ us := fun z hz => by
    obtain ⟨k, hk, rfl⟩ := List.mem_map.mp hz
    apply Classical.byContradiction
    intro q
    exact no ⟨k, List.mem_range.mp hk, q⟩
  have nd : ((List.range 676).map (fun k => p ++ tail2 k)).Nodup := by
    unfold List.Nodup
    rw [List.pairwise_map]
    refine List.Pairwise.imp_of_mem ?_ (List.nodup_range (n := 676))
    intro a b ha hb hab e
    exact hab (tail2_inj (List.mem_range.mp ha) (List.mem_range.mp hb) e)
  have z := nd_sub nd all
  rw [List.length_map, List.length_range] at z
  omega
theorem inV_str {x : Str} (xs : List Str) : inV (.str x) (xs.map V.str) = decide (x ∈ xs) := by
  unfold inV
  induction xs with
  | nil => rfl
  | cons y r ih =>
    rw [List.map_cons, List.any_cons, ih]
    show ((y == x) || decide (x ∈ r)) = decide (x ∈ y :: r)
    by_cases e : x = y
    · subst e; simp
    · have e2 : ¬ y = x := fun q => e q.symm
      simp [e, e2]
theorem strs_flat (xs : List Str) : (xs.map V.str).all flatV = true := by
  rw [List.all_eq_true]
  intro x hx
  obtain ⟨n, _, rfl⟩ := List.mem_map.mp hx
  rfl
end XL
set_option Elab.async false
set_option linter.all false
set_option maxRecDepth 100000
set_option maxHeartbeats 4000000
/-! XLine: C(*row), a method within a try, zip with K said, classes of an own error. -/
namespace XL
open PySem PySem.Spec PyProof.Rows L2
section
variable {X : Cx} {CX : CXT} {k : Nat} {f C : Addr} {fd : FuncData} {ps : List Str} {ds : List Value} {dvs : List V} {sp : Sp} {x m : Str} {p pos apos sp_ : Pos} {e o : Expr} {es : List Expr} {te ta : TE} {t : TA}
def tMakeS (K : PySem.W.Frag) (C : Addr) (sp : Sp) (dvs : List V) (E : XK) (te : TE) : TE := fun σ H Q => te σ H fun y H1 => ∃ a xs, y = V.ref a ∧ (SqT K H1 a xs ∨ SqL K H1 a xs) ∧
  ∀ x dx, H1 x = none → H1 dx = none → dx ≠ x → sp (.ref x :: (xs ++ dvs)) (upd (upd H1 dx (.own x)) x (.ins C dx [])) (fun v H2 => v = .non ∧ Q (.ref x) H2) E
/-- C(*row) -/
theorem pe_makeS {E : XK} (K : PySem.W.Frag) (M : Mk X.K C f) (F : FnOk X.prog X.w X.K X.mg X.base CX k f fd ps sp) (hr : Room (k + 1) X.A) (hg : Gl X x) (hm : X.mg x = some (.ref C)) (hb : Binds X.K fd ps ds) (hd : Vals dvs ds) (hx : Passes CX X E) (he : PE X e te) (hK : X.K = K := by rfl) (hdb : (x == ("__debug__" : Str)) = false := by decide)
    (hst : starEach [.Starred e sp_] X.env = [(true, eval e X.env)] := by rfl) : PE X (.Call (.Name x p) [.Starred e sp_] [] pos) (tMakeS K C sp dvs E te) := by
  subst hK
  refine ⟨fun pins s σ H Q I h => ?_⟩
  refine wpAny_Call_Name_kw (ld_glob I hg hm ?_ hdb)
  refine PySem.W.callWith_S (h₀ := X.base) I.ok.mod.kin M.kp (thn (he.run pins s σ H _ I h) fun v s1 ⟨y, H1, I1, ry, a, xs, ey, hxs, q⟩ => ?_) hst
  subst ey
  obtain rfl : v = Value.ref a := ry
  exact StX.star_any I1 hxs fun us s2 I2 rv => ⟨I2.kIn, run_make M F hr hb hd hx I2 rv q⟩
def tMethS (C : Addr) (m : Str) (sp : Sp) (E : L2.St → XK) (ta : TE) (t : TA) : TE := fun σ H Q => ta σ H fun x H1 => ∃ a dx fs, x = .ref a ∧ H1 a = some (.ins C dx fs) ∧ fs.lookup m = none ∧
  t σ H1 fun vs H2 => sp (x :: vs) H2 Q (E σ)
/-- o.m(..) within a try -/
theorem pe_methT {E : L2.St → XK} {pl : Sem Bool} (he : PE X o ta) (c : Cls X.K C) (hm : Meth X.K C m f) (F : FnOk X.prog X.w X.K X.mg X.base CX k f fd ps sp) (hr : Room k X.A) (hb : Binds X.K fd ps []) (hx : ∀ σ, PassesAt CX X σ (E σ)) (ha : PA X (e :: es) t)
    (hst : starEach (e :: es) X.env = (false, eval e X.env) :: starEach es X.env := by rfl) (hpl : (backTo pos (starEach es X.env)).any (·.1) = false := by rfl)
    (ht : eval (.Call (.Attribute o m apos) (e :: es) [] pos) X.env = (do
      let ov ← eval o X.env
      standAt apos.atName
      let (f, first) ← holding [ov] (getMethod ov m pl)
      callWith pos f first (backTo pos (starEach (e :: es) X.env)) (backToKw pos (keywordEach [] X.env))) := by rfl) :
    PE X (.Call (.Attribute o m apos) (e :: es) [] pos) (tMethS C m sp E ta t) := by
  refine ⟨fun pins s σ H Q I h => ?_⟩
  refine PySem.W.methodCall_KW (pl := pl) (thn (he.run pins s σ H _ I h) fun u s1 ⟨x, H1, I1, rx, a, dx, fs, ex, ea, l, q⟩ => ?_) ht
  subst ex
  obtain rfl : u = Value.ref a := rx
  refine getmeth_ok I1 ea c hm l ?_
  refine PySem.W.callWith_K (first := [.ref a]) (h₀ := X.base) I.ok.mod.kin hm.kp (thn (ha.run pos pins s1 σ H1 _ I1 q) fun us s2 ⟨vs, H2, I2, r, q2⟩ => ⟨I2.kIn, ?_⟩) hst hpl
  exact run_fnS (us := .ref a :: us) (vs := .ref a :: vs) (E := E) F hr hb (hx σ) I2 (.cons rfl r) q2
theorem pe_methT0 {E : L2.St → XK} {pl : Sem Bool} (he : PE X o ta) (c : Cls X.K C) (hm : Meth X.K C m f) (F : FnOk X.prog X.w X.K X.mg X.base CX k f fd ps sp) (hr : Room k X.A) (hb : Binds X.K fd ps []) (hx : ∀ σ, PassesAt CX X σ (E σ))
    (ht : eval (.Call (.Attribute o m apos) [] [] pos) X.env = (do
      let ov ← eval o X.env
      standAt apos.atName
      let (f, first) ← holding [ov] (getMethod ov m pl)
      callWith pos f first (backTo pos (starEach [] X.env)) (backToKw pos (keywordEach [] X.env))) := by rfl) :
    PE X (.Call (.Attribute o m apos) [] [] pos) (tMethS C m sp E ta tNil) := by
  refine ⟨fun pins s σ H Q I h => ?_⟩
  refine PySem.W.methodCall_KW (pl := pl) (thn (he.run pins s σ H _ I h) fun u s1 ⟨x, H1, I1, rx, a, dx, fs, ex, ea, l, q⟩ => ?_) ht
  subst ex
  obtain rfl : u = Value.ref a := rx
  refine getmeth_ok I1 ea c hm l ?_
  exact PySem.W.callWith_K0 (first := [.ref a]) I1.kIn hm.kp (run_fnS (us := [.ref a]) (vs := [.ref a]) (E := E) F hr hb (hx σ) I1 (.cons rfl .nil) q)
theorem pi_zipK {e e2 : Expr} {ta : TA} {p pos tpos : Pos} {elts : List Expr} {kk : Nat} (K : PySem.W.Frag) (hg : Gl X "zip") (hm : X.mg "zip" = none) (ha : PA X [e, e2] ta) (hK : X.K = K := by rfl)
    (hs : starEach [e, e2] X.env = (false, eval e X.env) :: starEach [e2] X.env := by rfl) (hpl : (backTo pos (starEach [e2] X.env)).any (·.1) = false := by rfl) :
    PI X (.Tuple elts kk tpos) (.Call (.Name "zip" p) [e, e2] [] pos) (iZip K ta) := hK ▸ pi_zip hg hm ha hs hpl
end
theorem kit_ty_of {K : PySem.W.Frag} {D : Addr} {T : String} {b : Bool} (h1 : PySem.W.kitMeta T = true) (h2 : PySem.W.subIn K (.ref D) (.type T) = some b) : PySem.W.kitOne K (.ref D) (.type T) = some b := by
  show (if (Value.ref D == Value.type T) = true then some true else (if PySem.W.kitMeta T = true then PySem.W.subIn K (.ref D) (.type T) else none)) = some b
  rw [if_neg (fun h => by cases h), if_pos h1]
  exact h2
end XL
set_option Elab.async false
set_option linter.all false
set_option maxRecDepth 100000
set_option maxHeartbeats 4000000
/-! XHot: a def that raises nothing and walks nothing, called within an except suite. -/
namespace XL
open PySem PySem.Spec PyProof.Rows L2 L2H
/-- what a def promises there -/
structure FnQ (P : Program) (w : World) (K : PySem.W.Frag) (mg : Str → Option Value) (base : Heap) (k : Nat) (f : Addr) (fd : FuncData) (ps : List Str) (sp : Sp) : Prop where
  len : ∀ vs H Q E, sp vs H Q E → vs.length = ps.length
  run : ∀ (A : Around) (outer : List Env) (s : Shared) (H : Hp) (args : Args) (us : List Value) (vs : List V) (Q : VK) (E : XK) (p : Addr × Obj), RoomH k A → PinOk outer H s p → Env0 P w K mg base A outer s H → BindsTo s fd args (ps.zip us) → Vals vs us → sp vs H Q E →
    codeAny (model P w) A (.call (.ref f) args) (CR CX0 outer P w H s Q E) s
theorem okQ {P : Program} {w : World} {K : PySem.W.Frag} {mg : Str → Option Value} {base : Heap} {x qual : Str} {st : Stmt} {f : Addr} {fd : FuncData} {N ps : List Str} {k : Nat} {sp : Sp} (F : Fun K x qual st f fd) (S : FnScope N ps (defScope st)) (len : ∀ vs H Q E, sp vs H Q E → vs.length = ps.length)
    (hbody : ∀ (cdv : Value) (A : Around) (outer : List Env) (s : Shared) (H : Hp) (vs : List V) (Q : VK) (E : XK) (p : Addr × Obj), RoomH k (A.deeper (envOfC qual (defScope st) s.heap.objs.size f cdv)) → sp vs H Q E →
      ∃ t, PSs (cxH CX0 P w K mg base N qual (defScope st) f cdv A outer s H E p) (defBody st) t ∧ t { nx := fun _ H' => Q .non H', rt := Q } (L2.start N vs) H) : FnQ P w K mg base (k + 1) f fd ps sp := by
  obtain ⟨oc, od, kV, doc, pm, an, cdv, ct, osl, rfl, lk, hcd⟩ := F.ex
  refine ⟨len, fun A outer s H args us vs Q E p hr hpin e0 hb r hsp => ?_⟩
  have hl := len _ _ _ _ hsp
  have KX : K.In s.heap := e0.mod.kin.keeps fun b o e => (e0.bs b o e).1
  have lim : s.heap.NoLimit := e0.mod.nolimit.keeps fun b o e => (e0.bs b o e).1
  have hkind : ∀ y ∈ ps.zip us, (defScope st).names.lookup y.1 = some .local ∨ ((defScope st).names.lookup y.1 = some .cell ∧ ((cellsFrom (s.heap.objs.size + 1) (defScope st).names []).lookup y.1).isSome = true) := fun ⟨n, v⟩ hy => by
    rcases S.par n (List.of_mem_zip hy).1 with q | q
    · exact .inl q
    · exact .inr ⟨q, PySem.W.cellsFrom_some _ _ _ (.inl q)⟩
  refine codeAny_call_function hr.depth (KX _ _ lk) rfl S.co S.gen rfl (PySem.W.codeRec_of KX hcd) (hb _ _ _ _ ?_)
  refine wpAny_newFunctionEnv_cells S.kind hkind fun env he s1 x => ?_
  subst he
  refine ⟨lim.keeps x.toInCall.keep, codeAny_func ?_⟩
  obtain ⟨t, ht, hq⟩ := hbody cdv A outer s H vs Q E p (hr.deeper _) hsp
  have I : Inv (cxH CX0 P w K mg base N qual (defScope st) f cdv A outer s H E p) [] (L2.start N vs) H s1 := inv_startH S hpin e0 hl r x
  refine wpAny_mono (ht.run [] s1 (L2.start N vs) H _ I hq) (fun fl s' hs => ?_) fun e s' hs => hs
  have fin : ∀ {σ' : L2.St} {H' : Hp} {v : V} {u : Value}, Inv (cxH CX0 P w K mg base N qual (defScope st) f cdv A outer s H E p) [] σ' H' s' → RelV v u → Q v H' → CE outer P w H s Q u s' :=
    fun {σ' H' v u} J rv q => ⟨v, H', J.os, J.bare, J.base, J.hok, rv, q⟩
  cases fl with
  | ret u =>
    obtain ⟨v, σ', H', J, rv, q⟩ := hs
    exact fin J rv q
  | next =>
    obtain ⟨σ', H', J, q⟩ := hs
    exact fin (v := V.non) (u := Value.none) J rfl q
  | brk =>
    obtain ⟨_, _, _, q⟩ := hs
    exact False.elim q
  | cont =>
    obtain ⟨_, _, _, q⟩ := hs
    exact False.elim q
section
variable {X : Cx} {k : Nat} {f : Addr} {fd : FuncData} {ps : List Str} {sp : Sp} {E : XK} {x : Str} {q pos : Pos} {e : Expr} {es : List Expr} {t : TA}
theorem pe_callQ (F : FnQ X.prog X.w X.K X.mg X.base k f fd ps sp) (hr : RoomH k X.A) (hc : ∃ p, p ∈ X.pn) (hg : Gl X x) (hm : X.mg x = some (.ref f)) (hk : PySem.W.keepIn X.K (.ref f) = true) (hb : Binds X.K fd ps []) (hx : Passes CX0 X E)
    (ha : PA X (e :: es) t) (hdb : (x == ("__debug__" : Str)) = false := by decide) (he : starEach (e :: es) X.env = (false, eval e X.env) :: starEach es X.env := by rfl) (hpl : (backTo pos (starEach es X.env)).any (·.1) = false := by rfl) :
    PE X (.Call (.Name x q) (e :: es) [] pos) (fun σ H Q => t σ H fun vs H1 => sp vs H1 Q E) := by
  refine ⟨fun pins s σ H Q I h => ?_⟩
  refine wpAny_Call_Name_kw (ld_glob I hg hm ?_ hdb)
  refine PySem.W.callWith_K (h₀ := X.base) I.ok.mod.kin hk (thn (ha.run pos pins s σ H _ I h) fun us s1 ⟨vs, H1, I1, r, q⟩ => ⟨I1.kIn, ?_⟩) he hpl
  obtain ⟨p, hp⟩ := hc
  have hl : us.length = ps.length := by rw [← r.length]; exact F.len _ _ _ _ q
  have b := hb s1 us I1.kIn (by rw [List.append_nil]; exact hl)
  rw [List.append_nil] at b
  have P1 := I1.pin p (List.mem_append_left _ hp)
  have hpin : PinOk X.stack H1 s1 p := ⟨P1.1, P1.2.1, fun hm => (List.mem_cons.mp (I1.stkSub p.1 hm)).elim P1.2.2.1 P1.2.2.2.1, P1.2.2.2.2⟩
  refine wpAny_call (codeAny_mono (F.run X.A X.stack s1 H1 ⟨us, []⟩ us vs Q E p hr hpin I1.env0 b r q) fun r s' hq => ?_)
  cases r with
  | error e => exact hx pins σ _ _ e s' I1 hq
  | ok fl =>
    cases fl with
    | ret u => exact I1.after hq
    | next => exact False.elim hq
    | brk => exact False.elim hq
    | cont => exact False.elim hq
end
theorem roomQ {X : Cx} {k j : Nat} {a : Addr} {pn : List (Addr × Obj)} (hr : Room k X.A) (h : j ≤ k) : RoomH j (X.suite a pn).A := ⟨(hr.mono h).dp, (hr.mono h).un⟩
end XL
set_option Elab.async false
set_option linter.all false
set_option maxRecDepth 100000
set_option maxHeartbeats 4000000
namespace K44
open PySem PySem.Spec PyProof.Rows L2 XL
def topS (i : Nat) : Stmt := PySem.Challenge.pw_drawnanew_k44_line_entries.main.body.getD i (.Pass ⟨0, 0, 0, 0⟩)
abbrev s_is_number : Stmt := topS 5
theorem sc_is_number : FnScope ["thing", "low", "high"] ["thing", "low", "high"] (defScope s_is_number) := ⟨rfl, rfl, rfl, by decide +kernel, rfl, by decide +kernel, by decide +kernel⟩
abbrev s_Entry_init : Stmt := inClass (topS 7) 0
theorem sc_Entry_init : FnScope ["self", "owner", "word", "who", "ticket", "question", "answer"] ["self", "owner", "word", "who", "ticket", "question", "answer"] (defScope s_Entry_init) := ⟨rfl, rfl, rfl, by decide +kernel, rfl, by decide +kernel, by decide +kernel⟩
abbrev s_Line_init : Stmt := inClass (topS 8) 0
theorem sc_Line_init : FnScope ["self", "far", "room"] ["self", "far", "room"] (defScope s_Line_init) := ⟨rfl, rfl, rfl, by decide +kernel, rfl, by decide +kernel, by decide +kernel⟩
abbrev s_Line_edition : Stmt := inClass (topS 8) 1
theorem sc_Line_edition : FnScope ["self"] ["self"] (defScope s_Line_edition) := ⟨rfl, rfl, rfl, by decide +kernel, rfl, by decide +kernel, by decide +kernel⟩
abbrev s_Line_send : Stmt := inClass (topS 8) 2
theorem sc_Line_send : FnScope ["self", "owner", "word", "who", "question", "row"] ["self", "owner", "word", "who", "question"] (defScope s_Line_send) := ⟨rfl, rfl, rfl, by decide +kernel, rfl, by decide +kernel, by decide +kernel⟩
abbrev s_Line_take : Stmt := inClass (topS 8) 3
theorem sc_Line_take : FnScope ["self", "number", "row"] ["self", "number"] (defScope s_Line_take) := ⟨rfl, rfl, rfl, by decide +kernel, rfl, by decide +kernel, by decide +kernel⟩
abbrev s_Line_entries : Stmt := inClass (topS 8) 4
theorem sc_Line_entries : FnScope ["self", "row"] ["self"] (defScope s_Line_entries) := ⟨rfl, rfl, rfl, by decide +kernel, rfl, by decide +kernel, by decide +kernel⟩
abbrev s_Line_turn : Stmt := inClass (topS 8) 5
theorem sc_Line_turn : FnScope ["self"] ["self"] (defScope s_Line_turn) := ⟨rfl, rfl, rfl, by decide +kernel, rfl, by decide +kernel, by decide +kernel⟩
abbrev s_Line_copy : Stmt := inClass (topS 8) 6
theorem sc_Line_copy : FnScope ["self", "twin"] ["self"] (defScope s_Line_copy) := ⟨rfl, rfl, rfl, by decide +kernel, rfl, by decide +kernel, by decide +kernel⟩
abbrev s_mixed : Stmt := topS 10
theorem sc_mixed : FnScope ["_law_number_here", "_law_turn", "_law_first", "_law_second"] ["_law_number_here", "_law_turn"] (defScope s_mixed) := ⟨rfl, rfl, rfl, by decide +kernel, rfl, by decide +kernel, by decide +kernel⟩
abbrev s_bag : Stmt := topS 11
theorem sc_bag : FnScope ["_law_script", "_law_cell", "_law_numbers", "_law_seed", "_law_at"] ["_law_script"] (defScope s_bag) := ⟨rfl, rfl, rfl, by decide +kernel, rfl, by decide +kernel, by decide +kernel⟩
abbrev s_pick : Stmt := topS 12
theorem sc_pick : FnScope ["_law_bag_here", "_law_many", "_law_turn", "_law_cell", "_law_worth"] ["_law_bag_here", "_law_many"] (defScope s_pick) := ⟨rfl, rfl, rfl, by decide +kernel, rfl, by decide +kernel, by decide +kernel⟩
abbrev s_number : Stmt := topS 13
theorem sc_number : FnScope ["_law_thing"] ["_law_thing"] (defScope s_number) := ⟨rfl, rfl, rfl, by decide +kernel, rfl, by decide +kernel, by decide +kernel⟩
abbrev s_new_name : Stmt := topS 14
theorem sc_new_name : FnScope ["_law_bag_here", "_law_used", "_law_letters", "_law_told", "_law_near", "_law_at", "_law_tails", "_law_step_here", "_law_k", "_law_tail"] ["_law_bag_here", "_law_used"] (defScope s_new_name) := ⟨rfl, rfl, rfl, by decide +kernel, rfl, by decide +kernel, by decide +kernel⟩
abbrev s_step : Stmt := topS 15
theorem sc_step : FnScope ["_law_bag_here", "_law_number_here"] ["_law_bag_here"] (defScope s_step) := ⟨rfl, rfl, rfl, by decide +kernel, rfl, by decide +kernel, by decide +kernel⟩
abbrev s_owner : Stmt := topS 16
theorem sc_owner : FnScope ["_law_bag_here", "_law_owners", "_law_steps", "_law_step_here"] ["_law_bag_here", "_law_owners"] (defScope s_owner) := ⟨rfl, rfl, rfl, by decide +kernel, rfl, by decide +kernel, by decide +kernel⟩
abbrev s_store : Stmt := topS 17
theorem sc_store : FnScope ["_law_bag_here", "_law_out", "_law_edition", "_law_question"] ["_law_bag_here"] (defScope s_store) := ⟨rfl, rfl, rfl, by decide +kernel, rfl, by decide +kernel, by decide +kernel⟩
abbrev s_same_entry : Stmt := topS 18
theorem sc_same_entry : FnScope ["_law_entry", "_law_row"] ["_law_entry", "_law_row"] (defScope s_same_entry) := ⟨rfl, rfl, rfl, by decide +kernel, rfl, by decide +kernel, by decide +kernel⟩
abbrev s_same_line : Stmt := topS 19
theorem sc_same_line : FnScope ["_law_line", "_law_model", "_law_told", "_law_entry", "_law_row"] ["_law_line", "_law_model"] (defScope s_same_line) := ⟨rfl, rfl, rfl, by decide +kernel, rfl, by decide +kernel, by decide +kernel⟩
abbrev s_sent : Stmt := topS 20
theorem sc_sent : FnScope ["_law_bag_here", "_law_line", "_law_model", "_law_owners", "_law_words", "_law_owner_here", "_law_word", "_law_who", "_law_question", "_law_row"] ["_law_bag_here", "_law_line", "_law_model", "_law_owners", "_law_words"] (defScope s_sent) := ⟨rfl, rfl, rfl, by decide +kernel, rfl, by decide +kernel, by decide +kernel⟩
abbrev s_refused : Stmt := topS 21
theorem sc_refused : FnScope ["_law_line", "_law_number_here", "error"] ["_law_line", "_law_number_here"] (defScope s_refused) := ⟨rfl, rfl, rfl, by decide +kernel, rfl, by decide +kernel, by decide +kernel⟩
abbrev s_taken : Stmt := topS 22
theorem sc_taken : FnScope ["_law_bag_here", "_law_line", "_law_model", "_law_number_here", "_law_row"] ["_law_bag_here", "_law_line", "_law_model"] (defScope s_taken) := ⟨rfl, rfl, rfl, by decide +kernel, rfl, by decide +kernel, by decide +kernel⟩
abbrev s_turned : Stmt := topS 23
theorem sc_turned : FnScope ["_law_line", "_law_model", "_law_due", "_law_told"] ["_law_line", "_law_model"] (defScope s_turned) := ⟨rfl, rfl, rfl, by decide +kernel, rfl, by decide +kernel, by decide +kernel⟩
abbrev s_deed : Stmt := topS 24
theorem sc_deed : FnScope ["_law_bag_here", "_law_line", "_law_model", "_law_owners", "_law_words", "_law_way", "_law_told"] ["_law_bag_here", "_law_line", "_law_model", "_law_owners", "_law_words"] (defScope s_deed) := ⟨rfl, rfl, rfl, by decide +kernel, rfl, by decide +kernel, by decide +kernel⟩
abbrev s_new_model : Stmt := topS 25
theorem sc_new_model : FnScope ["_law_bag_here"] ["_law_bag_here"] (defScope s_new_model) := ⟨rfl, rfl, rfl, by decide +kernel, rfl, by decide +kernel, by decide +kernel⟩
abbrev s_law : Stmt := topS 26
theorem sc_law : FnScope ["_law_script", "_law_bag_here", "_law_words", "_law_owners", "_law_step_here", "_law_models", "_law_model", "_law_lines", "_law_turn", "_law_at", "_law_line", "_law_row"] ["_law_script"] (defScope s_law) := ⟨rfl, rfl, rfl, by decide +kernel, rfl, by decide +kernel, by decide +kernel⟩
abbrev s_NoAnswer_init : Stmt := inClass (topS 3) 0
/-- what the top leaves -/
structure Top (K : PySem.W.Frag) (mg : Str → Option Value) (W : World) where
  m_ValueError : mg "ValueError" = none
  m_abs : mg "abs" = none
  m_bool : mg "bool" = none
  m_enumerate : mg "enumerate" = none
  m_int : mg "int" = none
  m_isinstance : mg "isinstance" = none
  m_len : mg "len" = none
  m_list : mg "list" = none
  m_range : mg "range" = none
  m_tuple : mg "tuple" = none
  m_zip : mg "zip" = none
  a_is_number : Addr
  d_is_number : FuncData
  F_is_number : Fun K "is_number" "is_number" s_is_number a_is_number d_is_number
  b_is_number : Binds K d_is_number ["thing", "low", "high"] []
  g_is_number : mg "is_number" = some (.ref a_is_number)
  a_Entry_init : Addr
  d_Entry_init : FuncData
  F_Entry_init : Fun K "__init__" "Entry.__init__" s_Entry_init a_Entry_init d_Entry_init
  b_Entry_init : Binds K d_Entry_init ["self", "owner", "word", "who", "ticket", "question", "answer"] []
  a_Line_init : Addr
  d_Line_init : FuncData
  F_Line_init : Fun K "__init__" "Line.__init__" s_Line_init a_Line_init d_Line_init
  b_Line_init : Binds K d_Line_init ["self", "far", "room"] []
  a_Line_edition : Addr
  d_Line_edition : FuncData
  F_Line_edition : Fun K "edition" "Line.edition" s_Line_edition a_Line_edition d_Line_edition
  b_Line_edition : Binds K d_Line_edition ["self"] []
  a_Line_send : Addr
  d_Line_send : FuncData
  F_Line_send : Fun K "send" "Line.send" s_Line_send a_Line_send d_Line_send
  b_Line_send : Binds K d_Line_send ["self", "owner", "word", "who", "question"] []
  a_Line_take : Addr
  d_Line_take : FuncData
  F_Line_take : Fun K "take" "Line.take" s_Line_take a_Line_take d_Line_take
  b_Line_take : Binds K d_Line_take ["self", "number"] []
  a_Line_entries : Addr
  d_Line_entries : FuncData
  F_Line_entries : Fun K "entries" "Line.entries" s_Line_entries a_Line_entries d_Line_entries
  b_Line_entries : Binds K d_Line_entries ["self"] []
  a_Line_turn : Addr
  d_Line_turn : FuncData
  F_Line_turn : Fun K "turn" "Line.turn" s_Line_turn a_Line_turn d_Line_turn
  b_Line_turn : Binds K d_Line_turn ["self"] []
  a_Line_copy : Addr
  d_Line_copy : FuncData
  F_Line_copy : Fun K "copy" "Line.copy" s_Line_copy a_Line_copy d_Line_copy
  b_Line_copy : Binds K d_Line_copy ["self"] []
  a_mixed : Addr
  d_mixed : FuncData
  F_mixed : Fun K "_law_mixed" "_law_mixed" s_mixed a_mixed d_mixed
  b_mixed : Binds K d_mixed ["_law_number_here", "_law_turn"] []
  g_mixed : mg "_law_mixed" = some (.ref a_mixed)
  a_bag : Addr
  d_bag : FuncData
  F_bag : Fun K "_law_bag" "_law_bag" s_bag a_bag d_bag
  b_bag : Binds K d_bag ["_law_script"] []
  g_bag : mg "_law_bag" = some (.ref a_bag)
  a_pick : Addr
  d_pick : FuncData
  F_pick : Fun K "_law_pick" "_law_pick" s_pick a_pick d_pick
  b_pick : Binds K d_pick ["_law_bag_here", "_law_many"] []
  g_pick : mg "_law_pick" = some (.ref a_pick)
  a_number : Addr
  d_number : FuncData
  F_number : Fun K "_law_number" "_law_number" s_number a_number d_number
  b_number : Binds K d_number ["_law_thing"] []
  g_number : mg "_law_number" = some (.ref a_number)
  a_new_name : Addr
  d_new_name : FuncData
  F_new_name : Fun K "_law_new_name" "_law_new_name" s_new_name a_new_name d_new_name
  b_new_name : Binds K d_new_name ["_law_bag_here", "_law_used"] []
  g_new_name : mg "_law_new_name" = some (.ref a_new_name)
  a_step : Addr
  d_step : FuncData
  F_step : Fun K "_law_step" "_law_step" s_step a_step d_step
  b_step : Binds K d_step ["_law_bag_here"] []
  g_step : mg "_law_step" = some (.ref a_step)
  a_owner : Addr
  d_owner : FuncData
  F_owner : Fun K "_law_owner" "_law_owner" s_owner a_owner d_owner
  b_owner : Binds K d_owner ["_law_bag_here", "_law_owners"] []
  g_owner : mg "_law_owner" = some (.ref a_owner)
  a_store : Addr
  d_store : FuncData
  F_store : Fun K "_law_store" "_law_store" s_store a_store d_store
  b_store : Binds K d_store ["_law_bag_here"] []
  g_store : mg "_law_store" = some (.ref a_store)
  a_same_entry : Addr
  d_same_entry : FuncData
  F_same_entry : Fun K "_law_same_entry" "_law_same_entry" s_same_entry a_same_entry d_same_entry
  b_same_entry : Binds K d_same_entry ["_law_entry", "_law_row"] []
  g_same_entry : mg "_law_same_entry" = some (.ref a_same_entry)
  a_same_line : Addr
  d_same_line : FuncData
  F_same_line : Fun K "_law_same_line" "_law_same_line" s_same_line a_same_line d_same_line
  b_same_line : Binds K d_same_line ["_law_line", "_law_model"] []
  g_same_line : mg "_law_same_line" = some (.ref a_same_line)
  a_sent : Addr
  d_sent : FuncData
  F_sent : Fun K "_law_sent" "_law_sent" s_sent a_sent d_sent
  b_sent : Binds K d_sent ["_law_bag_here", "_law_line", "_law_model", "_law_owners", "_law_words"] []
  g_sent : mg "_law_sent" = some (.ref a_sent)
  a_refused : Addr
  d_refused : FuncData
  F_refused : Fun K "_law_refused" "_law_refused" s_refused a_refused d_refused
  b_refused : Binds K d_refused ["_law_line", "_law_number_here"] []
  g_refused : mg "_law_refused" = some (.ref a_refused)
  a_taken : Addr
  d_taken : FuncData
  F_taken : Fun K "_law_taken" "_law_taken" s_taken a_taken d_taken
  b_taken : Binds K d_taken ["_law_bag_here", "_law_line", "_law_model"] []
  g_taken : mg "_law_taken" = some (.ref a_taken)
  a_turned : Addr
  d_turned : FuncData
  F_turned : Fun K "_law_turned" "_law_turned" s_turned a_turned d_turned
  b_turned : Binds K d_turned ["_law_line", "_law_model"] []
  g_turned : mg "_law_turned" = some (.ref a_turned)
  a_deed : Addr
  d_deed : FuncData
  F_deed : Fun K "_law_deed" "_law_deed" s_deed a_deed d_deed
  b_deed : Binds K d_deed ["_law_bag_here", "_law_line", "_law_model", "_law_owners", "_law_words"] []
  g_deed : mg "_law_deed" = some (.ref a_deed)
  a_new_model : Addr
  d_new_model : FuncData
  F_new_model : Fun K "_law_new_model" "_law_new_model" s_new_model a_new_model d_new_model
  b_new_model : Binds K d_new_model ["_law_bag_here"] []
  g_new_model : mg "_law_new_model" = some (.ref a_new_model)
  a_law : Addr
  d_law : FuncData
  F_law : Fun K "law" "law" s_law a_law d_law
  b_law : Binds K d_law ["_law_script"] []
  g_law : mg "law" = some (.ref a_law)
  C_Entry : Addr
  g_Entry : mg "Entry" = some (.ref C_Entry)
  cl_Entry : Cls K C_Entry
  na_Entry_owner : NoAttr K C_Entry "owner"
  na_Entry_word : NoAttr K C_Entry "word"
  na_Entry_who : NoAttr K C_Entry "who"
  na_Entry_ticket : NoAttr K C_Entry "ticket"
  na_Entry_question : NoAttr K C_Entry "question"
  na_Entry_answer : NoAttr K C_Entry "answer"
  mk_Entry : Mk K C_Entry a_Entry_init
  ty_Entry : PySem.W.findIn K (.ref C_Entry) "__class__" = some (some (.builtin "object.__class__")) ∧ PySem.W.specialIn K (.builtin "object.__class__") "__get__" = some (some (.builtin "getset_descriptor.__get__")) ∧ PySem.W.takesIn K (.builtin "object.__class__") = some true ∧ PySem.W.mroIn K C_Entry (.type "object") = some true ∧ PySem.W.kitOne K (.ref C_Entry) (.ref C_Entry) = some true
  C_Line : Addr
  g_Line : mg "Line" = some (.ref C_Line)
  cl_Line : Cls K C_Line
  na_Line_far : NoAttr K C_Line "far"
  na_Line_room : NoAttr K C_Line "room"
  na_Line_waiting : NoAttr K C_Line "waiting"
  na_Line_tickets : NoAttr K C_Line "tickets"
  na_Line_present : NoAttr K C_Line "present"
  mk_Line : Mk K C_Line a_Line_init
  me_Line_send : Meth K C_Line "send" a_Line_send
  me_Line_take : Meth K C_Line "take" a_Line_take
  me_Line_entries : Meth K C_Line "entries" a_Line_entries
  me_Line_turn : Meth K C_Line "turn" a_Line_turn
  me_Line_copy : Meth K C_Line "copy" a_Line_copy
  p_Line_edition : Addr
  pr_Line_edition : PropOf K C_Line "edition" p_Line_edition a_Line_edition
  x_file : Str
  C_ScreenError : Addr
  g_ScreenError : mg "ScreenError" = some (.ref C_ScreenError)
  C_BadFence : Addr
  g_BadFence : mg "BadFence" = some (.ref C_BadFence)
  C_NoAnswer : Addr
  i_NoAnswer : Addr
  g_NoAnswer : mg "NoAnswer" = some (.ref C_NoAnswer)
  x_NoAnswer : ∀ P : Program, PySem.XExc.PF P x_file → PySem.XExc.ExTxt P K mg "NoAnswer" "number" "no open question " C_NoAnswer i_NoAnswer
  xc_NoAnswer : ExcC K C_NoAnswer
  xf_NoAnswer : XfC K C_NoAnswer
  ki_NoAnswer_BadFence : PySem.W.kitOne K (.ref C_NoAnswer) (.ref C_BadFence) = some false
  ky_NoAnswer_ScreenError : PySem.W.kitOne K (.ref C_NoAnswer) (.ref C_ScreenError) = some true
  kv_NoAnswer : PySem.W.kitOne K (.ref C_NoAnswer) (.type "ValueError") = some true
  em_NoAnswer_NoAnswer : PySem.W.exmOne K (.ref C_NoAnswer) (.ref C_NoAnswer) = some true
/-! ### the bag -/
structure Bag (G : Hp) (o : HO) : Prop where
  ex : ∃ (n : Addr) (ns : List Int) (i g t s : Int), o = .lst [.ref n, .int i, .int g, .int t, .int s] ∧ G n = some (.lst (ns.map V.int)) ∧ 0 ≤ i ∧ 0 ≤ g
theorem Bag.same {G G' : Hp} {o : HO} (e : Same G G') (b : Bag G o) : Bag G' o := by
  obtain ⟨n, ns, i, g, t, s, h1, h2, h3⟩ := b.ex
  exact ⟨n, ns, i, g, t, s, h1, e _ _ h2, h3⟩

section
variable {P : Program} {w : World} {K : PySem.W.Frag} {mg : Str → Option Value} {base : Heap}
def spMixed : Sp := fun vs H Q _ => ∃ n t : Int, vs = [.int n, .int t] ∧ ∀ r : Int, 0 ≤ r → r < 2147483587 → Q (.int r) H
theorem ok_mixed (T : Top K mg w) {k : Nat} : FnOk P w K mg base CX0 (k + 1) T.a_mixed T.d_mixed ["_law_number_here", "_law_turn"] spMixed := by
  refine T.F_mixed.ok sc_mixed (fun vs H Q E h => ?_) (fun cdv A outer s H vs Q E hr h => ?_)
  · obtain ⟨n, t, rfl, _⟩ := h
    rfl
  · obtain ⟨n, t, rfl, q⟩ := h
    refine ⟨_, (pss_cons (ps_set (i := 2) sc_mixed.nd rfl (.inl rfl) (pe_op op_modY (pe_callTy cr_int (by rfl) T.m_int (by decide +kernel) (pa_cons (pe_op op_addY (pe_op op_mulY (pe_op op_addY (xv 0) pe_int) pe_int) (pe_op op_mulY (pe_op op_addY (xv 1) pe_int) pe_int)) pa_nil)) pe_int))
      (pss_cons (ps_set (i := 3) sc_mixed.nd rfl (.inl rfl) (pe_op op_modY (pe_callTy cr_int (by rfl) T.m_int (by decide +kernel) (pa_cons (pe_op op_addY (pe_op op_addY (pe_op op_mulY (xv 2) (xv 2)) (pe_op op_mulY (xv 2) pe_int)) (pe_op op_mulY (pe_op op_addY (xv 1) pe_int) pe_int)) pa_nil)) pe_int))
      (pss_one (ps_ret (pe_op op_modY (pe_callTy cr_int (by rfl) T.m_int (by decide +kernel) (pa_cons (pe_op op_addY (pe_op op_addY (pe_op op_divY (xv 3) pe_int) (pe_op op_mulY (xv 3) pe_int)) (xv 1)) pa_nil)) pe_int))))), ?_⟩
    refine ⟨.inr ⟨by decide, by decide⟩, .inr ⟨by decide, by decide⟩, by decide, fun f _ f0 f1 => ?_⟩
    refine ⟨.inl ⟨by omega, by omega⟩, .inr ⟨by decide, by decide⟩, .inr ⟨by decide, by decide⟩, by decide, fun g _ g0 g1 => ?_⟩
    refine ⟨⟨by decide, by decide⟩, fun d _ _ => ⟨.inr ⟨by decide, by decide⟩, by decide, fun r _ r0 r1 => ?_⟩⟩
    exact q r r0 r1

def spPick : Sp := fun vs H Q _ => ∃ (G : Hp) (M : List (Addr × HO)) (b : Addr) (o : HO) (n : Int), vs = [.ref b, .int n] ∧ Sep G ((b, o) :: M) H ∧ Bag G o ∧ 0 < n ∧ n < 1073741824 ∧
  ∀ (r : Int) (o' : HO) (H' : Hp), 0 ≤ r → r < n → Bag G o' → Sep G ((b, o') :: M) H' → Q (.int r) H'
theorem ok_pick (T : Top K mg w) {k : Nat} (G_mixed : FnOk P w K mg base CX0 (k + 1) T.a_mixed T.d_mixed ["_law_number_here", "_law_turn"] spMixed) :
    FnOk P w K mg base CX0 (k + 2) T.a_pick T.d_pick ["_law_bag_here", "_law_many"] spPick := by
  refine T.F_pick.ok sc_pick (fun vs H Q E h => ?_) (fun cdv A outer s H vs Q E hr h => ?_)
  · obtain ⟨G, M, b, o, n, rfl, _⟩ := h
    rfl
  · obtain ⟨G, M, b, o, n, rfl, S, B, n0, n1, q⟩ := h
    obtain ⟨N, ns, i, g, t, z, rfl, hN, i0, g0⟩ := B.ex
    refine ⟨_, (pss_cons (ps_set (i := 2) sc_pick.nd rfl (.inl rfl) (pe_ix (ix_k K) (xv 0) pe_int (fun _ _ => rfl)))
      (pss_cons (ps_asg (pe_op op_addY (xv 2) pe_int) (pg_sub (xv 0) pe_int set_list))
      (xss_cut (xs_if (PW.pt (xw_and (xt_cmp (op_eqK K hr.units) (pe_ix (ix_k K) (xv 0) pe_int (fun _ _ => rfl)) pe_int (nomark _)) (pw_and1 (xt_cmp op_ltY (pe_ix (ix_k K) (xv 0) pe_int (fun _ _ => rfl)) (pe_callB (cr_lenK K) (by rfl) T.m_len (by decide +kernel) (pa_cons (pe_ix (ix_k K) (xv 0) pe_int (fun _ _ => rfl)) pa_nil)) (nomark _)))))
      (pss_cons (ps_set (i := 3) sc_pick.nd rfl (.inl rfl) (pe_ix (ix_k K) (pe_ix (ix_k K) (xv 0) pe_int (fun _ _ => rfl)) (pe_ix (ix_k K) (xv 0) pe_int (fun _ _ => rfl)) (fun _ _ => rfl)))
      (pss_cons (ps_asg (pe_op op_addY (pe_ix (ix_k K) (xv 0) pe_int (fun _ _ => rfl)) pe_int) (pg_sub (xv 0) pe_int set_list))
      (pss_cons (xs_if (xt_cmp op_ltY (pe_callB cr_abs (by rfl) T.m_abs (by decide +kernel) (pa_cons (xv 3) pa_nil)) (pe_op op_powY pe_int pe_int) (nomark _))
      (pss_one (ps_ret (pe_op op_modY (pe_callTy cr_int (by rfl) T.m_int (by decide +kernel) (pa_cons (pe_call G_mixed (hr.mono (by omega)) (by rfl) T.g_mixed T.F_mixed.kp T.b_mixed .nil pass0 (pa_cons (pe_op op_addY (pe_op op_mulY pe_int (pe_callB cr_abs (by rfl) T.m_abs (by decide +kernel) (pa_cons (xv 3) pa_nil))) (pe_cmpR op_ltY (xv 3) pe_int (nomark _))) (pa_cons (xv 2) pa_nil))) pa_nil)) (xv 1))))
      pss_nil)
      (pss_one (ps_asg (pe_callB cr_abs (by rfl) T.m_abs (by decide +kernel) (pa_cons (xv 3) pa_nil)) (pg_sub (xv 0) pe_int set_list))))))
      pss_nil)
      (pss_cons (xs_if (xt_cmp (op_eqK K hr.units) (pe_ix (ix_k K) (xv 0) pe_int (fun _ _ => rfl)) pe_int (nomark _))
      (pss_one (ps_ret (pe_op op_modY (pe_callTy cr_int (by rfl) T.m_int (by decide +kernel) (pa_cons (pe_call G_mixed (hr.mono (by omega)) (by rfl) T.g_mixed T.F_mixed.kp T.b_mixed .nil pass0 (pa_cons (pe_ix (ix_k K) (xv 0) pe_int (fun _ _ => rfl)) (pa_cons (xv 2) pa_nil))) pa_nil)) (xv 1))))
      pss_nil)
      (pss_cons (ps_set (i := 4) sc_pick.nd rfl (.inl rfl) (pe_op op_modY (pe_callTy cr_int (by rfl) T.m_int (by decide +kernel) (pa_cons (pe_ix (ix_k K) (xv 0) pe_int (fun _ _ => rfl)) pa_nil)) (xv 1)))
      (pss_cons (ps_asg (pe_op op_divY (pe_ix (ix_k K) (xv 0) pe_int (fun _ _ => rfl)) (xv 1)) (pg_sub (xv 0) pe_int set_list))
      (pss_one (ps_ret (xv 4))))))))), ?_⟩
    -- the turn
    refine ⟨_, _, .inl (SqL.of S.hd), rfl, b, _, _, 3, rfl, rfl, S.hd, rfl, ?_⟩
    have S1 := S.set (o' := .lst [.ref N, .int i, .int g, .int (t + 1), .int z])
    have fin : ∀ (j : Int) (g' : Int) (H2 : Hp), 0 ≤ j → 0 ≤ g' → Sep G ((b, .lst [.ref N, .int j, .int g', .int (t + 1), .int z]) :: M) H2 → (g' = 0 → ∀ r : Int, 0 ≤ r → r < n → Q (.int r) H2) ∧
        (∀ (r d : Int), 0 ≤ r → r < n → 0 ≤ d → Q (.int r) (upd H2 b (.lst [.ref N, .int j, .int d, .int (t + 1), .int z]))) := fun j g' H2 j0 h0 S2 =>
      ⟨fun _ r r0 r1 => q r _ _ r0 r1 ⟨N, ns, j, g', t + 1, z, rfl, hN, j0, h0⟩ S2, fun r d r0 r1 d0 => q r _ _ r0 r1 ⟨N, ns, j, d, t + 1, z, rfl, hN, j0, d0⟩ S2.set⟩
    -- the rest, from a bag on
    refine ⟨fun σ H2 => ∃ (y3 y4 : Option V) (j g' : Int), σ = [some (.ref b), some (.int n), some (.int t), y3, y4] ∧ 0 ≤ j ∧ 0 ≤ g' ∧ Sep G ((b, .lst [.ref N, .int j, .int g', .int (t + 1), .int z]) :: M) H2, ?_, fun σ H2 h => ?_⟩
    · have go : ∃ (y3 y4 : Option V) (j g' : Int), ([some (.ref b), some (.int n), some (.int t), none, none] : List (Option V)) = [some (.ref b), some (.int n), some (.int t), y3, y4] ∧ 0 ≤ j ∧ 0 ≤ g' ∧ Sep G ((b, .lst [.ref N, .int j, .int g', .int (t + 1), .int z]) :: M) _ := ⟨_, _, i, g, rfl, i0, g0, S1⟩
      refine ⟨_, _, .inl (SqL.of S1.hd), rfl, fun e => ⟨_, _, .inl (SqL.of S1.hd), rfl, _, _, .inl (SqL.of S1.hd), rfl, _, .inl (SqL.of (S1.st hN)), fun e => ?_, fun e => go⟩, fun e => ⟨ff, fun _ => go⟩⟩
      have hi : i < (ns.map V.int).length := of_decide_eq_true e
      obtain ⟨v, hv, hm⟩ := atI_in i0 hi
      obtain ⟨c, _, rfl⟩ := List.mem_map.mp hm
      refine ⟨_, _, .inl (SqL.of S1.hd), rfl, _, _, .inl (SqL.of S1.hd), rfl, _, _, .inl (SqL.of (S1.st hN)), hv, ?_⟩
      refine ⟨_, _, .inl (SqL.of S1.hd), rfl, b, _, _, 1, rfl, rfl, S1.hd, rfl, ?_⟩
      have S2 := S1.set (o' := .lst [.ref N, .int (i + 1), .int g, .int (t + 1), .int z])
      refine ⟨⟨by decide, by decide, by decide⟩, fun p _ => ⟨fun e => ?_, fun e => ?_⟩⟩
      · refine ⟨.inl ⟨by decide, by decide⟩, _, _, rfl, fun m _ _ => ⟨n0, fun r _ r0 r1 => ?_⟩⟩
        exact q r _ _ r0 r1 ⟨N, ns, i + 1, g, t + 1, z, rfl, hN, by omega, g0⟩ S2
      · refine ⟨b, _, _, 2, rfl, rfl, S2.hd, rfl, ?_⟩
        exact ⟨_, _, i + 1, c.natAbs, rfl, by omega, by omega, S2.set⟩
    · obtain ⟨y3, y4, j, g', rfl, j0, h0, S2⟩ := h
      obtain ⟨f1, f2⟩ := fin j g' H2 j0 h0 S2
      refine ⟨_, _, .inl (SqL.of S2.hd), rfl, fun e => ?_, fun e => ?_⟩
      · refine ⟨_, _, .inl (SqL.of S2.hd), rfl, _, _, rfl, fun m _ _ => ⟨n0, fun r _ r0 r1 => ?_⟩⟩
        exact f1 (of_decide_eq_true e) r r0 r1
      · refine ⟨_, _, .inl (SqL.of S2.hd), rfl, n0, fun r _ r0 r1 => ?_⟩
        refine ⟨_, _, .inl (SqL.of S2.hd), rfl, ⟨n0, n1⟩, fun d _ d0 => ⟨b, _, _, 2, rfl, rfl, S2.hd, rfl, ?_⟩⟩
        exact f2 r d r0 r1 (d0 h0)

def spBag (K : PySem.W.Frag) : Sp := fun vs H Q _ => ∃ (G : Hp) (M : List (Addr × HO)) (a : Addr) (ns : List Int), vs = [.ref a] ∧ Sep G M H ∧ SqL K G a (ns.map V.int) ∧ ns.length ≤ 63 ∧
  ∀ (b : Addr) (o : HO) (G' H' : Hp), Same G G' → Bag G' o → Sep G' ((b, o) :: M) H' → Q (.ref b) H'
theorem ok_bag (T : Top K mg w) {k : Nat} : FnOk P w K mg base CX0 (k + 1) T.a_bag T.d_bag ["_law_script"] (spBag K) := by
  refine T.F_bag.ok sc_bag (fun vs H Q E h => ?_) (fun cdv A outer s H vs Q E hr h => ?_)
  · obtain ⟨G, M, a, ns, rfl, _⟩ := h
    rfl
  · obtain ⟨G, M, a, ns, rfl, S, hA, hl, q⟩ := h
    refine ⟨_, (pss_cons (ps_setLc (i := 2) (own := [("_law_cell", 1)]) (by rfl) sc_bag.nd rfl rfl (sw_true rfl rfl rfl (by decide +kernel)) (pi_listK K (xv 0)) (blkOk_by (N := ["_law_script", "_law_cell", "_law_numbers", "_law_seed", "_law_at"]) (sc := defScope s_bag) (by decide +kernel)) (fun _ _ _ _ _ => (pg_name (i := 1) sc_bag.nd rfl (.inl rfl))) (fun _ _ _ _ _ => pts_nil) (fun _ _ _ _ _ => (pe_callTy cr_int (by rfl) T.m_int (by decide +kernel) (pa_cons (xv 1) pa_nil))))
      (pss_cons (ps_set (i := 3) sc_bag.nd rfl (.inl rfl) (pe_callB (cr_lenK K) (by rfl) T.m_len (by decide +kernel) (pa_cons (xv 2) pa_nil)))
      (pss_cons (ps_for PassesOwn.never rfl (pi_enum (by rfl) T.m_enumerate (pa_cons (pe_slice (sl_listK K) (xv 2) po_none (po_some pe_int)) pa_nil)) (pg_tupK K 2 (pgs_cons (pg_name (i := 4) sc_bag.nd rfl (.inl rfl)) (pgs_cons (pg_name (i := 1) sc_bag.nd rfl (.inl rfl)) pgs_nil)))
      (pss_one (ps_set (i := 3) sc_bag.nd rfl (.inl rfl) (pe_op op_modY (pe_callTy cr_int (by rfl) T.m_int (by decide +kernel) (pa_cons (pe_op op_addY (pe_op op_addY (pe_op op_mulY (xv 3) pe_int) (pe_op op_modY (pe_callTy cr_int (by rfl) T.m_int (by decide +kernel) (pa_cons (pe_callB cr_abs (by rfl) T.m_abs (by decide +kernel) (pa_cons (xv 1) pa_nil)) pa_nil)) pe_int)) (pe_op op_mulY (pe_op op_addY (xv 4) pe_int) (pe_cmpR op_ltY (xv 1) pe_int (nomark _)))) pa_nil)) pe_int))))
      (pss_one (ps_ret (pe_lst (pa_cons (xv 2) (pa_cons pe_int (pa_cons pe_int (pa_cons pe_int (pa_cons (xv 3) pa_nil))))))))))), ?_⟩
    refine ⟨a, rfl, ⟨_, S.l hA⟩, fun L nL => lc_pre (xs := ns.map V.int) (fun pre H' => Sep G ((L, .lst pre) :: M) H') (S.new nL) (fun pre H' p => p.l hA) (fun _ => rfl) (fun pre x post H' e p => ?_) (fun H' S1 => ?_)⟩
    · obtain ⟨c, _, rfl⟩ := List.mem_map.mp (show x ∈ ns.map V.int by rw [e]; simp)
      have hz : pre.length ≤ 63 := by
        have z := congrArg List.length e
        rw [List.length_map, List.length_append] at z
        omega
      exact ⟨_, p.hd, smallL (by omega), p.set⟩
    · -- the seed
      have S2 := S1.frz
      have hN : upd G L (.lst (ns.map V.int)) L = some (.lst (ns.map V.int)) := upd_same
      refine ⟨_, .inl (SqL.of (S2.st hN)), ?_⟩
      refine ⟨63, rfl, L, _, rfl, SqL.of (S2.st hN), fun c nc => ?_⟩
      have S3 := S2.newG (o := .lst (cutV (ns.map V.int) none (some 63))) nc
      have s3 := S2.grow (o := .lst (cutV (ns.map V.int) none (some 63))) nc
      refine ⟨c, _, rfl, SqL.of (S3.st upd_same), for_enum (xs := cutV (ns.map V.int) none (some 63)) (fun pre σ H' => ∃ (y1 y4 : Option V) (z : Int) (G' : Hp), σ = [some (.ref a), y1, some (.ref L), some (.int z), y4] ∧
        Same (upd (upd G L (.lst (ns.map V.int))) c (.lst (cutV (ns.map V.int) none (some 63)))) G' ∧ Sep G' M H') ⟨_, _, _, _, rfl, Same.refl _, S3⟩ (fun pre σ H' h => ?_) (fun pre x post σ H' W e h nW => ?_) (fun σ H' h => ?_)⟩
      · obtain ⟨_, _, _, G', _, s4, S4⟩ := h
        exact SqL.of (S4.st (s4 _ _ upd_same))
      · obtain ⟨y1, y4, z, G', rfl, s4, S4⟩ := h
        have hx : x ∈ ns.map V.int := by
          have hm : x ∈ cutV (ns.map V.int) none (some 63) := by rw [e]; simp
          exact List.mem_of_mem_drop (List.mem_of_mem_take hm)
        obtain ⟨v, _, rfl⟩ := List.mem_map.mp hx
        have S5 := S4.newG (o := .tup [.int (pre.length : Nat), .int v]) nW
        refine ⟨.inr ⟨by decide, by decide⟩, by decide, fun r _ r0 r1 => ⟨by decide, fun u _ u0 u1 => ?_⟩⟩
        exact ⟨_, _, _, _, rfl, s4.trans (S4.grow nW), S5⟩
      · obtain ⟨y1, y4, z, G', rfl, s4, S4⟩ := h
        refine ⟨sz, fun b nb => ?_⟩
        exact q b _ G' _ ((S1.frzS).trans (s3.trans s4)) ⟨L, ns, 0, 0, 0, z, rfl, s4 _ _ (s3 _ _ hN), by decide, by decide⟩ (S4.new nb)

def spNumber : Sp := fun vs H Q _ => ∃ i : Int, vs = [.int i] ∧ Q (.bl true) H
theorem ok_number (T : Top K mg w) {k : Nat} : FnOk P w K mg base CX0 (k + 1) T.a_number T.d_number ["_law_thing"] spNumber := by
  refine T.F_number.ok sc_number (fun vs H Q E h => ?_) (fun cdv A outer s H vs Q E hr h => ?_)
  · obtain ⟨i, rfl, _⟩ := h
    rfl
  · obtain ⟨i, rfl, q⟩ := h
    refine ⟨_, (pss_one (ps_ret (xe_and (pe_callB (call_isK K) (by rfl) T.m_isinstance (by decide +kernel) (pa_cons (xv 0) (pa_cons (pe_bltn (v := .ty "int") (by rfl) T.m_int (by decide +kernel) rfl) pa_nil))) (pe_one (xe_not (pe_callB (call_isK K) (by rfl) T.m_isinstance (by decide +kernel) (pa_cons (xv 0) (pa_cons (pe_bltn (v := .ty "bool") (by rfl) T.m_bool (by decide +kernel) rfl) pa_nil)))))))), ?_⟩
    refine ⟨_, _, _, _, true, rfl, .ty _, .base (.int _), kit_ty (by decide +kernel), fun _ => ⟨_, _, _, _, false, rfl, .ty _, .base (.int _), kit_ty (by decide +kernel), ?_⟩, fun e => nomatch e⟩
    exact q

theorem okQ_number (T : Top K mg w) {k : Nat} : FnQ P w K mg base (k + 1) T.a_number T.d_number ["_law_thing"] spNumber := by
  refine okQ T.F_number sc_number (fun vs H Q E h => ?_) (fun cdv A outer s H vs Q E p hr h => ?_)
  · obtain ⟨i, rfl, _⟩ := h
    rfl
  · obtain ⟨i, rfl, q⟩ := h
    refine ⟨_, (pss_one (ps_ret (xe_and (pe_callB (call_isK K) (by rfl) T.m_isinstance (by decide +kernel) (pa_cons (xv 0) (pa_cons (pe_bltn (v := .ty "int") (by rfl) T.m_int (by decide +kernel) rfl) pa_nil))) (pe_one (xe_not (pe_callB (call_isK K) (by rfl) T.m_isinstance (by decide +kernel) (pa_cons (xv 0) (pa_cons (pe_bltn (v := .ty "bool") (by rfl) T.m_bool (by decide +kernel) rfl) pa_nil)))))))), ?_⟩
    refine ⟨_, _, _, _, true, rfl, .ty _, .base (.int _), kit_ty (by decide +kernel), fun _ => ⟨_, _, _, _, false, rfl, .ty _, .base (.int _), kit_ty (by decide +kernel), ?_⟩, fun e => nomatch e⟩
    exact q

end
end K44
set_option Elab.async false
set_option linter.all false
set_option maxRecDepth 100000
set_option maxHeartbeats 4000000
namespace K44
open PySem PySem.Spec PyProof.Rows L2 XL
section
variable {P : Program} {w : World} {K : PySem.W.Frag} {mg : Str → Option Value} {base : Heap}
/-! ### a new name -/
def spNew : Sp := fun vs H Q _ => ∃ (G : Hp) (M : List (Addr × HO)) (b : Addr) (o : HO) (l : Addr) (zs : List Str), vs = [.ref b, .ref l] ∧ Sep G ((b, o) :: (l, .lst (zs.map V.str)) :: M) H ∧ Bag G o ∧ (∀ z ∈ zs, Lt 1 8 z) ∧ zs.length ≤ 100 ∧
  ∀ (z : Str) (o' : HO) (H' : Hp), Lt 1 8 z → z ∉ zs → z ≠ "item" → z ≠ "at" → Bag G o' → Sep G ((b, o') :: (l, .lst ((zs ++ [z]).map V.str)) :: M) H' → Q (.str z) H'
theorem letter_ix {r : Int} (h0 : 0 ≤ r) (h1 : r < 26) : ∃ c, atI LS.cps.toList r = some c ∧ c ∈ LS.cps.toList := by
  obtain ⟨k, rfl⟩ := Int.eq_ofNat_of_zero_le h0
  have z := letter_at (show k < 26 by omega)
  exact ⟨_, atI_nat z, List.mem_of_getElem? z⟩
theorem LS_len : LS.length ≤ sizeLine := by decide +kernel
theorem lt_small {a b : Nat} {z : Str} (h : Lt a b z) (hb : b ≤ 100) : z.length ≤ sizeLine := Nat.le_trans h.hi (Nat.le_trans hb (by decide))
def freshOf (p : Str) (zs : List Str) (ts : List Str) : List Str := (ts.filter fun t => !decide (p ++ t ∈ zs)).map fun t => p ++ t
theorem fresh_snoc (p : Str) (us ts : List Str) (t2 : Str) : freshOf p us (ts ++ [t2]) = freshOf p us ts ++ (if !decide (p ++ t2 ∈ us) then [p ++ t2] else []) := by
  unfold freshOf
  rw [List.filter_append, List.map_append]
  congr 1
  by_cases h : p ++ t2 ∈ us <;> simp [h]
theorem ok_new_name (T : Top K mg w) {k : Nat} (G_pick : FnOk P w K mg base CX0 k T.a_pick T.d_pick ["_law_bag_here", "_law_many"] spPick) : FnOk P w K mg base CX0 (k + 1) T.a_new_name T.d_new_name ["_law_bag_here", "_law_used"] spNew := by
  refine T.F_new_name.ok sc_new_name (fun vs H Q E h => ?_) (fun cdv A outer s H vs Q E hr h => ?_)
  · obtain ⟨G, M, b, o, l, zs, rfl, _⟩ := h
    rfl
  · obtain ⟨G, M, b, o, l, zs, rfl, S, B, hz, zl, q⟩ := h
    refine ⟨_, (pss_cons (ps_set (i := 2) sc_new_name.nd rfl (.inr rfl) pe_str)
      (pss_cons (ps_set (i := 3) sc_new_name.nd rfl (.inr rfl) (pe_join pe_str (pe_lc (own := [("_law_step_here", 7)]) (by rfl) sc_new_name.nd (pi_range1 (by rfl) T.m_range (pa_cons (pe_op op_addY pe_int (pe_call G_pick (hr.mono (by omega)) (by rfl) T.g_pick T.F_pick.kp T.b_pick .nil pass0 (pa_cons (xv 0) (pa_cons pe_int pa_nil)))) pa_nil)) (blkOk_by (N := ["_law_bag_here", "_law_used", "_law_letters", "_law_told", "_law_near", "_law_at", "_law_tails", "_law_step_here", "_law_k", "_law_tail"]) (sc := defScope s_new_name) (by decide +kernel)) (fun _ _ _ _ _ => (pg_name (i := 7) sc_new_name.nd rfl (.inl rfl))) (fun _ _ _ _ _ => pts_nil) (fun _ _ _ _ _ => (pe_ix (ix_k K) (xv 2) (pe_call G_pick (hr.mono (by omega)) (by rfl) T.g_pick T.F_pick.kp T.b_pick .nil pass0 (pa_cons (xv 0) (pa_cons pe_int pa_nil))) (fun _ _ => rfl))))))
      (xss_cut (xs_if (PW.pt (xw_and (xt_truK K (xv 1)) (pw_and1 (xt_cmp (op_eqK K hr.units) (pe_call G_pick (hr.mono (by omega)) (by rfl) T.g_pick T.F_pick.kp T.b_pick .nil pass0 (pa_cons (xv 0) (pa_cons pe_int pa_nil))) pe_int (nomark _)))))
      (pss_cons (ps_set (i := 4) sc_new_name.nd rfl (.inl rfl) (pe_slice sl_str (pe_ix (ix_k K) (xv 1) (pe_call G_pick (hr.mono (by omega)) (by rfl) T.g_pick T.F_pick.kp T.b_pick .nil pass0 (pa_cons (xv 0) (pa_cons (pe_callB (cr_lenK K) (by rfl) T.m_len (by decide +kernel) (pa_cons (xv 1) pa_nil)) pa_nil))) (fun _ _ => rfl)) po_none (po_some pe_int)))
      (pss_cons (ps_set (i := 5) sc_new_name.nd rfl (.inl rfl) (pe_call G_pick (hr.mono (by omega)) (by rfl) T.g_pick T.F_pick.kp T.b_pick .nil pass0 (pa_cons (xv 0) (pa_cons (pe_callB (cr_lenK K) (by rfl) T.m_len (by decide +kernel) (pa_cons (xv 4) pa_nil)) pa_nil))))
      (pss_one (ps_set (i := 3) sc_new_name.nd rfl (.inr rfl) (pe_op op_addY (pe_op op_addY (pe_slice sl_str (xv 4) po_none (po_some (xv 5))) (pe_ix (ix_k K) (xv 2) (pe_call G_pick (hr.mono (by omega)) (by rfl) T.g_pick T.F_pick.kp T.b_pick .nil pass0 (pa_cons (xv 0) (pa_cons pe_int pa_nil))) (fun _ _ => rfl))) (pe_slice sl_str (xv 4) (po_some (pe_op op_addY (xv 5) pe_int)) po_none))))))
      pss_nil)
      (xss_cut (xs_if (xt_cmp (in_seqK K) (xv 3) (pe_op op_addY (xv 1) (pe_lst (pa_cons pe_str (pa_cons pe_str pa_nil)))) (by rfl))
      (pss_cons (ps_setLc (i := 6) (own := [("_law_k", 8)]) (by rfl) sc_new_name.nd rfl rfl (sw_true rfl rfl rfl (by decide +kernel)) (pi_range1 (by rfl) T.m_range (pa_cons pe_int pa_nil)) (blkOk_by (N := ["_law_bag_here", "_law_used", "_law_letters", "_law_told", "_law_near", "_law_at", "_law_tails", "_law_step_here", "_law_k", "_law_tail"]) (sc := defScope s_new_name) (by decide +kernel)) (fun _ _ _ _ _ => (pg_name (i := 8) sc_new_name.nd rfl (.inl rfl))) (fun _ _ _ _ _ => pts_nil) (fun _ _ _ _ _ => (pe_op op_addY (pe_ix (ix_k K) (xv 2) (pe_op op_divY (xv 8) pe_int) (fun _ _ => rfl)) (pe_ix (ix_k K) (xv 2) (pe_op op_modY (pe_callTy cr_int (by rfl) T.m_int (by decide +kernel) (pa_cons (xv 8) pa_nil)) pe_int) (fun _ _ => rfl)))))
      (pss_one (ps_set (i := 3) sc_new_name.nd rfl (.inr rfl) (pe_ix (ix_k K) (pe_lc (own := [("_law_tail", 9)]) (by rfl) sc_new_name.nd (pi_listK K (xv 6)) (blkOk_by (N := ["_law_bag_here", "_law_used", "_law_letters", "_law_told", "_law_near", "_law_at", "_law_tails", "_law_step_here", "_law_k", "_law_tail"]) (sc := defScope s_new_name) (by decide +kernel)) (fun _ _ _ _ _ => (pg_name (i := 9) sc_new_name.nd rfl (.inl rfl))) (fun _ _ _ _ _ => (pts_one (xt_cmp (notin_seqK K) (pe_op op_addY (pe_slice sl_str (xv 3) po_none (po_some pe_int)) (xv 9)) (pe_op op_addY (xv 1) (pe_lst (pa_cons pe_str pa_nil))) (by rfl)))) (fun _ _ _ _ _ => (pe_op op_addY (pe_slice sl_str (xv 3) po_none (po_some pe_int)) (xv 9)))) pe_int (fun _ _ => rfl)))))
      pss_nil)
      (pss_cons (ps_expr (pe_bmK K PySem.F.plainAttrs_list PySem.F.slot_list_append PySem.F.type_list_append mt_append (xv 1) (pa_cons (xv 3) pa_nil)))
      (pss_one (ps_ret (xv 3)))))))), ?_⟩
    -- letters in a row
    refine ⟨⟨_, rfl⟩, G, _, b, o, 6, rfl, S, B, by decide, by decide, fun r1 o1 H1 r10 r11 B1 S1 => ⟨_, rfl, by omega, by omega, fun D nD => lc_range (lo := 0) (n := (1 + r1).toNat) (fun i H' => ∃ (o' : HO) (ys : List Str), Bag G o' ∧ Sep G ((D, .lst (ys.map V.str)) :: (b, o') :: (l, .lst (zs.map V.str)) :: M) H' ∧ ys.length = i ∧ ∀ y ∈ ys, Lt 1 1 y)
      ⟨o1, [], B1, S1.new nD, rfl, fun y hy => absurd hy (by simp)⟩ (fun i H' hi p => ?_) (fun H' p => ?_)⟩⟩
    · obtain ⟨o', ys, B', S', yl, hy⟩ := p
      refine ⟨rfl, G, _, b, o', 26, rfl, S'.sw, B', by decide, by decide, fun r2 o2 H2 r20 r21 B2 S2 => ?_⟩
      obtain ⟨c, hc, hm⟩ := letter_ix r20 r21
      refine ⟨c, LS_len, hc, ys.map V.str, S2.sw.hd, by rw [List.length_map]; exact smallL (by omega), o2, ys ++ [⟨#[c]⟩], B2, ?_, by rw [List.length_append, yl]; rfl, fun y hy' => ?_⟩
      · rw [List.map_append]
        exact S2.sw.set
      · rcases List.mem_append.mp hy' with z | z
        · exact hy y z
        · rw [List.mem_singleton.mp z]
          exact Lt.one hm
    obtain ⟨o2, ys, B2, S2, yl, hy⟩ := p
    refine ⟨_, D, ys, rfl, rfl, .inl (SqL.of S2.hd), ?_, ?_⟩
    · rw [sum_ones hy, show Str.length ("" : Str) = 0 from rfl, Nat.mul_zero]
      omega
    have S3 := S2.drop
    have lt1 : Lt 1 6 (Txt.join "" ys) := (Lt.join hy).wide (by omega) (by omega)
    generalize Txt.join "" ys = t1 at *
    -- near another one
    refine ⟨fun σ H' => ∃ (y4 y5 : Option V) (o' : HO) (t : Str), σ = [some (.ref b), some (.ref l), some (.str LS), some (.str t), y4, y5, none, none, none, none] ∧ Lt 1 6 t ∧ Bag G o' ∧ Sep G ((b, o') :: (l, .lst (zs.map V.str)) :: M) H', ?_, fun σ H4 h => ?_⟩
    · have stay : ∀ (o' : HO) (H' : Hp), Bag G o' → Sep G ((b, o') :: (l, .lst (zs.map V.str)) :: M) H' → ∃ (y4 y5 : Option V) (o' : HO) (t : Str), ([some (.ref b), some (.ref l), some (.str LS), some (.str t1), none, none, none, none, none, none] : List (Option V)) = [some (.ref b), some (.ref l), some (.str LS), some (.str t), y4, y5, none, none, none, none] ∧ Lt 1 6 t ∧ Bag G o' ∧ Sep G ((b, o') :: (l, .lst (zs.map V.str)) :: M) H' :=
        fun o' H' B' S' => ⟨_, _, o', t1, rfl, lt1, B', S'⟩
      refine ⟨_, .inl ⟨_, SqL.of S3.sw.hd, rfl⟩, fun ne => ⟨G, _, b, o2, 3, rfl, S3, B2, by decide, by decide, fun r4 o4 H4 _ _ B4 S4 => ⟨fun _ => ?_, fun _ => stay o4 H4 B4 S4⟩⟩, fun _ => ⟨ff, fun _ => stay o2 _ B2 S3⟩⟩
      have z0 : 0 < zs.length := by
        cases zs with
        | nil => cases ne
        | cons _ _ => simp
      refine ⟨_, .inl (SqL.of S4.sw.hd), G, _, b, o4, _, rfl, S4, B4, by rw [List.length_map]; omega, by rw [List.length_map]; omega, fun r5 o5 H5 r50 r51 B5 S5 => ?_⟩
      obtain ⟨v5, hv5, hm5⟩ := atI_in r50 r51
      obtain ⟨z5, hz5, rfl⟩ := List.mem_map.mp hm5
      have l5 := hz z5 hz5
      refine ⟨_, _, .inl (SqL.of S5.sw.hd), hv5, _, rfl, z5, rfl, lt_small l5 (by decide), ?_⟩
      have ln : Lt 1 6 (cutS z5 none (some (6 : Int))) := (l5.to 6).wide (by decide) (by decide)
      generalize cutS z5 none (some (6 : Int)) = nr at *
      have nlo := ln.lo
      have nhi := ln.hi
      refine ⟨lt_small ln (by decide), G, _, b, o5, _, rfl, S5, B5, by omega, by omega, fun r6 o6 H6 r60 r61 B6 S6 => ?_⟩
      obtain ⟨k6, rfl⟩ := Int.eq_ofNat_of_zero_le r60
      refine ⟨_, rfl, nr, rfl, lt_small ln (by decide), G, _, b, o6, 26, rfl, S6, B6, by decide, by decide, fun r7 o7 H7 r70 r71 B7 S7 => ?_⟩
      obtain ⟨c, hc, hm⟩ := letter_ix r70 r71
      have a1 : (cutS nr none (some (k6 : Int))).length = k6 := by rw [cut_to_len]; omega
      have a2 : (cutS nr (some ((k6 + 1 : Nat) : Int)) none).length = nr.length - (k6 + 1) := cut_from_len nr (k6 + 1) (by omega)
      refine ⟨c, LS_len, hc, ?_, fun t2 et2 => ⟨_, rfl, nr, rfl, lt_small ln (by decide), ?_, fun t3 et3 => ⟨_, _, o7, t3, rfl, ?_, B7, S7⟩⟩⟩
      · rw [a1]
        exact small (by show k6 + 1 ≤ 100000; omega)
      · rw [et2, app_len, a1]
        show k6 + 1 + (cutS nr (some ((k6 + 1 : Nat) : Int)) none).length ≤ sizeLine
        rw [a2]
        exact small (by omega)
      · rw [et3, et2]
        have p1 : Lt k6 k6 (cutS nr none (some (k6 : Int))) := ⟨by omega, by omega, fun d hd => ln.ch d (cut_mem hd)⟩
        have p2 : Lt (nr.length - (k6 + 1)) (nr.length - (k6 + 1)) (cutS nr (some ((k6 + 1 : Nat) : Int)) none) := ⟨by omega, by omega, fun d hd => ln.ch d (cut_mem hd)⟩
        exact ((p1.app (Lt.one hm)).app p2).wide (by omega) (by omega)
    obtain ⟨y4, y5, o4, t, rfl, lt, B4, S4⟩ := h
    -- one that is used
    refine ⟨fun σ H' => ∃ (y6 : Option V) (z : Str), σ = [some (.ref b), some (.ref l), some (.str LS), some (.str z), y4, y5, y6, none, none, none] ∧ Lt 1 8 z ∧ z ∉ zs ∧ z ≠ "item" ∧ z ≠ "at" ∧ Sep G ((b, o4) :: (l, .lst (zs.map V.str)) :: M) H', ?_, fun σ H5 h => ?_⟩
    · refine ⟨sz, fun A1 nA1 => ?_⟩
      have S5 := S4.new (o := .lst [.str "item", .str "at"]) nA1
      refine ⟨l, A1, zs.map V.str, [.str "item", .str "at"], rfl, rfl, S5.at (show (l, HO.lst (zs.map V.str)) ∈ _ by simp), S5.hd, small (by rw [List.length_map]; simp; omega), fun A2 nA2 => ?_⟩
      have e6 : zs.map V.str ++ [V.str "item", .str "at"] = (zs ++ (["item", "at"] : List Str)).map V.str := by rw [List.map_append]; rfl
      rw [e6]
      have S6 := S5.new (o := .lst ((zs ++ (["item", "at"] : List Str)).map V.str)) nA2
      have S7 := S6.drop.drop
      refine ⟨A2, _, rfl, .inl (SqL.of S6.hd), rfl, strs_flat _, fun e1 => ?_, fun e1 => ?_⟩
      · -- its tails
        refine ⟨676, rfl, by decide, by decide, fun D nD => lc_range (lo := 0) (n := (676 : Int).toNat) (fun i H' => Sep G ((D, .lst (((List.range i).map tail2).map V.str)) :: (b, o4) :: (l, .lst (zs.map V.str)) :: M) H') (S7.new nD) (fun i H' hi p => ?_) (fun H8 S8 => ?_)⟩
        · have hi : i < 676 := hi
          rw [Int.zero_add]
          refine ⟨rfl, ⟨by decide, by decide⟩, fun d ed _ => ⟨letter (i / 26), LS_len, ?_, by decide, fun r er r0 r1 => ⟨letter (i % 26), LS_len, ?_, small (by show 1 + 1 ≤ 100000; decide), fun t2 et2 => ⟨_, p.hd, ?_, ?_⟩⟩⟩⟩
          · have z : d = ((i / 26 : Nat) : Int) := by omega
            rw [z]
            exact atI_nat (letter_at (by omega))
          · have z : r = ((i % 26 : Nat) : Int) := by omega
            rw [z]
            exact atI_nat (letter_at (by omega))
          · rw [List.length_map, List.length_map, List.length_range]
            exact smallL (by omega)
          · rw [List.range_succ, List.map_append, List.map_append, et2]
            exact p.set
        have S8 : Sep G ((D, .lst (((List.range 676).map tail2).map V.str)) :: (b, o4) :: (l, .lst (zs.map V.str)) :: M) H8 := S8
        have ltp : Lt 1 6 (cutS t none (some (6 : Int))) := (lt.to 6).wide (by decide) (by decide)
        generalize ep : cutS t none (some (6 : Int)) = p at *
        have tl : ∀ t2 ∈ (List.range 676).map tail2, Lt 2 2 t2 := fun t2 h => by
          obtain ⟨k2, hk2, rfl⟩ := List.mem_map.mp h
          exact tail2_lt (List.mem_range.mp hk2)
        obtain ⟨ts, ets⟩ : ∃ ts, ts = (List.range 676).map tail2 := ⟨_, rfl⟩
        rw [← ets] at tl S8
        have tsl : ts.length = 676 := by rw [ets]; simp
        refine ⟨D, rfl, ⟨_, SqL.of S8.hd⟩, fun F nF => lc_list (xs := ts.map V.str) (fun i H' => Sep G ((F, .lst ((freshOf p (zs ++ (["item"] : List Str)) (ts.take i)).map V.str)) :: (D, .lst (ts.map V.str)) :: (b, o4) :: (l, .lst (zs.map V.str)) :: M) H')
          (S8.new nF) (fun i H' _ p' => SqL.of p'.sw.hd) (fun i x H' hx p' => ?_) (fun H9 S9 => ?_)⟩
        · rw [List.getElem?_map] at hx
          obtain ⟨t2, ht2, rfl⟩ := Option.map_eq_some_iff.mp hx
          have lt2 := tl t2 (List.mem_of_getElem? ht2)
          have il := (List.getElem?_eq_some_iff.mp ht2).1
          have ltb := ltp.app lt2
          have hb := ltb.hi
          rw [app_len] at hb
          have flen : (freshOf p (zs ++ (["item"] : List Str)) (ts.take i)).length ≤ 676 := by
            unfold freshOf
            rw [List.length_map]
            refine Nat.le_trans (List.length_filter_le _ _) ?_
            rw [List.length_take]
            omega
          have fstep : freshOf p (zs ++ (["item"] : List Str)) (ts.take (i + 1)) = freshOf p (zs ++ (["item"] : List Str)) (ts.take i) ++ (if !decide (p ++ t2 ∈ zs ++ (["item"] : List Str)) then [p ++ t2] else []) := by
            rw [XL.take_snoc ht2]
            exact fresh_snoc _ _ _ _
          rw [fstep]
          refine ⟨rfl, _, rfl, t, rfl, lt_small lt (by decide), ?_⟩
          rw [ep]
          refine ⟨small (by omega), fun u1 eu1 => ⟨sz, fun A3 nA3 => ?_⟩⟩
          have Sa := p'.new (o := .lst [.str "item"]) nA3
          refine ⟨l, A3, zs.map V.str, [.str "item"], rfl, rfl, Sa.at (show (l, HO.lst (zs.map V.str)) ∈ _ by simp), Sa.hd, small (by rw [List.length_map]; simp; omega), fun A4 nA4 => ?_⟩
          have e7 : zs.map V.str ++ [V.str "item"] = (zs ++ (["item"] : List Str)).map V.str := by rw [List.map_append]; rfl
          rw [e7]
          have Sb := Sa.new (o := .lst ((zs ++ (["item"] : List Str)).map V.str)) nA4
          refine ⟨A4, _, rfl, .inl (SqL.of Sb.hd), rfl, strs_flat _, ?_⟩
          have e8 : (if true = true then !inV (V.str u1) ((zs ++ (["item"] : List Str)).map V.str) else inV (V.str u1) ((zs ++ (["item"] : List Str)).map V.str)) = !decide (p ++ t2 ∈ zs ++ (["item"] : List Str)) := by rw [if_pos rfl, inV_str, eu1]
          rw [e8]
          have Sc := Sb.drop.drop
          refine tst (fun e9 => ?_) (fun e9 => ?_)
          · rw [if_pos e9]
            refine ⟨_, rfl, t, rfl, lt_small lt (by decide), ?_⟩
            rw [ep]
            refine ⟨small (by omega), fun u2 eu2 => ⟨_, Sc.hd, by rw [List.length_map]; exact smallL (by omega), ?_⟩⟩
            rw [List.map_append, eu2]
            exact Sc.set
          · rw [if_neg (by rw [e9]; exact Bool.false_ne_true), List.append_nil]
            exact Sc
        rw [List.length_map, List.take_length] at S9
        obtain ⟨k0, hk0, no⟩ := unused p (zs ++ (["item"] : List Str)) (by rw [List.length_append]; simp; omega)
        have mem : p ++ tail2 k0 ∈ freshOf p (zs ++ (["item"] : List Str)) ts := by
          unfold freshOf
          refine List.mem_map.mpr ⟨tail2 k0, List.mem_filter.mpr ⟨?_, by simpa using no⟩, rfl⟩
          rw [ets]
          exact List.mem_map.mpr ⟨k0, List.mem_range.mpr hk0, rfl⟩
        cases ef : freshOf p (zs ++ (["item"] : List Str)) ts with
        | nil => rw [ef] at mem; cases mem
        | cons z0 zr =>
          rw [ef] at S9
          have hz0 : z0 ∈ freshOf p (zs ++ (["item"] : List Str)) ts := by rw [ef]; exact List.mem_cons_self
          unfold freshOf at hz0
          obtain ⟨t2, ht2, rfl⟩ := List.mem_map.mp hz0
          obtain ⟨h1, h2⟩ := List.mem_filter.mp ht2
          have no2 : p ++ t2 ∉ zs ++ (["item"] : List Str) := by simpa using h2
          have l2 := ltp.app (tl t2 h1)
          refine ⟨_, .str (p ++ t2), .inl (SqL.of S9.hd), (show atI _ ((0 : Nat) : Int) = some _ from atI_nat rfl), _, p ++ t2, rfl, l2.wide (by decide) (by decide), fun h => no2 (List.mem_append_left _ h), fun h => no2 (List.mem_append_right _ (by rw [h]; simp)), fun h => ?_, S9.drop.drop⟩
          have l3 := l2.lo
          rw [h] at l3
          exact absurd l3 (by decide +kernel)
      · have e2 : inV (.str t) ((zs ++ (["item", "at"] : List Str)).map V.str) = false := e1
        rw [inV_str] at e2
        have no := of_decide_eq_false e2
        exact ⟨_, t, rfl, lt.wide (by decide) (by decide), fun h => no (List.mem_append_left _ h), fun h => no (List.mem_append_right _ (by rw [h]; simp)), fun h => no (List.mem_append_right _ (by rw [h]; simp)), S7⟩
    obtain ⟨y6, z, rfl, ltz, f1, f2, f3, S5⟩ := h
    refine ⟨.inl ⟨rfl, _, SqL.of S5.sw.hd⟩, l, _, _, rfl, rfl, S5.sw.hd, smallL (by rw [List.length_map]; omega), ?_⟩
    refine q z o4 _ ltz f1 f2 f3 B4 ?_
    rw [List.map_append]
    exact (S5.sw.set).sw

end
end K44
set_option Elab.async false
set_option linter.all false
set_option maxRecDepth 100000
set_option maxHeartbeats 4000000
namespace K44
open PySem PySem.Spec PyProof.Rows L2 XL
section
variable {P : Program} {w : World} {K : PySem.W.Frag} {mg : Str → Option Value} {base : Heap}
/-! ### fields -/
theorem putF_ne {f g : Str} {v x : V} {r : List (Str × V)} (h : decide (g = f) = false := by decide +kernel) : putF f v ((g, x) :: r) = (g, x) :: putF f v r := by
  show (if g = f then _ else _) = _
  rw [if_neg (of_decide_eq_false h)]
theorem putF_eq {f : Str} {v x : V} {r : List (Str × V)} : putF f v ((f, x) :: r) = (f, v) :: r := by
  show (if f = f then _ else _) = _
  rw [if_pos rfl]
theorem putF_nil {f : Str} {v : V} : putF f v [] = [(f, v)] := rfl
theorem lk_ne {f g : Str} {x : V} {r : List (Str × V)} (h : (f == g) = false := by decide +kernel) : List.lookup f ((g, x) :: r) = List.lookup f r := by simp [List.lookup, h]
theorem lk_eq {f : Str} {x : V} {r : List (Str × V)} : List.lookup f ((f, x) :: r) = some x := by simp [List.lookup]
theorem Sep.mk {G H : Hp} {M : List (Addr × HO)} {p : Addr} {o : HO} (S : Sep G M H) (h : H p = none) : ∃ G', Same G G' ∧ Sep G' M (upd H p o) ∧ G' p = some o := ⟨_, S.grow h, S.newG h, upd_same⟩
theorem Sep.keep {G H : Hp} {M : List (Addr × HO)} {p : Addr} {o : HO} (S : Sep G ((p, o) :: M) H) : ∃ G', Same G G' ∧ Sep G' M H ∧ G' p = some o := ⟨_, S.frzS, S.frz, upd_same⟩

/-! ### rows of the line -/
structure Rw where
  ow : V
  wd : Str
  who : Int
  tk : Int
  qu : Int
  an : Int
def Rw.tup (r : Rw) : List V := [r.ow, .str r.wd, .int r.who, .int r.tk, .int r.qu, .int r.an]
/-- the place of an owner: a tuple of tuples of numbers -/
def OwAt (G : Hp) (v : V) : Prop := ∃ (a : Addr) (us : List V), v = .ref a ∧ G a = some (.tup us) ∧ us.length ≤ 5 ∧ ∀ u ∈ us, ∃ (r : Addr) (s : List Int), u = .ref r ∧ G r = some (.tup (s.map V.int))
theorem OwAt.same {G G' : Hp} {v : V} (e : Same G G') (h : OwAt G v) : OwAt G' v := by
  obtain ⟨a, us, h1, h2, h3, h4⟩ := h
  exact ⟨a, us, h1, e _ _ h2, h3, fun u hu => let ⟨r, s, k1, k2⟩ := h4 u hu; ⟨r, s, k1, e _ _ k2⟩⟩
def RwAt (G : Hp) (v : V) (r : Rw) : Prop := ∃ a, v = .ref a ∧ G a = some (.tup r.tup) ∧ OwAt G r.ow
theorem RwAt.same {G G' : Hp} {v : V} {r : Rw} (e : Same G G') (h : RwAt G v r) : RwAt G' v r := by
  obtain ⟨a, h1, h2, h3⟩ := h
  exact ⟨a, h1, e _ _ h2, h3.same e⟩
theorem rws_same {G G' : Hp} {vs : List V} {rs : List Rw} (e : Same G G') (h : Paired (RwAt G) vs rs) : Paired (RwAt G') vs rs := prd_imp (fun _ _ k => k.same e) h
/-- what is answered in each edition -/
def StAt (G : Hp) (a : Addr) (zs : List (List Int)) : Prop := ∃ us, G a = some (.tup us) ∧ Paired (fun v (z : List Int) => ∃ r, v = .ref r ∧ G r = some (.tup (z.map V.int)) ∧ z.length = 4) us zs
theorem StAt.same {G G' : Hp} {a : Addr} {zs : List (List Int)} (e : Same G G') (h : StAt G a zs) : StAt G' a zs := by
  obtain ⟨us, h1, h2⟩ := h
  exact ⟨us, e _ _ h1, prd_imp (fun _ _ ⟨r, k1, k2, k3⟩ => ⟨r, k1, e _ _ k2, k3⟩) h2⟩
def enF (r : Rw) : List (Str × V) := [("owner", r.ow), ("word", .str r.wd), ("who", .int r.who), ("ticket", .int r.tk), ("question", .int r.qu), ("answer", .int r.an)]
theorem enF_ow {r : Rw} : (enF r).lookup ("owner" : Str) = some r.ow := by unfold enF; rw [lk_eq]
theorem enF_wd {r : Rw} : (enF r).lookup ("word" : Str) = some (.str r.wd) := by unfold enF; rw [lk_ne, lk_eq]
theorem enF_who {r : Rw} : (enF r).lookup ("who" : Str) = some (.int r.who) := by unfold enF; rw [lk_ne, lk_ne, lk_eq]
theorem enF_tk {r : Rw} : (enF r).lookup ("ticket" : Str) = some (.int r.tk) := by unfold enF; rw [lk_ne, lk_ne, lk_ne, lk_eq]
theorem enF_qu {r : Rw} : (enF r).lookup ("question" : Str) = some (.int r.qu) := by unfold enF; rw [lk_ne, lk_ne, lk_ne, lk_ne, lk_eq]
theorem enF_an {r : Rw} : (enF r).lookup ("answer" : Str) = some (.int r.an) := by unfold enF; rw [lk_ne, lk_ne, lk_ne, lk_ne, lk_ne, lk_eq]
def EnAt (G : Hp) (C : Addr) (v : V) (r : Rw) : Prop := ∃ e de, v = .ref e ∧ G e = some (.ins C de (enF r)) ∧ OwAt G r.ow
theorem EnAt.same {G G' : Hp} {C : Addr} {v : V} {r : Rw} (e : Same G G') (h : EnAt G C v r) : EnAt G' C v r := by
  obtain ⟨a, d, h1, h2, h3⟩ := h
  exact ⟨a, d, h1, e _ _ h2, h3.same e⟩
def lnF (sa : Addr) (rm : Int) (l : Addr) (tk pr : Int) : List (Str × V) := [("far", .ref sa), ("room", .int rm), ("waiting", .ref l), ("tickets", .int tk), ("present", .int pr)]
section
variable {sa l : Addr} {rm tk pr : Int}
theorem lnF_far : (lnF sa rm l tk pr).lookup ("far" : Str) = some (.ref sa) := by unfold lnF; rw [lk_eq]
theorem lnF_rm : (lnF sa rm l tk pr).lookup ("room" : Str) = some (.int rm) := by unfold lnF; rw [lk_ne, lk_eq]
theorem lnF_w : (lnF sa rm l tk pr).lookup ("waiting" : Str) = some (.ref l) := by unfold lnF; rw [lk_ne, lk_ne, lk_eq]
theorem lnF_tk : (lnF sa rm l tk pr).lookup ("tickets" : Str) = some (.int tk) := by unfold lnF; rw [lk_ne, lk_ne, lk_ne, lk_eq]
theorem lnF_pr : (lnF sa rm l tk pr).lookup ("present" : Str) = some (.int pr) := by unfold lnF; rw [lk_ne, lk_ne, lk_ne, lk_ne, lk_eq]
theorem put_tk {i : Int} : putF "tickets" (.int i) (lnF sa rm l tk pr) = lnF sa rm l i pr := by unfold lnF; rw [putF_ne, putF_ne, putF_ne, putF_eq]
theorem put_pr {i : Int} : putF "present" (.int i) (lnF sa rm l tk pr) = lnF sa rm l tk i := by unfold lnF; rw [putF_ne, putF_ne, putF_ne, putF_ne, putF_eq]
theorem put_w {p : Addr} : putF "waiting" (.ref p) (lnF sa rm l tk pr) = lnF sa rm p tk pr := by unfold lnF; rw [putF_ne, putF_ne, putF_eq]
end
/-! ### Entry -/
def spEn (C : Addr) : Sp := fun vs H Q _ => ∃ (G : Hp) (M : List (Addr × HO)) (x dx : Addr) (r : Rw), vs = .ref x :: r.tup ∧ Sep G ((x, .ins C dx []) :: M) H ∧ ∀ H', Sep G ((x, .ins C dx (enF r)) :: M) H' → Q .non H'
theorem ok_Entry_init (T : Top K mg w) {k : Nat} : FnOk P w K mg base CX0 (k + 1) T.a_Entry_init T.d_Entry_init ["self", "owner", "word", "who", "ticket", "question", "answer"] (spEn T.C_Entry) := by
  refine T.F_Entry_init.ok sc_Entry_init (fun vs H Q E h => ?_) (fun cdv A outer s H vs Q E hr h => ?_)
  · obtain ⟨G, M, x, dx, r, rfl, _⟩ := h
    rfl
  · obtain ⟨G, M, x, dx, r, rfl, S, q⟩ := h
    refine ⟨_, (pss_cons (ps_fld (xv 0) (xv 1) rfl)
      (pss_cons (ps_fld (xv 0) (xv 2) rfl)
      (pss_cons (ps_fld (xv 0) (xv 3) rfl)
      (pss_cons (ps_fld (xv 0) (xv 4) rfl)
      (pss_cons (ps_fld (xv 0) (xv 5) rfl)
      (pss_one (ps_fld (xv 0) (xv 6) rfl))))))), ?_⟩
    refine ⟨x, T.C_Entry, dx, [], rfl, S.hd, T.cl_Entry, T.na_Entry_owner, by decide, ?_⟩
    rw [putF_nil]
    have S1 := S.set (o' := .ins T.C_Entry dx [("owner", r.ow)])
    refine ⟨x, T.C_Entry, dx, _, rfl, S1.hd, T.cl_Entry, T.na_Entry_word, by simp, ?_⟩
    rw [putF_ne, putF_nil]
    have S2 := S1.set (o' := .ins T.C_Entry dx [("owner", r.ow), ("word", .str r.wd)])
    refine ⟨x, T.C_Entry, dx, _, rfl, S2.hd, T.cl_Entry, T.na_Entry_who, by simp, ?_⟩
    rw [putF_ne, putF_ne, putF_nil]
    have S3 := S2.set (o' := .ins T.C_Entry dx [("owner", r.ow), ("word", .str r.wd), ("who", .int r.who)])
    refine ⟨x, T.C_Entry, dx, _, rfl, S3.hd, T.cl_Entry, T.na_Entry_ticket, by simp, ?_⟩
    rw [putF_ne, putF_ne, putF_ne, putF_nil]
    have S4 := S3.set (o' := .ins T.C_Entry dx [("owner", r.ow), ("word", .str r.wd), ("who", .int r.who), ("ticket", .int r.tk)])
    refine ⟨x, T.C_Entry, dx, _, rfl, S4.hd, T.cl_Entry, T.na_Entry_question, by simp, ?_⟩
    rw [putF_ne, putF_ne, putF_ne, putF_ne, putF_nil]
    have S5 := S4.set (o' := .ins T.C_Entry dx [("owner", r.ow), ("word", .str r.wd), ("who", .int r.who), ("ticket", .int r.tk), ("question", .int r.qu)])
    refine ⟨x, T.C_Entry, dx, _, rfl, S5.hd, T.cl_Entry, T.na_Entry_answer, by simp, ?_⟩
    rw [putF_ne, putF_ne, putF_ne, putF_ne, putF_ne, putF_nil]
    exact q _ S5.set
/-! ### Line -/
def spLn (C : Addr) : Sp := fun vs H Q _ => ∃ (G : Hp) (M : List (Addr × HO)) (x dx sa : Addr) (rm : Int) (us : List V), vs = [.ref x, .ref sa, .int rm] ∧ Sep G ((x, .ins C dx []) :: M) H ∧ G sa = some (.tup us) ∧
  ∀ l H', Sep G ((l, .lst []) :: (x, .ins C dx (lnF sa rm l 0 0)) :: M) H' → Q .non H'
theorem ok_Line_init (T : Top K mg w) {k : Nat} : FnOk P w K mg base CX0 (k + 1) T.a_Line_init T.d_Line_init ["self", "far", "room"] (spLn T.C_Line) := by
  refine T.F_Line_init.ok sc_Line_init (fun vs H Q E h => ?_) (fun cdv A outer s H vs Q E hr h => ?_)
  · obtain ⟨G, M, x, dx, sa, rm, us, rfl, _⟩ := h
    rfl
  · obtain ⟨G, M, x, dx, sa, rm, us, rfl, S, hs, q⟩ := h
    refine ⟨_, (pss_cons (ps_fld (xv 0) (pe_callTy (call_tupleK K) (by rfl) T.m_tuple (by decide +kernel) (pa_cons (xv 1) pa_nil)) rfl)
      (pss_cons (ps_fld (xv 0) (xv 2) rfl)
      (pss_cons (ps_fld (xv 0) (pe_lst pa_nil) rfl)
      (pss_cons (ps_fld (xv 0) pe_int rfl)
      (pss_one (ps_fld (xv 0) pe_int rfl)))))), ?_⟩
    refine ⟨sa, us, rfl, .inr ⟨SqT.of (S.st hs), x, T.C_Line, dx, [], rfl, S.hd, T.cl_Line, T.na_Line_far, by decide, ?_⟩⟩
    rw [putF_nil]
    have S1 := S.set (o' := .ins T.C_Line dx [("far", .ref sa)])
    refine ⟨x, T.C_Line, dx, _, rfl, S1.hd, T.cl_Line, T.na_Line_room, by simp, ?_⟩
    rw [putF_ne, putF_nil]
    have S2 := S1.set (o' := .ins T.C_Line dx [("far", .ref sa), ("room", .int rm)])
    refine ⟨sz, fun l nl => ?_⟩
    have S3 := (S2.new (o := .lst []) nl).sw
    refine ⟨x, T.C_Line, dx, _, rfl, S3.hd, T.cl_Line, T.na_Line_waiting, by simp, ?_⟩
    rw [putF_ne, putF_ne, putF_nil]
    have S4 := S3.set (o' := .ins T.C_Line dx [("far", .ref sa), ("room", .int rm), ("waiting", .ref l)])
    refine ⟨x, T.C_Line, dx, _, rfl, S4.hd, T.cl_Line, T.na_Line_tickets, by simp, ?_⟩
    rw [putF_ne, putF_ne, putF_ne, putF_nil]
    have S5 := S4.set (o' := .ins T.C_Line dx [("far", .ref sa), ("room", .int rm), ("waiting", .ref l), ("tickets", .int 0)])
    refine ⟨x, T.C_Line, dx, _, rfl, S5.hd, T.cl_Line, T.na_Line_present, by simp, ?_⟩
    rw [putF_ne, putF_ne, putF_ne, putF_ne, putF_nil]
    exact q l _ S5.set.sw
def spEd (C : Addr) : Sp := fun vs H Q _ => ∃ (x dx sa l : Addr) (rm tk pr : Int), vs = [.ref x] ∧ H x = some (.ins C dx (lnF sa rm l tk pr)) ∧ Q (.int pr) H
theorem ok_Line_edition (T : Top K mg w) {k : Nat} : FnOk P w K mg base CX0 (k + 1) T.a_Line_edition T.d_Line_edition ["self"] (spEd T.C_Line) := by
  refine T.F_Line_edition.ok sc_Line_edition (fun vs H Q E h => ?_) (fun cdv A outer s H vs Q E hr h => ?_)
  · obtain ⟨x, dx, sa, l, rm, tk, pr, rfl, _⟩ := h
    rfl
  · obtain ⟨x, dx, sa, l, rm, tk, pr, rfl, hx, q⟩ := h
    refine ⟨_, (pss_one (ps_ret (pe_fldK K (xv 0)))), ?_⟩
    exact ⟨x, T.C_Line, dx, _, _, rfl, hx, T.cl_Line, T.na_Line_present, lnF_pr, q⟩

end
end K44
set_option Elab.async false
set_option linter.all false
set_option maxRecDepth 100000
set_option maxHeartbeats 4000000
namespace K44
open PySem PySem.Spec PyProof.Rows L2 XL
section
variable {P : Program} {w : World} {K : PySem.W.Frag} {mg : Str → Option Value} {base : Heap}
def spIsN : Sp := fun vs H Q _ => ∃ i l h : Int, vs = [.int i, .int l, .int h] ∧ Q (.bl (decide (l ≤ i) && decide (i ≤ h))) H
theorem ok_is_number (T : Top K mg w) {k : Nat} : FnOk P w K mg base CX0 (k + 1) T.a_is_number T.d_is_number ["thing", "low", "high"] spIsN := by
  refine T.F_is_number.ok sc_is_number (fun vs H Q E h => ?_) (fun cdv A outer s H vs Q E hr h => ?_)
  · obtain ⟨i, l, h', rfl, _⟩ := h
    rfl
  · obtain ⟨i, l, h', rfl, q⟩ := h
    refine ⟨_, (pss_one (ps_ret (xe_and (pe_callB (call_isK K) (by rfl) T.m_isinstance (by decide +kernel) (pa_cons (xv 0) (pa_cons (pe_bltn (v := .ty "int") (by rfl) T.m_int (by decide +kernel) rfl) pa_nil))) (xe_and (xe_not (pe_callB (call_isK K) (by rfl) T.m_isinstance (by decide +kernel) (pa_cons (xv 0) (pa_cons (pe_bltn (v := .ty "bool") (by rfl) T.m_bool (by decide +kernel) rfl) pa_nil)))) (pe_one (xe_chain op_leY op_leY (xv 1) (xv 0) (xv 2))))))), ?_⟩
    refine ⟨_, _, _, _, true, rfl, .ty _, .base (.int _), kit_ty (by decide +kernel), fun _ => ⟨_, _, _, _, false, rfl, .ty _, .base (.int _), kit_ty (by decide +kernel), fun _ => ?_, tt⟩, tt⟩
    refine ⟨fun e => ?_, fun e => ?_⟩
    · rw [show decide (l ≤ i) = true from e, Bool.true_and] at q
      exact q
    · rw [show decide (l ≤ i) = false from e, Bool.false_and] at q
      exact q
theorem prd_getR {α β : Type} {F : α → β → Prop} {xs : List α} {ys : List β} {i : Nat} {y : β} (h : Paired F xs ys) (e : ys[i]? = some y) : ∃ x, xs[i]? = some x ∧ F x y := by
  have hl := prd_len h
  have il := (List.getElem?_eq_some_iff.mp e).1
  have hx := List.getElem?_eq_getElem (show i < xs.length by omega)
  obtain ⟨y', hy, f⟩ := prd_get h hx
  rw [e] at hy
  cases hy
  exact ⟨_, hx, f⟩
theorem prd_erase {α β : Type} {F : α → β → Prop} : ∀ {xs : List α} {ys : List β} (k : Nat), Paired F xs ys → Paired F (xs.eraseIdx k) (ys.eraseIdx k)
  | _, _, _, .nil => .nil
  | _, _, 0, .cons _ t => t
  | _, _, k + 1, .cons h t => .cons h (prd_erase k t)
theorem prd_tail {α β : Type} {F : α → β → Prop} {xs : List α} {ys : List β} (h : Paired F xs ys) : Paired F xs.tail ys.tail := by
  cases h with
  | nil => exact .nil
  | cons _ t => exact t
/-- beyond the room the eldest goes -/
def push {α : Type} (rm : Int) (rs : List α) : List α := if rm < (rs.length : Int) then rs.tail else rs
theorem push_len {α : Type} {rm : Int} {rs : List α} (h : (rs.length : Int) ≤ rm + 1) (h1 : 1 ≤ rm) : ((push rm rs).length : Int) ≤ rm := by
  unfold push
  split
  · rw [List.length_tail]; omega
  · omega
/-- the line's two cells -/
def spSend (C Ce : Addr) : Sp := fun vs H Q _ => ∃ (G : Hp) (M : List (Addr × HO)) (x dx sa l : Addr) (rm tk : Int) (j q : Nat) (ws : List V) (rows : List Rw) (zs : List (List Int)) (z : List Int) (ow : V) (wd : Str) (who an : Int), vs = [.ref x, ow, .str wd, .int who, .int (q : Nat)] ∧ Sep G ((x, .ins C dx (lnF sa rm l tk (j : Nat))) :: (l, .lst ws) :: M) H ∧
  Paired (RwAt G) ws rows ∧ StAt G sa zs ∧ OwAt G ow ∧ zs[j]? = some z ∧ z[q]? = some an ∧ 1 ≤ rm ∧ rm ≤ 3 ∧ (rows.length : Int) ≤ rm ∧
  ∀ (e : Addr) (ws' : List V) (G' H' : Hp), Same G G' → EnAt G' Ce (.ref e) ⟨ow, wd, who, tk, q, an⟩ → Paired (RwAt G') ws' (push rm (rows ++ [⟨ow, wd, who, tk, q, an⟩])) → Sep G' ((x, .ins C dx (lnF sa rm l (tk + 1) (j : Nat))) :: (l, .lst ws') :: M) H' → Q (.ref e) H'
theorem ok_Line_send (T : Top K mg w) {k : Nat} (G_Entry_init : FnOk P w K mg base CX0 (k + 1) T.a_Entry_init T.d_Entry_init ["self", "owner", "word", "who", "ticket", "question", "answer"] (spEn T.C_Entry)) :
    FnOk P w K mg base CX0 (k + 3) T.a_Line_send T.d_Line_send ["self", "owner", "word", "who", "question"] (spSend T.C_Line T.C_Entry) := by
  refine T.F_Line_send.ok sc_Line_send (fun vs H Q E h => ?_) (fun cdv A outer s H vs Q E hr h => ?_)
  · obtain ⟨G, M, x, dx, sa, l, rm, tk, j, qn, ws, rows, zs, z, ow, wd, who, an, rfl, _⟩ := h
    rfl
  · obtain ⟨G, M, x, dx, sa, l, rm, tk, j, qn, ws, rows, zs, z, ow, wd, who, an, rfl, S, pw, st, hw, hz, ha, r1, r3, rl, q⟩ := h
    refine ⟨_, (pss_cons (ps_set (i := 5) sc_Line_send.nd rfl (.inl rfl) (pe_tup (pa_cons (xv 1) (pa_cons (xv 2) (pa_cons (xv 3) (pa_cons (pe_fldK K (xv 0)) (pa_cons (xv 4) (pa_cons (pe_ix (ix_k K) (pe_ix (ix_k K) (pe_fldK K (xv 0)) (pe_fldK K (xv 0)) (fun _ _ => rfl)) (xv 4) (fun _ _ => rfl)) pa_nil))))))))
      (pss_cons (ps_fldaug (xv 0) pe_int in_add)
      (pss_cons (ps_expr (pe_bmK K PySem.F.plainAttrs_list PySem.F.slot_list_append PySem.F.type_list_append mt_append (pe_fldK K (xv 0)) (pa_cons (xv 5) pa_nil)))
      (xss_cut (xs_if (xt_cmp op_gtY (pe_callB (cr_lenK K) (by rfl) T.m_len (by decide +kernel) (pa_cons (pe_fldK K (xv 0)) pa_nil)) (pe_fldK K (xv 0)) (nomark _))
      (pss_one (ps_expr (pe_bmK K PySem.F.plainAttrs_list PySem.F.slot_list_pop PySem.F.type_list_pop mt_popAt (pe_fldK K (xv 0)) (pa_cons pe_int pa_nil))))
      pss_nil)
      (pss_one (ps_ret (pe_makeS K T.mk_Entry G_Entry_init (hr.mono (by omega)) (by rfl) T.g_Entry T.b_Entry_init .nil pass0 (xv 5)))))))), ?_⟩
    obtain ⟨us, hu, pu⟩ := st
    obtain ⟨_, hv, r, rfl, hr', z4⟩ := prd_getR pu hz
    have wl := prd_len pw
    refine ⟨x, T.C_Line, dx, _, _, rfl, S.hd, T.cl_Line, T.na_Line_tickets, lnF_tk, x, T.C_Line, dx, _, _, rfl, S.hd, T.cl_Line, T.na_Line_far, lnF_far, x, T.C_Line, dx, _, _, rfl, S.hd, T.cl_Line, T.na_Line_present, lnF_pr, ?_⟩
    refine ⟨_, _, .inr (SqT.of (S.st hu)), atI_nat hv, _, _, .inr (SqT.of (S.st hr')), atI_nat (by rw [List.getElem?_map, ha]; rfl), sz, fun p np => ?_⟩
    obtain ⟨G1, s1, S1, h1⟩ := Sep.mk (o := .tup (Rw.tup ⟨ow, wd, who, tk, qn, an⟩)) S np
    refine ⟨x, T.C_Line, dx, _, _, rfl, S1.hd, T.cl_Line, T.na_Line_tickets, lnF_tk, _, _, rfl, rfl, dx, _, S1.hd, by simp [lnF], ?_⟩
    rw [put_tk]
    have S2 := S1.set (o' := .ins T.C_Line dx (lnF sa rm l (tk + 1) (j : Nat)))
    have nr : RwAt G1 (.ref p) ⟨ow, wd, who, tk, qn, an⟩ := ⟨p, rfl, h1, hw.same s1⟩
    have pw1 := prd_app (rws_same s1 pw) (.cons nr .nil)
    refine ⟨x, T.C_Line, dx, _, _, rfl, S2.hd, T.cl_Line, T.na_Line_waiting, lnF_w, .inl ⟨rfl, _, SqL.of S2.sw.hd⟩, l, _, _, rfl, rfl, S2.sw.hd, smallL (by omega), ?_⟩
    have S3 := (S2.sw.set (o' := .lst (ws ++ [.ref p]))).sw
    refine ⟨fun σ H' => ∃ ws', σ = [some (.ref x), some ow, some (.str wd), some (.int who), some (.int (qn : Nat)), some (.ref p)] ∧ Paired (RwAt G1) ws' (push rm (rows ++ [⟨ow, wd, who, tk, qn, an⟩])) ∧ Sep G1 ((x, .ins T.C_Line dx (lnF sa rm l (tk + 1) (j : Nat))) :: (l, .lst ws') :: M) H', ?_, fun σ H' h => ?_⟩
    · refine ⟨x, T.C_Line, dx, _, _, rfl, S3.hd, T.cl_Line, T.na_Line_waiting, lnF_w, _, .inl (SqL.of S3.sw.hd), x, T.C_Line, dx, _, _, rfl, S3.hd, T.cl_Line, T.na_Line_room, lnF_rm, fun e => ?_, fun e => ?_⟩
      · have e1 : rm < ((rows ++ [(⟨ow, wd, who, tk, qn, an⟩ : Rw)]).length : Int) := by
          have z := of_decide_eq_true e
          rw [List.length_append] at z ⊢
          rw [← wl]
          exact z
        have hne : ∃ y, (ws ++ [V.ref p])[0]? = some y := ⟨_, List.getElem?_eq_getElem (by simp)⟩
        obtain ⟨y, hy⟩ := hne
        refine ⟨x, T.C_Line, dx, _, _, rfl, S3.hd, T.cl_Line, T.na_Line_waiting, lnF_w, .inl ⟨rfl, _, SqL.of S3.sw.hd⟩, l, _, 0, 0, y, rfl, rfl, S3.sw.hd, by decide, by decide, ?_, hy, ?_⟩
        · exact seqIdx (by decide) (by rw [List.length_append]; simp)
        · refine ⟨_, rfl, ?_, (S3.sw.set).sw⟩
          unfold push
          rw [if_pos e1, List.eraseIdx_zero]
          exact prd_tail pw1
      · have e1 : ¬ rm < ((rows ++ [(⟨ow, wd, who, tk, qn, an⟩ : Rw)]).length : Int) := by
          have z := of_decide_eq_false e
          rw [List.length_append] at z ⊢
          rw [← wl]
          exact z
        refine ⟨_, rfl, ?_, S3⟩
        unfold push
        rw [if_neg e1]
        exact pw1
    · obtain ⟨ws', rfl, pw', S4⟩ := h
      refine ⟨p, _, rfl, .inl (SqT.of (S4.st h1)), fun e de ne nde hne => ?_⟩
      have S5 := S4.new2 (o := .ins T.C_Entry de []) (u := .own e) ne nde hne
      refine ⟨G1, _, e, de, ⟨ow, wd, who, tk, qn, an⟩, rfl, S5, fun H6 S6 => ⟨rfl, ?_⟩⟩
      obtain ⟨G7, s7, S7, h7⟩ := Sep.keep S6
      exact q e ws' G7 _ (s1.trans s7) ⟨e, de, rfl, h7, (hw.same s1).same s7⟩ (rws_same s7 pw') S7.drop
def ErrN (C : Addr) (n : Int) (H : Hp) (E : XK) : Prop := ∀ dd, H dd = none → E (.ref C) (some dd) (upd H dd (.xd [("number", .int n)]))
def spTake (C Ce Cx : Addr) : Sp := fun vs H Q E => ∃ (G : Hp) (M : List (Addr × HO)) (x dx sa l : Addr) (rm tk pr n : Int) (ws : List V) (rows : List Rw), vs = [.ref x, .int n] ∧ Sep G ((x, .ins C dx (lnF sa rm l tk pr)) :: (l, .lst ws) :: M) H ∧
  Paired (RwAt G) ws rows ∧ rows.length ≤ 1000 ∧ n.natAbs.log2 < 1920 ∧
  (∀ (k : Nat) (r : Rw) (e : Addr) (ws' : List V) (G' H' : Hp), n = k → rows[k]? = some r → Same G G' → EnAt G' Ce (.ref e) r → Paired (RwAt G') ws' (rows.eraseIdx k) → Sep G' ((x, .ins C dx (lnF sa rm l tk pr)) :: (l, .lst ws') :: M) H' → Q (.ref e) H') ∧
  (n < 0 ∨ (rows.length : Int) ≤ n → ErrN Cx n H E)
theorem ok_Line_take (T : Top K mg w) (pf : PySem.XExc.PF P T.x_file) {k : Nat} (G_Entry_init : FnOk P w K mg base CX0 (k + 1) T.a_Entry_init T.d_Entry_init ["self", "owner", "word", "who", "ticket", "question", "answer"] (spEn T.C_Entry)) (G_is_number : FnOk P w K mg base CX0 (k + 1) T.a_is_number T.d_is_number ["thing", "low", "high"] spIsN) :
    FnOk P w K mg base (L2.CX P w) (k + 3) T.a_Line_take T.d_Line_take ["self", "number"] (spTake T.C_Line T.C_Entry T.C_NoAnswer) := by
  refine T.F_Line_take.okX sc_Line_take (fun vs H Q E h => ?_) (fun cdv A outer s H vs Q E hr h => ?_)
  · obtain ⟨G, M, x, dx, sa, l, rm, tk, pr, n, ws, rows, rfl, _⟩ := h
    rfl
  · obtain ⟨G, M, x, dx, sa, l, rm, tk, pr, n, ws, rows, rfl, S, pw, rl, ib, q, qe⟩ := h
    refine ⟨_, (pss_cons (xs_if (pt_not (xt_truK K (pe_call G_is_number (hr.mono (by omega)) (by rfl) T.g_is_number T.F_is_number.kp T.b_is_number .nil pass0 (pa_cons (xv 1) (pa_cons pe_int (pa_cons (pe_op op_subY (pe_callB (cr_lenK K) (by rfl) T.m_len (by decide +kernel) (pa_cons (pe_fldK K (xv 0)) pa_nil)) pe_int) pa_nil))))))
      (pss_one (ps_raiseX (k := 0) rfl (T.x_NoAnswer P pf) (hr.mono (by omega)) (takes_of rfl rfl rfl rfl) (pa_cons (xv 1) pa_nil)))
      pss_nil)
      (pss_cons (ps_set (i := 2) sc_Line_take.nd rfl (.inl rfl) (pe_bmK K PySem.F.plainAttrs_list PySem.F.slot_list_pop PySem.F.type_list_pop mt_popAt (pe_fldK K (xv 0)) (pa_cons (xv 1) pa_nil)))
      (pss_one (ps_ret (pe_makeS K T.mk_Entry G_Entry_init (hr.mono (by omega)) (by rfl) T.g_Entry T.b_Entry_init .nil pass0 (xv 2)))))), ?_⟩
    have wl := prd_len pw
    refine ⟨x, T.C_Line, dx, _, _, rfl, S.hd, T.cl_Line, T.na_Line_waiting, lnF_w, _, .inl (SqL.of S.sw.hd), n, 0, _, rfl, fun e => ?_, fun e => ?_⟩
    · refine ⟨_, rfl, .inr ⟨_, rfl, ib⟩, fun dd ndd => qe ?_ dd ndd⟩
      have z : (decide (0 ≤ n) && decide (n ≤ (ws.length : Int) - 1)) = false := by simpa only [Bool.not_eq_true'] using e
      rw [Bool.and_eq_false_iff] at z
      rcases z with z | z
      · have := of_decide_eq_false z
        exact .inl (by omega)
      · have := of_decide_eq_false z
        exact .inr (by omega)
    · have z : (decide (0 ≤ n) && decide (n ≤ (ws.length : Int) - 1)) = true := by simpa only [Bool.not_eq_false'] using e
      rw [Bool.and_eq_true] at z
      have z1 := of_decide_eq_true z.1
      have z2 := of_decide_eq_true z.2
      obtain ⟨j, rfl⟩ := Int.eq_ofNat_of_zero_le z1
      have jl : j < ws.length := by omega
      have hj := List.getElem?_eq_getElem jl
      obtain ⟨r, hr1, p, ep, h1, h2⟩ := prd_get pw hj
      rw [ep] at hj
      refine ⟨x, T.C_Line, dx, _, _, rfl, S.hd, T.cl_Line, T.na_Line_waiting, lnF_w, .inl ⟨rfl, _, SqL.of S.sw.hd⟩, l, _, _, j, _, rfl, rfl, S.sw.hd, by omega, by omega, seqIdx (by omega) (by omega), hj, ?_⟩
      have S1 := (S.sw.set (o' := .lst (ws.eraseIdx j))).sw
      refine ⟨p, _, rfl, .inl (SqT.of (S1.st h1)), fun e de ne nde hne => ?_⟩
      have S5 := S1.new2 (o := .ins T.C_Entry de []) (u := .own e) ne nde hne
      refine ⟨G, _, e, de, r, rfl, S5, fun H6 S6 => ⟨rfl, ?_⟩⟩
      obtain ⟨G7, s7, S7, h7⟩ := Sep.keep S6
      exact q j r e _ G7 _ rfl hr1 s7 ⟨e, de, rfl, h7, h2.same s7⟩ (rws_same s7 (prd_erase j pw)) S7.drop

end
end K44
set_option Elab.async false
set_option linter.all false
set_option maxRecDepth 100000
set_option maxHeartbeats 4000000
namespace K44
open PySem PySem.Spec PyProof.Rows L2 XL
section
variable {P : Program} {w : World} {K : PySem.W.Frag} {mg : Str → Option Value} {base : Heap}
def spEntries (C Ce : Addr) : Sp := fun vs H Q _ => ∃ (G : Hp) (M : List (Addr × HO)) (x dx sa l : Addr) (rm tk pr : Int) (ws : List V) (rows : List Rw), vs = [.ref x] ∧ Sep G ((x, .ins C dx (lnF sa rm l tk pr)) :: (l, .lst ws) :: M) H ∧ Paired (RwAt G) ws rows ∧ rows.length ≤ 1000 ∧
  ∀ (L : Addr) (es : List V) (G' H' : Hp), Same G G' → Paired (EnAt G' Ce) es rows → Sep G' ((L, .lst es) :: (x, .ins C dx (lnF sa rm l tk pr)) :: (l, .lst ws) :: M) H' → Q (.ref L) H'
theorem ok_Line_entries (T : Top K mg w) {k : Nat} (G_Entry_init : FnOk P w K mg base CX0 (k + 1) T.a_Entry_init T.d_Entry_init ["self", "owner", "word", "who", "ticket", "question", "answer"] (spEn T.C_Entry)) :
    FnOk P w K mg base CX0 (k + 3) T.a_Line_entries T.d_Line_entries ["self"] (spEntries T.C_Line T.C_Entry) := by
  refine T.F_Line_entries.ok sc_Line_entries (fun vs H Q E h => ?_) (fun cdv A outer s H vs Q E hr h => ?_)
  · obtain ⟨G, M, x, dx, sa, l, rm, tk, pr, ws, rows, rfl, _⟩ := h
    rfl
  · obtain ⟨G, M, x, dx, sa, l, rm, tk, pr, ws, rows, rfl, S, pw, rl, q⟩ := h
    refine ⟨_, (pss_one (ps_ret (pe_lc (own := [("row", 1)]) (by rfl) sc_Line_entries.nd (pi_listK K (pe_fldK K (xv 0))) (blkOk_by (N := ["self", "row"]) (sc := defScope s_Line_entries) (by decide +kernel)) (fun _ _ _ _ _ => (pg_name (i := 1) sc_Line_entries.nd rfl (.inl rfl))) (fun _ _ _ _ _ => pts_nil) (fun _ _ _ _ _ => (pe_makeS K T.mk_Entry G_Entry_init (hr.mono (by omega)) (by rfl) T.g_Entry T.b_Entry_init .nil pass0 (xv 1)))))), ?_⟩
    have wl := prd_len pw
    refine ⟨x, T.C_Line, dx, _, _, rfl, S.hd, T.cl_Line, T.na_Line_waiting, lnF_w, l, rfl, ⟨_, SqL.of S.sw.hd⟩, fun L nL => lc_list (xs := ws) (fun i H' => ∃ es G', Same G G' ∧ Paired (EnAt G' T.C_Entry) es (rows.take i) ∧ Sep G' ((L, .lst es) :: (x, .ins T.C_Line dx (lnF sa rm l tk pr)) :: (l, .lst ws) :: M) H')
      ⟨[], G, Same.refl _, .nil, S.new nL⟩ (fun i H' _ h => ?_) (fun i y H' hy h => ?_) (fun H' h => ?_)⟩
    · obtain ⟨es, G', s1, pe, S1⟩ := h
      exact SqL.of S1.drop.sw.hd
    · obtain ⟨es, G', s1, pe, S1⟩ := h
      obtain ⟨r, hr1, p, rfl, h1, h2⟩ := prd_get pw hy
      have il := (List.getElem?_eq_some_iff.mp hy).1
      refine ⟨rfl, p, _, rfl, .inl (SqT.of (S1.st (s1 _ _ h1))), fun e de ne nde hne => ?_⟩
      have S5 := S1.new2 (o := .ins T.C_Entry de []) (u := .own e) ne nde hne
      refine ⟨G', _, e, de, r, rfl, S5, fun H6 S6 => ⟨rfl, ?_⟩⟩
      obtain ⟨G7, s7, S7, h7⟩ := Sep.keep S6
      have S8 := S7.drop
      have el := prd_len pe
      rw [List.length_take] at el
      refine ⟨_, S8.hd, smallL (by omega), _, G7, s1.trans s7, ?_, S8.set⟩
      rw [take_snoc hr1]
      exact prd_app (prd_imp (fun _ _ k => k.same s7) pe) (.cons ⟨e, de, rfl, h7, (h2.same s1).same s7⟩ .nil)
    · obtain ⟨es, G', s1, pe, S1⟩ := h
      rw [wl, List.take_length] at pe
      exact q L es G' H' s1 pe S1
def spTurn (C : Addr) : Sp := fun vs H Q _ => ∃ (G : Hp) (M : List (Addr × HO)) (x dx sa l : Addr) (rm tk pr : Int) (zs : List (List Int)), vs = [.ref x] ∧ Sep G ((x, .ins C dx (lnF sa rm l tk pr)) :: M) H ∧ StAt G sa zs ∧
  (pr + 1 < (zs.length : Int) → ∀ H', Sep G ((x, .ins C dx (lnF sa rm l tk (pr + 1))) :: M) H' → Q (.bl true) H') ∧ (¬ pr + 1 < (zs.length : Int) → Q (.bl false) H)
theorem ok_Line_turn (T : Top K mg w) {k : Nat} : FnOk P w K mg base CX0 (k + 1) T.a_Line_turn T.d_Line_turn ["self"] (spTurn T.C_Line) := by
  refine T.F_Line_turn.ok sc_Line_turn (fun vs H Q E h => ?_) (fun cdv A outer s H vs Q E hr h => ?_)
  · obtain ⟨G, M, x, dx, sa, l, rm, tk, pr, zs, rfl, _⟩ := h
    rfl
  · obtain ⟨G, M, x, dx, sa, l, rm, tk, pr, zs, rfl, S, ⟨us, hu, pu⟩, q1, q0⟩ := h
    refine ⟨_, (pss_cons (xs_if (xt_cmp op_geY (pe_op op_addY (pe_fldK K (xv 0)) pe_int) (pe_callB (cr_lenK K) (by rfl) T.m_len (by decide +kernel) (pa_cons (pe_fldK K (xv 0)) pa_nil)) (nomark _))
      (pss_one (ps_ret pe_bl))
      pss_nil)
      (pss_cons (ps_fldaug (xv 0) pe_int in_add)
      (pss_one (ps_ret pe_bl)))), ?_⟩
    have ul := prd_len pu
    refine ⟨x, T.C_Line, dx, _, _, rfl, S.hd, T.cl_Line, T.na_Line_present, lnF_pr, x, T.C_Line, dx, _, _, rfl, S.hd, T.cl_Line, T.na_Line_far, lnF_far, _, .inr (SqT.of (S.st hu)), fun e => ?_, fun e => ?_⟩
    · have z := of_decide_eq_true e
      exact q0 (by omega)
    · have z := of_decide_eq_false e
      refine ⟨x, T.C_Line, dx, _, _, rfl, S.hd, T.cl_Line, T.na_Line_present, lnF_pr, _, _, rfl, rfl, dx, _, S.hd, by simp [lnF], ?_⟩
      rw [put_pr]
      exact q1 (by omega) _ S.set
def spCopy (C : Addr) : Sp := fun vs H Q _ => ∃ (G : Hp) (M : List (Addr × HO)) (x dx sa l : Addr) (rm tk pr : Int) (ws us : List V), vs = [.ref x] ∧ Sep G ((x, .ins C dx (lnF sa rm l tk pr)) :: (l, .lst ws) :: M) H ∧ G sa = some (.tup us) ∧
  ∀ (y dy l' : Addr) (H' : Hp), Sep G ((y, .ins C dy (lnF sa rm l' tk pr)) :: (l', .lst ws) :: (x, .ins C dx (lnF sa rm l tk pr)) :: (l, .lst ws) :: M) H' → Q (.ref y) H'
theorem ok_Line_copy (T : Top K mg w) {k : Nat} (G_Line_init : FnOk P w K mg base CX0 (k + 1) T.a_Line_init T.d_Line_init ["self", "far", "room"] (spLn T.C_Line)) :
    FnOk P w K mg base CX0 (k + 3) T.a_Line_copy T.d_Line_copy ["self"] (spCopy T.C_Line) := by
  refine T.F_Line_copy.ok sc_Line_copy (fun vs H Q E h => ?_) (fun cdv A outer s H vs Q E hr h => ?_)
  · obtain ⟨G, M, x, dx, sa, l, rm, tk, pr, ws, us, rfl, _⟩ := h
    rfl
  · obtain ⟨G, M, x, dx, sa, l, rm, tk, pr, ws, us, rfl, S, hu, q⟩ := h
    refine ⟨_, (pss_cons (ps_set (i := 1) sc_Line_copy.nd rfl (.inl rfl) (pe_make T.mk_Line G_Line_init (hr.mono (by omega)) (by rfl) T.g_Line T.b_Line_init .nil pass0 (pa_cons (pe_fldK K (xv 0)) (pa_cons (pe_fldK K (xv 0)) pa_nil))))
      (pss_cons (ps_fld (xv 1) (pe_callTy (call_listK K) (by rfl) T.m_list (by decide +kernel) (pa_cons (pe_fldK K (xv 0)) pa_nil)) rfl)
      (pss_cons (ps_fld (xv 1) (pe_fldK K (xv 0)) rfl)
      (pss_cons (ps_fld (xv 1) (pe_fldK K (xv 0)) rfl)
      (pss_one (ps_ret (xv 1))))))), ?_⟩
    refine ⟨x, T.C_Line, dx, _, _, rfl, S.hd, T.cl_Line, T.na_Line_far, lnF_far, x, T.C_Line, dx, _, _, rfl, S.hd, T.cl_Line, T.na_Line_room, lnF_rm, fun y dy ny ndy hne => ?_⟩
    have S1 := (S.new2 (o := .ins T.C_Line dy []) (u := .own y) ny ndy hne)
    have S1 := S1.sw.drop
    refine ⟨G, _, y, dy, sa, rm, us, rfl, S1, hu, fun l0 H2 S2 => ⟨rfl, ?_⟩⟩
    have S2 := S2.drop
    have hx2 := S2.drop.hd
    refine ⟨x, T.C_Line, dx, _, _, rfl, hx2, T.cl_Line, T.na_Line_waiting, lnF_w, l, ws, rfl, .inl (SqL.of S2.drop.drop.hd), fun l' nl' => ?_⟩
    have S3 := (S2.new (o := .lst ws) nl').sw
    refine ⟨y, T.C_Line, dy, _, rfl, S3.hd, T.cl_Line, T.na_Line_waiting, by simp [lnF], ?_⟩
    rw [put_w]
    have S4 := S3.set (o' := .ins T.C_Line dy (lnF sa rm l' 0 0))
    refine ⟨x, T.C_Line, dx, _, _, rfl, S4.drop.drop.hd, T.cl_Line, T.na_Line_tickets, lnF_tk, y, T.C_Line, dy, _, rfl, S4.hd, T.cl_Line, T.na_Line_tickets, by simp [lnF], ?_⟩
    rw [put_tk]
    have S5 := S4.set (o' := .ins T.C_Line dy (lnF sa rm l' tk 0))
    refine ⟨x, T.C_Line, dx, _, _, rfl, S5.drop.drop.hd, T.cl_Line, T.na_Line_present, lnF_pr, y, T.C_Line, dy, _, rfl, S5.hd, T.cl_Line, T.na_Line_present, by simp [lnF], ?_⟩
    rw [put_pr]
    exact q y dy l' _ S5.set

end
end K44
set_option Elab.async false
set_option linter.all false
set_option maxRecDepth 100000
set_option maxHeartbeats 4000000
namespace K44
open PySem PySem.Spec PyProof.Rows L2 XL
section
variable {P : Program} {w : World} {K : PySem.W.Frag} {mg : Str → Option Value} {base : Heap}
/-! ### what the law draws -/
def Steps (G : Hp) (us : List V) : Prop := ∀ u ∈ us, ∃ (r : Addr) (s : List Int), u = .ref r ∧ G r = some (.tup (s.map V.int))
theorem Steps.same {G G' : Hp} {us : List V} (e : Same G G') (h : Steps G us) : Steps G' us := fun u hu => let ⟨r, s, k1, k2⟩ := h u hu; ⟨r, s, k1, e _ _ k2⟩
theorem Steps.snoc {G : Hp} {us : List V} {r : Addr} {s : List Int} (h : Steps G us) (k : G r = some (.tup (s.map V.int))) : Steps G (us ++ [.ref r]) := fun u hu => by
  rcases List.mem_append.mp hu with z | z
  · exact h u z
  · rw [List.mem_singleton.mp z]
    exact ⟨r, s, rfl, k⟩
def spStep : Sp := fun vs H Q _ => ∃ (G : Hp) (M : List (Addr × HO)) (b : Addr) (o : HO), vs = [.ref b] ∧ Sep G ((b, o) :: M) H ∧ Bag G o ∧
  ∀ (p : Addr) (s : List Int) (o' : HO) (G' H' : Hp), Same G G' → G' p = some (.tup (s.map V.int)) → Bag G' o' → Sep G' ((b, o') :: M) H' → Q (.ref p) H'
theorem ok_step (T : Top K mg w) {k : Nat} (G_pick : FnOk P w K mg base CX0 k T.a_pick T.d_pick ["_law_bag_here", "_law_many"] spPick) : FnOk P w K mg base CX0 (k + 1) T.a_step T.d_step ["_law_bag_here"] spStep := by
  refine T.F_step.ok sc_step (fun vs H Q E h => ?_) (fun cdv A outer s H vs Q E hr h => ?_)
  · obtain ⟨G, M, b, o, rfl, _⟩ := h
    rfl
  · obtain ⟨G, M, b, o, rfl, S, B, q⟩ := h
    refine ⟨_, (pss_cons (ps_set (i := 1) sc_step.nd rfl (.inl rfl) (pe_op op_addY pe_int (pe_call G_pick (hr.mono (by omega)) (by rfl) T.g_pick T.F_pick.kp T.b_pick .nil pass0 (pa_cons (xv 0) (pa_cons pe_int pa_nil)))))
      (pss_cons (xs_if (xt_cmp (op_eqK K hr.units) (pe_call G_pick (hr.mono (by omega)) (by rfl) T.g_pick T.F_pick.kp T.b_pick .nil pass0 (pa_cons (xv 0) (pa_cons pe_int pa_nil))) pe_int (nomark _))
      (pss_one (ps_ret (pe_tup (pa_cons (xv 1) pa_nil))))
      pss_nil)
      (pss_one (ps_ret (pe_tup (pa_cons (xv 1) (pa_cons (pe_call G_pick (hr.mono (by omega)) (by rfl) T.g_pick T.F_pick.kp T.b_pick .nil pass0 (pa_cons (xv 0) (pa_cons pe_int pa_nil))) (pa_cons (pe_call G_pick (hr.mono (by omega)) (by rfl) T.g_pick T.F_pick.kp T.b_pick .nil pass0 (pa_cons (xv 0) (pa_cons pe_int pa_nil))) pa_nil)))))))), ?_⟩
    refine ⟨G, _, b, o, 15, rfl, S, B, by decide, by decide, fun r1 o1 H1 r10 r11 B1 S1 => ⟨G, _, b, o1, 2, rfl, S1, B1, by decide, by decide, fun r2 o2 H2 r20 r21 B2 S2 => ⟨fun _ => ?_, fun _ => ?_⟩⟩⟩
    · refine ⟨sz, fun p np => ?_⟩
      obtain ⟨G3, s3, S3, h3⟩ := Sep.mk (o := .tup [.int (1 + r1)]) S2 np
      exact q p [1 + r1] o2 G3 _ s3 h3 (B2.same s3) S3
    · refine ⟨G, _, b, o2, 10, rfl, S2, B2, by decide, by decide, fun r3 o3 H3 _ _ B3 S3 => ⟨G, _, b, o3, 5, rfl, S3, B3, by decide, by decide, fun r4 o4 H4 _ _ B4 S4 => ⟨sz, fun p np => ?_⟩⟩⟩
      obtain ⟨G5, s5, S5, h5⟩ := Sep.mk (o := .tup [.int (1 + r1), .int r3, .int r4]) S4 np
      exact q p [1 + r1, r3, r4] o4 G5 _ s5 h5 (B4.same s5) S5
def spOwner : Sp := fun vs H Q _ => ∃ (G : Hp) (M : List (Addr × HO)) (b : Addr) (o : HO) (ol : Addr) (os : List V), vs = [.ref b, .ref ol] ∧ Sep G ((b, o) :: (ol, .lst os) :: M) H ∧ Bag G o ∧ (∀ v ∈ os, OwAt G v) ∧ os.length ≤ 100 ∧
  ∀ (v : V) (o' : HO) (G' H' : Hp), Same G G' → OwAt G' v → Bag G' o' → Sep G' ((b, o') :: (ol, .lst os) :: M) H' → Q v H'
theorem ok_owner (T : Top K mg w) {k : Nat} (G_pick : FnOk P w K mg base CX0 k T.a_pick T.d_pick ["_law_bag_here", "_law_many"] spPick) (G_step : FnOk P w K mg base CX0 (k + 1) T.a_step T.d_step ["_law_bag_here"] spStep) : FnOk P w K mg base CX0 (k + 2) T.a_owner T.d_owner ["_law_bag_here", "_law_owners"] spOwner := by
  refine T.F_owner.ok sc_owner (fun vs H Q E h => ?_) (fun cdv A outer s H vs Q E hr h => ?_)
  · obtain ⟨G, M, b, o, ol, os, rfl, _⟩ := h
    rfl
  · obtain ⟨G, M, b, o, ol, os, rfl, S, B, ho, ll, q⟩ := h
    refine ⟨_, (pss_cons (ps_setLc (i := 2) (own := [("_law_step_here", 3)]) (by rfl) sc_owner.nd rfl rfl (sw_true rfl rfl rfl (by decide +kernel)) (pi_range1 (by rfl) T.m_range (pa_cons (pe_call G_pick (hr.mono (by omega)) (by rfl) T.g_pick T.F_pick.kp T.b_pick .nil pass0 (pa_cons (xv 0) (pa_cons pe_int pa_nil))) pa_nil)) (blkOk_by (N := ["_law_bag_here", "_law_owners", "_law_steps", "_law_step_here"]) (sc := defScope s_owner) (by decide +kernel)) (fun _ _ _ _ _ => (pg_name (i := 3) sc_owner.nd rfl (.inl rfl))) (fun _ _ _ _ _ => pts_nil) (fun _ _ _ _ _ => (pe_call G_step (hr.mono (by omega)) (by rfl) T.g_step T.F_step.kp T.b_step .nil pass0 (pa_cons (xv 0) pa_nil))))
      (xss_cut (xs_if (PW.pt (xw_and (xt_truK K (xv 1)) (pw_and1 (xt_cmp (op_eqK K hr.units) (pe_call G_pick (hr.mono (by omega)) (by rfl) T.g_pick T.F_pick.kp T.b_pick .nil pass0 (pa_cons (xv 0) (pa_cons pe_int pa_nil))) pe_int (nomark _)))))
      (pss_cons (ps_set (i := 2) sc_owner.nd rfl (.inl rfl) (pe_callTy (call_listK K) (by rfl) T.m_list (by decide +kernel) (pa_cons (pe_ix (ix_k K) (xv 1) (pe_call G_pick (hr.mono (by omega)) (by rfl) T.g_pick T.F_pick.kp T.b_pick .nil pass0 (pa_cons (xv 0) (pa_cons (pe_callB (cr_lenK K) (by rfl) T.m_len (by decide +kernel) (pa_cons (xv 1) pa_nil)) pa_nil))) (fun _ _ => rfl)) pa_nil)))
      (xss_cut (xs_if (PW.pt (xw_and (xt_truK K (xv 2)) (pw_and1 (PW.pt (xw_or (xt_cmp (op_eqK K hr.units) (pe_callB (cr_lenK K) (by rfl) T.m_len (by decide +kernel) (pa_cons (xv 2) pa_nil)) pe_int (nomark _)) (pw_or1 (xt_cmp (op_eqK K hr.units) (pe_call G_pick (hr.mono (by omega)) (by rfl) T.g_pick T.F_pick.kp T.b_pick .nil pass0 (pa_cons (xv 0) (pa_cons pe_int pa_nil))) pe_int (nomark _))))))))
      (pss_one (ps_expr (pe_bm0 PySem.F.plainAttrs_list PySem.F.slot_list_pop PySem.F.type_list_pop mt_pop (xv 2))))
      pss_nil)
      (pss_one (ps_expr (pe_bmK K PySem.F.plainAttrs_list PySem.F.slot_list_append PySem.F.type_list_append mt_append (xv 2) (pa_cons (pe_call G_step (hr.mono (by omega)) (by rfl) T.g_step T.F_step.kp T.b_step .nil pass0 (pa_cons (xv 0) pa_nil)) pa_nil))))))
      pss_nil)
      (pss_one (ps_ret (pe_callTy (call_tupleK K) (by rfl) T.m_tuple (by decide +kernel) (pa_cons (xv 2) pa_nil)))))), ?_⟩
    refine ⟨G, _, b, o, 4, rfl, S, B, by decide, by decide, fun r1 o1 H1 r10 r11 B1 S1 => ⟨_, rfl, by omega, by omega, fun D nD => lc_range (lo := 0) (n := r1.toNat) (fun i H' => ∃ (o' : HO) (us : List V) (G' : Hp), Same G G' ∧ us.length = i ∧ Steps G' us ∧ Bag G' o' ∧ Sep G' ((D, .lst us) :: (b, o') :: (ol, .lst os) :: M) H')
      ⟨o1, [], G, Same.refl _, rfl, (fun _ h => nomatch h), B1, S1.new nD⟩ (fun i H' hi p => ?_) (fun H2 p => ?_)⟩⟩
    · obtain ⟨o', us, G', s', ul, hu, B', S'⟩ := p
      refine ⟨rfl, G', _, b, o', rfl, S'.sw, B', fun p z o2 G2 H2 s2 h2 B2 S2 => ⟨_, S2.sw.hd, smallL (by omega), o2, _, G2, s'.trans s2, by rw [List.length_append, ul]; rfl, (hu.same s2).snoc h2, B2, S2.sw.set⟩⟩
    obtain ⟨o2, us, G2, s2, ul, hu, B2, S2⟩ := p
    have u3 : us.length ≤ 3 := by omega
    refine ⟨fun σ H' => ∃ (y3 : Option V) (o' : HO) (D' : Addr) (us' : List V) (G' : Hp), σ = [some (.ref b), some (.ref ol), some (.ref D'), y3] ∧ Same G G' ∧ us'.length ≤ 5 ∧ Steps G' us' ∧ Bag G' o' ∧ Sep G' ((D', .lst us') :: (b, o') :: (ol, .lst os) :: M) H', ?_, fun σ H4 h => ?_⟩
    · have stay : ∀ (o' : HO) (H' : Hp), Bag G2 o' → Sep G2 ((D, .lst us) :: (b, o') :: (ol, .lst os) :: M) H' → ∃ (y3 : Option V) (o' : HO) (D' : Addr) (us' : List V) (G' : Hp), ([some (.ref b), some (.ref ol), some (.ref D), none] : List (Option V)) = [some (.ref b), some (.ref ol), some (.ref D'), y3] ∧ Same G G' ∧ us'.length ≤ 5 ∧ Steps G' us' ∧ Bag G' o' ∧ Sep G' ((D', .lst us') :: (b, o') :: (ol, .lst os) :: M) H' :=
        fun o' H' B' S' => ⟨_, o', D, us, G2, rfl, s2, by omega, hu, B', S'⟩
      refine ⟨_, .inl ⟨_, SqL.of S2.drop.sw.hd, rfl⟩, fun ne => ⟨G2, _, b, o2, 3, rfl, S2.sw, B2, by decide, by decide, fun r4 o4 H4 _ _ B4 S4 => ⟨fun _ => ?_, fun _ => stay o4 H4 B4 S4.sw⟩⟩, fun _ => ⟨ff, fun _ => stay o2 _ B2 S2⟩⟩
      have z0 : 0 < os.length := by
        cases os with
        | nil => cases ne
        | cons _ _ => simp
      have S4 := S4.sw.drop
      refine ⟨_, .inl (SqL.of S4.sw.hd), G2, _, b, o4, _, rfl, S4, B4, by omega, by omega, fun r5 o5 H5 r50 r51 B5 S5 => ?_⟩
      obtain ⟨v5, hv5, hm5⟩ := atI_in r50 r51
      obtain ⟨a5, u5, rfl, h5, l5, k5⟩ := (ho v5 hm5).same s2
      refine ⟨_, _, .inl (SqL.of S5.sw.hd), hv5, a5, u5, rfl, .inr (SqT.of (S5.st h5)), fun D2 nD2 => ?_⟩
      have S6 := S5.new (o := .lst u5) nD2
      refine ⟨fun σ H' => ∃ (o' : HO) (us' : List V), σ = [some (.ref b), some (.ref ol), some (.ref D2), none] ∧ us'.length ≤ 4 ∧ Steps G2 us' ∧ Bag G2 o' ∧ Sep G2 ((D2, .lst us') :: (b, o') :: (ol, .lst os) :: M) H', ?_, fun σ H7 h => ?_⟩
      · have dk : Steps G2 u5.dropLast := fun u h => k5 u (List.dropLast_subset _ h)
        refine ⟨_, .inl ⟨_, SqL.of S6.hd, rfl⟩, fun ne => ?_, fun e0 => ⟨ff, fun _ => ?_⟩⟩
        · have n0 : u5.length ≠ 0 := by
            cases u5 with
            | nil => cases ne
            | cons _ _ => simp
          refine ⟨_, .inl (SqL.of S6.hd), fun e5 => ?_, fun e5 => ?_⟩
          · have hy := List.getElem?_eq_getElem (show u5.length - 1 < u5.length by omega)
            exact ⟨fun _ => ⟨.inl ⟨rfl, _, SqL.of S6.hd⟩, D2, u5, _, rfl, rfl, S6.hd, hy, o5, _, rfl, by rw [List.length_dropLast]; omega, dk, B5, S6.set⟩, tt⟩
          · have l4 : u5.length ≤ 4 := by
              have z := of_decide_eq_false e5
              omega
            exact ⟨G2, _, b, o5, 2, rfl, S6.sw, B5, by decide, by decide, fun r7 o7 H7 _ _ B7 S7 => ⟨fun _ => ⟨.inl ⟨rfl, _, SqL.of S7.sw.hd⟩, D2, u5, _, rfl, rfl, S7.sw.hd, List.getElem?_eq_getElem (show u5.length - 1 < u5.length by omega), o7, _, rfl, by rw [List.length_dropLast]; omega, dk, B7, S7.sw.set⟩, fun _ => ⟨o7, u5, rfl, l4, k5, B7, S7.sw⟩⟩⟩
        · have e : u5 = [] := by
            cases u5 with
            | nil => rfl
            | cons _ _ => cases e0
          exact ⟨o5, u5, rfl, by rw [e]; decide, k5, B5, S6⟩
      · obtain ⟨o7, us7, rfl, l7, k7, B7, S7⟩ := h
        refine ⟨.inl ⟨rfl, _, SqL.of S7.hd⟩, G2, _, b, o7, rfl, S7.sw, B7, fun p z o8 G8 H8 s8 h8 B8 S8 => ⟨D2, _, _, rfl, rfl, S8.sw.hd, smallL (by omega), ?_⟩⟩
        exact ⟨_, o8, D2, _, G8, rfl, s2.trans s8, by rw [List.length_append]; simp; omega, (k7.same s8).snoc h8, B8, S8.sw.set⟩
    · obtain ⟨y3, o4, D4, u4, G4, rfl, s4, l4, k4, B4, S4⟩ := h
      refine ⟨D4, u4, rfl, .inl ⟨SqL.of S4.hd, fun p np => ?_⟩⟩
      obtain ⟨G5, s5, S5, h5⟩ := Sep.mk (o := .tup u4) S4 np
      exact q _ o4 G5 _ (s4.trans s5) ⟨p, u4, rfl, h5, l4, k4.same s5⟩ (B4.same s5) S5.drop

end
end K44
set_option Elab.async false
set_option linter.all false
set_option maxRecDepth 100000
set_option maxHeartbeats 4000000
namespace K44
open PySem PySem.Spec PyProof.Rows L2 XL
section
variable {P : Program} {w : World} {K : PySem.W.Frag} {mg : Str → Option Value} {base : Heap}
/-! ### the store, a model; entries and rows alike -/
def spStore : Sp := fun vs H Q _ => ∃ (G : Hp) (M : List (Addr × HO)) (b : Addr) (o : HO), vs = [.ref b] ∧ Sep G ((b, o) :: M) H ∧ Bag G o ∧
  ∀ (a : Addr) (zs : List (List Int)) (o' : HO) (G' H' : Hp), Same G G' → StAt G' a zs → 1 ≤ zs.length → zs.length ≤ 3 → Bag G' o' → Sep G' ((b, o') :: M) H' → Q (.ref a) H'
theorem ok_store (T : Top K mg w) {k : Nat} (G_pick : FnOk P w K mg base CX0 k T.a_pick T.d_pick ["_law_bag_here", "_law_many"] spPick) : FnOk P w K mg base CX0 (k + 1) T.a_store T.d_store ["_law_bag_here"] spStore := by
  refine T.F_store.ok sc_store (fun vs H Q E h => ?_) (fun cdv A outer s H vs Q E hr h => ?_)
  · obtain ⟨G, M, b, o, rfl, _⟩ := h
    rfl
  · obtain ⟨G, M, b, o, rfl, S, B, q⟩ := h
    refine ⟨_, (pss_cons (ps_set (i := 1) sc_store.nd rfl (.inl rfl) (pe_lst pa_nil))
      (pss_cons (ps_for PassesOwn.never rfl (pi_range1 (by rfl) T.m_range (pa_cons (pe_op op_addY pe_int (pe_call G_pick (hr.mono (by omega)) (by rfl) T.g_pick T.F_pick.kp T.b_pick .nil pass0 (pa_cons (xv 0) (pa_cons pe_int pa_nil)))) pa_nil)) (pg_name (i := 2) sc_store.nd rfl (.inl rfl))
      (pss_one (ps_expr (pe_bmK K PySem.F.plainAttrs_list PySem.F.slot_list_append PySem.F.type_list_append mt_append (xv 1) (pa_cons (pe_callTy (call_tupleK K) (by rfl) T.m_tuple (by decide +kernel) (pa_cons (pe_lc (own := [("_law_question", 3)]) (by rfl) sc_store.nd (pi_range1 (by rfl) T.m_range (pa_cons pe_int pa_nil)) (blkOk_by (N := ["_law_bag_here", "_law_out", "_law_edition", "_law_question"]) (sc := defScope s_store) (by decide +kernel)) (fun _ _ _ _ _ => (pg_name (i := 3) sc_store.nd rfl (.inl rfl))) (fun _ _ _ _ _ => pts_nil) (fun _ _ _ _ _ => (pe_op op_addY pe_int (pe_call G_pick (hr.mono (by omega)) (by rfl) T.g_pick T.F_pick.kp T.b_pick .nil pass0 (pa_cons (xv 0) (pa_cons pe_int pa_nil)))))) pa_nil)) pa_nil)))))
      (pss_one (ps_ret (pe_callTy (call_tupleK K) (by rfl) T.m_tuple (by decide +kernel) (pa_cons (xv 1) pa_nil)))))), ?_⟩
    refine ⟨sz, fun L nL => ?_⟩
    have S1 := (S.new (o := .lst []) nL).sw
    refine ⟨G, _, b, o, 3, rfl, S1, B, by decide, by decide, fun r1 o1 H1 r10 r11 B1 S2 => ⟨_, rfl, by omega, by omega, for_range (lo := 0) (n := (1 + r1).toNat) (fun i σ H' => ∃ (y2 y3 : Option V) (o' : HO) (us : List V) (zs : List (List Int)) (G' : Hp), σ = [some (.ref b), some (.ref L), y2, y3] ∧ Same G G' ∧ zs.length = i ∧
      Paired (fun v (z : List Int) => ∃ r, v = .ref r ∧ G' r = some (.tup (z.map V.int)) ∧ z.length = 4) us zs ∧ Bag G' o' ∧ Sep G' ((b, o') :: (L, .lst us) :: M) H') ⟨_, _, o1, [], [], G, rfl, Same.refl _, rfl, .nil, B1, S2⟩ (fun i σ H' hi h => ?_) (fun σ H' h => ?_)⟩⟩
    · obtain ⟨y2, y3, o', us, zs, G', rfl, s', zl, pu, B', S'⟩ := h
      have ul := prd_len pu
      refine ⟨.inl ⟨rfl, _, SqL.of S'.sw.hd⟩, 4, rfl, by decide, by decide, fun D nD => lc_range (lo := 0) (n := (4 : Int).toNat) (fun j H2 => ∃ (o2 : HO) (z : List Int), z.length = j ∧ Bag G' o2 ∧ Sep G' ((D, .lst (z.map V.int)) :: (b, o2) :: (L, .lst us) :: M) H2) ⟨o', [], rfl, B', S'.new nD⟩ (fun j H2 hj p => ?_) (fun H2 p => ?_)⟩
      · obtain ⟨o2, z, zl2, B2, S2⟩ := p
        have hj : j < 4 := hj
        refine ⟨rfl, G', _, b, o2, 3, rfl, S2.sw, B2, by decide, by decide, fun r3 o3 H3 _ _ B3 S3 => ⟨_, S3.sw.hd, by rw [List.length_map]; exact smallL (by omega), o3, z ++ [1 + r3], by rw [List.length_append, zl2]; rfl, B3, ?_⟩⟩
        rw [List.map_append]
        exact S3.sw.set
      · obtain ⟨o2, z, zl2, B2, S2⟩ := p
        refine ⟨D, _, rfl, .inl ⟨SqL.of S2.hd, fun p np => ?_⟩⟩
        obtain ⟨G3, s3, S3, h3⟩ := Sep.mk (o := .tup (z.map V.int)) S2 np
        have S4 := S3.drop.sw
        refine ⟨L, us, _, rfl, rfl, S4.hd, smallL (by omega), _, _, o2, _, zs ++ [z], G3, rfl, s'.trans s3, by rw [List.length_append, zl]; rfl, ?_, B2.same s3, (S4.set).sw⟩
        exact prd_app (prd_imp (fun _ _ ⟨r, k1, k2, k3⟩ => ⟨r, k1, s3 _ _ k2, k3⟩) pu) (.cons ⟨p, rfl, h3, zl2⟩ .nil)
    · obtain ⟨y2, y3, o', us, zs, G', rfl, s', zl, pu, B', S'⟩ := h
      refine ⟨L, _, rfl, .inl ⟨SqL.of S'.sw.hd, fun p np => ?_⟩⟩
      obtain ⟨G3, s3, S3, h3⟩ := Sep.mk (o := .tup us) S' np
      exact q p zs o' G3 _ (s'.trans s3) ⟨us, h3, prd_imp (fun _ _ ⟨r, k1, k2, k3⟩ => ⟨r, k1, s3 _ _ k2, k3⟩) pu⟩ (by omega) (by omega) (B'.same s3) S3.sw.drop
def spNewM : Sp := fun vs H Q _ => ∃ (G : Hp) (M : List (Addr × HO)) (b : Addr) (o : HO), vs = [.ref b] ∧ Sep G ((b, o) :: M) H ∧ Bag G o ∧
  ∀ (m r sa : Addr) (zs : List (List Int)) (rm : Int) (o' : HO) (G' H' : Hp), Same G G' → G' r = some (.lst []) → StAt G' sa zs → 1 ≤ zs.length → zs.length ≤ 3 → 1 ≤ rm → rm ≤ 3 → Bag G' o' → Sep G' ((m, .lst [.ref r, .int 0, .int 0, .ref sa, .int rm]) :: (b, o') :: M) H' → Q (.ref m) H'
theorem ok_new_model (T : Top K mg w) {k : Nat} (G_pick : FnOk P w K mg base CX0 k T.a_pick T.d_pick ["_law_bag_here", "_law_many"] spPick) (G_store : FnOk P w K mg base CX0 (k + 1) T.a_store T.d_store ["_law_bag_here"] spStore) : FnOk P w K mg base CX0 (k + 2) T.a_new_model T.d_new_model ["_law_bag_here"] spNewM := by
  refine T.F_new_model.ok sc_new_model (fun vs H Q E h => ?_) (fun cdv A outer s H vs Q E hr h => ?_)
  · obtain ⟨G, M, b, o, rfl, _⟩ := h
    rfl
  · obtain ⟨G, M, b, o, rfl, S, B, q⟩ := h
    refine ⟨_, (pss_one (ps_ret (pe_lst (pa_cons (pe_lst pa_nil) (pa_cons pe_int (pa_cons pe_int (pa_cons (pe_call G_store (hr.mono (by omega)) (by rfl) T.g_store T.F_store.kp T.b_store .nil pass0 (pa_cons (xv 0) pa_nil)) (pa_cons (pe_op op_addY pe_int (pe_call G_pick (hr.mono (by omega)) (by rfl) T.g_pick T.F_pick.kp T.b_pick .nil pass0 (pa_cons (xv 0) (pa_cons pe_int pa_nil)))) pa_nil)))))))), ?_⟩
    refine ⟨sz, fun r nr => ?_⟩
    obtain ⟨G1, s1, S1, h1⟩ := Sep.mk (o := .lst []) S nr
    refine ⟨G1, _, b, o, rfl, S1, B.same s1, fun a zs o2 G2 H2 s2 st z1 z3 B2 S2 => ?_⟩
    refine ⟨G2, _, b, o2, 3, rfl, S2, B2, by decide, by decide, fun r3 o3 H3 r30 r31 B3 S3 => ⟨sz, fun m nm => ?_⟩⟩
    exact q m r a zs _ o3 G2 _ (s1.trans s2) (s2 _ _ h1) st z1 z3 (by omega) (by omega) B3 (S3.new nm)
theorem ow_data {G : Hp} {a : Addr} (h : OwAt G (.ref a)) : ∃ d, Dp K G (.ref a) d ∧ SeqAt.shaped d = true := by
  obtain ⟨_, us, e, h1, l5, h2⟩ := h
  cases e
  have all : ∀ us : List V, (∀ u ∈ us, ∃ (r : Addr) (s : List Int), u = V.ref r ∧ G r = some (.tup (s.map V.int))) → ∃ ds, DpAll K G us ds ∧ PyData.canLayAll0 ds = true ∧ PyData.depthAll ds ≤ 1 := by
    intro us
    induction us with
    | nil => exact fun _ => ⟨[], .nil, by simp [PyData.canLayAll0], by simp [PyData.depthAll]⟩
    | cons u us ih =>
      intro h
      obtain ⟨ds, k1, k2, k3⟩ := ih fun u hu => h u (List.mem_cons_of_mem _ hu)
      obtain ⟨r, s, rfl, hr⟩ := h u List.mem_cons_self
      have dep : ∀ s : List Int, PyData.depthAll (s.map PyData.int) = 0 := by
        intro s
        induction s with
        | nil => simp [PyData.depthAll]
        | cons _ _ ih => simp [PyData.depthAll, PyData.depth, ih]
      refine ⟨.tuple (s.map PyData.int) :: ds, .cons (.tup (SqT.of hr) (ints_dp s)) k1, ?_, ?_⟩
      · simp [PyData.canLayAll0, PyData.canLay0, ints_can, k2]
      · simp [PyData.depthAll, PyData.depth, dep]
        exact Nat.max_le.mpr ⟨Nat.le_refl _, k3⟩
  obtain ⟨ds, k1, k2, k3⟩ := all us h2
  refine ⟨.tuple ds, .tup (SqT.of h1) k1, ?_⟩
  simp [SeqAt.shaped, PyData.canLay0, PyData.depth, k2]
  omega
theorem eqv_sh {d : PyData} (h : SeqAt.shaped d = true) : PyData.eqv d d = true := SeqAt.eqv_refl d (SeqAt.canLay_of_shaped h)
def spSameE (Ce : Addr) : Sp := fun vs H Q _ => ∃ (G : Hp) (M : List (Addr × HO)) (u v : V) (r : Rw), vs = [u, v] ∧ Sep G M H ∧ EnAt G Ce u r ∧ RwAt G v r ∧ ∀ G' H', Same G G' → Sep G' M H' → Q (.bl true) H'
theorem nd {d : PyData} {A : Prop} (h : SeqAt.shaped d = true) (e : (!PyData.eqv d d) = true) : A := by
  rw [eqv_sh h] at e
  cases e
theorem ok_same_entry (T : Top K mg w) {k : Nat} (G_number : FnOk P w K mg base CX0 (k + 1) T.a_number T.d_number ["_law_thing"] spNumber) : FnOk P w K mg base CX0 (k + 2) T.a_same_entry T.d_same_entry ["_law_entry", "_law_row"] (spSameE T.C_Entry) := by
  refine T.F_same_entry.ok sc_same_entry (fun vs H Q E h => ?_) (fun cdv A outer s H vs Q E hr h => ?_)
  · obtain ⟨G, M, u, v, r, rfl, _⟩ := h
    rfl
  · obtain ⟨G, M, _, _, r, rfl, S, ⟨e, de, rfl, he, hw⟩, ⟨a, rfl, ha, _⟩, q⟩ := h
    refine ⟨_, (pss_cons (xs_if (PW.pt (xw_or (pt_not (xt_truK K (pe_callB (call_isK K) (by rfl) T.m_isinstance (by decide +kernel) (pa_cons (xv 0) (pa_cons (pe_glob (v := .ref T.C_Entry) (by rfl) T.g_Entry rfl) pa_nil))))) (xw_or (xt_cmp (op_neK K hr.units) (pe_fldK K (xv 0)) (pe_ix (ix_k K) (xv 1) pe_int (fun _ _ => rfl)) (nomark _)) (pw_or1 (xt_cmp (op_neK K hr.units) (pe_fldK K (xv 0)) (pe_ix (ix_k K) (xv 1) pe_int (fun _ _ => rfl)) (nomark _))))))
      (pss_one (ps_ret pe_bl))
      pss_nil)
      (pss_cons (xs_if (PW.pt (xw_or (pt_not (xt_truK K (pe_call G_number (hr.mono (by omega)) (by rfl) T.g_number T.F_number.kp T.b_number .nil pass0 (pa_cons (pe_fldK K (xv 0)) pa_nil)))) (xw_or (pt_not (xt_truK K (pe_call G_number (hr.mono (by omega)) (by rfl) T.g_number T.F_number.kp T.b_number .nil pass0 (pa_cons (pe_fldK K (xv 0)) pa_nil)))) (pw_or1 (pt_not (xt_truK K (pe_call G_number (hr.mono (by omega)) (by rfl) T.g_number T.F_number.kp T.b_number .nil pass0 (pa_cons (pe_fldK K (xv 0)) pa_nil))))))))
      (pss_one (ps_ret pe_bl))
      pss_nil)
      (pss_cons (xs_if (PW.pt (xw_or (pt_not (xt_truK K (pe_call G_number (hr.mono (by omega)) (by rfl) T.g_number T.F_number.kp T.b_number .nil pass0 (pa_cons (pe_fldK K (xv 0)) pa_nil)))) (pw_or1 (pt_not (xt_truK K (pe_callB (call_isK K) (by rfl) T.m_isinstance (by decide +kernel) (pa_cons (pe_fldK K (xv 0)) (pa_cons (pe_bltn (v := .ty "tuple") (by rfl) T.m_tuple (by decide +kernel) rfl) pa_nil))))))))
      (pss_one (ps_ret pe_bl))
      pss_nil)
      (pss_one (ps_ret (pe_cmpR (op_eqK K hr.units) (pe_tup (pa_cons (pe_fldK K (xv 0)) (pa_cons (pe_fldK K (xv 0)) (pa_cons (pe_fldK K (xv 0)) (pa_cons (pe_fldK K (xv 0)) pa_nil))))) (pe_slice (sl_tupAK K) (xv 1) (po_some pe_int) po_none) (nomark _))))))), ?_⟩
    obtain ⟨ow, wd, who, tk, qu, an⟩ := r
    have hw' := hw
    obtain ⟨oa, us, eo, ho, _⟩ := hw'
    have eo : ow = .ref oa := eo
    subst eo
    obtain ⟨d, hd, sd⟩ := ow_data (K := K) (hw.same S.1)
    have he := S.st he
    have ha0 := ha
    have ha := S.st ha
    refine ⟨_, _, _, _, true, rfl, .own _, .base (.ins he T.cl_Entry T.ty_Entry.1 T.ty_Entry.2.1 T.ty_Entry.2.2.1 T.ty_Entry.2.2.2.1), T.ty_Entry.2.2.2.2, ⟨ff, fun _ => ?_⟩⟩
    have r4 : SeqAt.shaped (.tuple [.int who, .int tk, .int qu, .int an]) = true := by simp [SeqAt.shaped, PyData.canLay0, PyData.canLayAll0, PyData.depth, PyData.depthAll]
    refine ⟨e, T.C_Entry, de, _, _, rfl, he, T.cl_Entry, T.na_Entry_owner, enF_ow, _, _, .inr (SqT.of ha), rfl, d, d, hd, hd, sd, sd, ⟨fun z => nd sd z, fun _ => ?_⟩⟩
    refine ⟨e, T.C_Entry, de, _, _, rfl, he, T.cl_Entry, T.na_Entry_word, enF_wd, _, _, .inr (SqT.of ha), rfl, ⟨fun z => ?_, fun _ => ?_⟩⟩
    · have z : (!decide (wd = wd)) = true := z
      rw [decide_eq_true rfl] at z
      cases z
    refine ⟨e, T.C_Entry, de, _, _, rfl, he, T.cl_Entry, T.na_Entry_who, enF_who, _, rfl, ⟨ff, fun _ => ?_⟩⟩
    refine ⟨e, T.C_Entry, de, _, _, rfl, he, T.cl_Entry, T.na_Entry_ticket, enF_tk, _, rfl, ⟨ff, fun _ => ?_⟩⟩
    refine ⟨e, T.C_Entry, de, _, _, rfl, he, T.cl_Entry, T.na_Entry_question, enF_qu, _, rfl, ⟨ff, fun _ => ?_⟩⟩
    refine ⟨e, T.C_Entry, de, _, _, rfl, he, T.cl_Entry, T.na_Entry_answer, enF_an, _, rfl, ⟨ff, fun _ => ?_⟩⟩
    refine ⟨e, T.C_Entry, de, _, _, rfl, he, T.cl_Entry, T.na_Entry_owner, enF_ow, _, _, _, _, true, rfl, .ty _, .base (.tup (S.st ho)), kit_ty (by decide +kernel), ⟨ff, fun _ => ?_⟩⟩
    refine ⟨e, T.C_Entry, de, _, _, rfl, he, T.cl_Entry, T.na_Entry_who, enF_who, e, T.C_Entry, de, _, _, rfl, he, T.cl_Entry, T.na_Entry_ticket, enF_tk, e, T.C_Entry, de, _, _, rfl, he, T.cl_Entry, T.na_Entry_question, enF_qu, e, T.C_Entry, de, _, _, rfl, he, T.cl_Entry, T.na_Entry_answer, enF_an, sz, fun t nt => ?_⟩
    obtain ⟨G1, s1, S1, h1⟩ := Sep.mk (o := .tup [.int who, .int tk, .int qu, .int an]) S nt
    refine ⟨2, rfl, a, _, rfl, SqT.of (S1.st (s1 _ _ ha0)), fun z => ?_, fun _ p np => ?_⟩
    · exact absurd z.1 (show ¬ (HT.sIx 6 0 (some 2) = 0) by decide)
    obtain ⟨G2, s2, S2, h2⟩ := Sep.mk (o := .tup (cutV (Rw.tup ⟨.ref oa, wd, who, tk, qu, an⟩) (some 2) none)) S1 np
    have d4 : ∀ {a : Addr}, upd (upd H t (.tup [.int who, .int tk, .int qu, .int an])) p (.tup (cutV (Rw.tup ⟨.ref oa, wd, who, tk, qu, an⟩) (some 2) none)) a = some (.tup [.int who, .int tk, .int qu, .int an]) → Dp K (upd (upd H t (.tup [.int who, .int tk, .int qu, .int an])) p (.tup (cutV (Rw.tup ⟨.ref oa, wd, who, tk, qu, an⟩) (some 2) none))) (.ref a) (.tuple [.int who, .int tk, .int qu, .int an]) :=
      fun h => .tup (SqT.of h) (.cons (.int _) (.cons (.int _) (.cons (.int _) (.cons (.int _) .nil))))
    refine ⟨_, _, d4 (S2.st (s2 _ _ h1)), d4 (S2.st h2), r4, r4, ?_⟩
    have z := q G2 _ (s1.trans s2) S2
    rw [← eqv_sh r4] at z
    exact z

end
end K44
set_option Elab.async false
set_option linter.all false
set_option maxRecDepth 100000
set_option maxHeartbeats 4000000
namespace K44
open PySem PySem.Spec PyProof.Rows L2 XL
section
variable {P : Program} {w : World} {K : PySem.W.Frag} {mg : Str → Option Value} {base : Heap}
/-! ### a line and its model -/
structure Pp where
  (x dx l m r sa : Addr)
  (ws vs : List V)
  rows : List Rw
  zs : List (List Int)
  (tk rm : Int)
  j : Nat
def Pp.cells (C : Addr) (p : Pp) : List (Addr × HO) := [(p.x, .ins C p.dx (lnF p.sa p.rm p.l p.tk (p.j : Nat))), (p.l, .lst p.ws), (p.m, .lst [.ref p.r, .int p.tk, .int (p.j : Nat), .ref p.sa, .int p.rm])]
structure Pp.ok (G : Hp) (p : Pp) : Prop where
  w : Paired (RwAt G) p.ws p.rows
  r : G p.r = some (.lst p.vs)
  v : Paired (RwAt G) p.vs p.rows
  st : StAt G p.sa p.zs
  z3 : p.zs.length ≤ 3
  j : p.j < p.zs.length
  r1 : 1 ≤ p.rm
  r3 : p.rm ≤ 3
  len : (p.rows.length : Int) ≤ p.rm
theorem Pp.ok.same {G G' : Hp} {p : Pp} (e : Same G G') (h : p.ok G) : p.ok G' := ⟨rws_same e h.w, e _ _ h.r, rws_same e h.v, h.st.same e, h.z3, h.j, h.r1, h.r3, h.len⟩
section
variable {G H : Hp} {x l m b : Addr × HO} {M : List (Addr × HO)}
theorem p_m (S : Sep G (x :: l :: m :: M) H) : Sep G (m :: x :: l :: M) H := S.perm (List.perm_append_comm_assoc [x, l] [m] M)
theorem p_m2 (S : Sep G (m :: x :: l :: M) H) : Sep G (x :: l :: m :: M) H := S.perm (List.perm_append_comm_assoc [m] [x, l] M)
theorem p_b (S : Sep G (b :: x :: l :: m :: M) H) : Sep G (x :: l :: m :: b :: M) H := S.perm (List.perm_append_comm_assoc [b] [x, l, m] M)
theorem p_b2 (S : Sep G (x :: l :: m :: b :: M) H) : Sep G (b :: x :: l :: m :: M) H := S.perm (List.perm_append_comm_assoc [x, l, m] [b] M)
theorem p_bm (S : Sep G (b :: x :: l :: m :: M) H) : Sep G (m :: b :: x :: l :: M) H := S.perm (List.perm_append_comm_assoc [b, x, l] [m] M)
theorem p_bm2 (S : Sep G (m :: b :: x :: l :: M) H) : Sep G (b :: x :: l :: m :: M) H := S.perm (List.perm_append_comm_assoc [m] [b, x, l] M)
theorem p_xl (S : Sep G (b :: x :: l :: m :: M) H) : Sep G (x :: l :: b :: m :: M) H := S.perm (List.perm_append_comm_assoc [b] [x, l] (m :: M))
theorem p_xl2 (S : Sep G (x :: l :: b :: m :: M) H) : Sep G (b :: x :: l :: m :: M) H := S.perm (List.perm_append_comm_assoc [x, l] [b] (m :: M))
end
def spSameL (C : Addr) : Sp := fun vs H Q _ => ∃ (G : Hp) (M : List (Addr × HO)) (p : Pp), vs = [.ref p.x, .ref p.m] ∧ Sep G (p.cells C ++ M) H ∧ p.ok G ∧ ∀ G' H', Same G G' → Sep G' (p.cells C ++ M) H' → Q (.bl true) H'
theorem ok_same_line (T : Top K mg w) {k : Nat} (G_number : FnOk P w K mg base CX0 (k + 1) T.a_number T.d_number ["_law_thing"] spNumber) (G_Line_edition : FnOk P w K mg base CX0 (k + 1) T.a_Line_edition T.d_Line_edition ["self"] (spEd T.C_Line)) (G_same_entry : FnOk P w K mg base CX0 (k + 2) T.a_same_entry T.d_same_entry ["_law_entry", "_law_row"] (spSameE T.C_Entry))
    (G_Line_entries : FnOk P w K mg base CX0 (k + 3) T.a_Line_entries T.d_Line_entries ["self"] (spEntries T.C_Line T.C_Entry)) : FnOk P w K mg base CX0 (k + 4) T.a_same_line T.d_same_line ["_law_line", "_law_model"] (spSameL T.C_Line) := by
  refine T.F_same_line.ok sc_same_line (fun vs H Q E h => ?_) (fun cdv A outer s H vs Q E hr h => ?_)
  · obtain ⟨G, M, p, rfl, _⟩ := h
    rfl
  · obtain ⟨G, M, ⟨x, dx, l, m, r, sa, ws, vs, rows, zs, tk, rm, j⟩, rfl, S, ok, q⟩ := h
    refine ⟨_, (pss_cons (ps_set (i := 2) sc_same_line.nd rfl (.inl rfl) (pe_meth0 (xv 0) T.cl_Line T.me_Line_entries G_Line_entries (hr.mono (by omega)) T.b_Line_entries .nil pass0))
      (pss_cons (xs_if (PW.pt (xw_or (pt_not (xt_truK K (pe_callB (call_isK K) (by rfl) T.m_isinstance (by decide +kernel) (pa_cons (xv 2) (pa_cons (pe_bltn (v := .ty "list") (by rfl) T.m_list (by decide +kernel) rfl) pa_nil))))) (pw_or1 (xt_cmp (op_neK K hr.units) (pe_callB (cr_lenK K) (by rfl) T.m_len (by decide +kernel) (pa_cons (xv 2) pa_nil)) (pe_callB (cr_lenK K) (by rfl) T.m_len (by decide +kernel) (pa_cons (pe_ix (ix_k K) (xv 1) pe_int (fun _ _ => rfl)) pa_nil)) (nomark _)))))
      (pss_one (ps_ret pe_bl))
      pss_nil)
      (pss_cons (ps_for PassesOwn.never rfl (pi_zipK K (by rfl) T.m_zip (pa_cons (xv 2) (pa_cons (pe_ix (ix_k K) (xv 1) pe_int (fun _ _ => rfl)) pa_nil))) (pg_tupK K 2 (pgs_cons (pg_name (i := 3) sc_same_line.nd rfl (.inl rfl)) (pgs_cons (pg_name (i := 4) sc_same_line.nd rfl (.inl rfl)) pgs_nil)))
      (pss_one (xs_if (pt_not (xt_truK K (pe_call G_same_entry (hr.mono (by omega)) (by rfl) T.g_same_entry T.F_same_entry.kp T.b_same_entry .nil pass0 (pa_cons (xv 3) (pa_cons (xv 4) pa_nil)))))
      (pss_one (ps_ret pe_bl))
      pss_nil)))
      (pss_one (ps_ret (xe_and (pe_call G_number (hr.mono (by omega)) (by rfl) T.g_number T.F_number.kp T.b_number .nil pass0 (pa_cons (pe_prop (xv 0) T.cl_Line T.pr_Line_edition G_Line_edition (hr.mono (by omega)) T.b_Line_edition .nil pass0 rfl) pa_nil)) (pe_one (pe_cmpR (op_eqK K hr.units) (pe_prop (xv 0) T.cl_Line T.pr_Line_edition G_Line_edition (hr.mono (by omega)) T.b_Line_edition .nil pass0 rfl) (pe_ix (ix_k K) (xv 1) pe_int (fun _ _ => rfl)) (nomark _))))))))), ?_⟩
    have S : Sep G ((x, .ins T.C_Line dx (lnF sa rm l tk (j : Nat))) :: (l, .lst ws) :: (m, .lst [.ref r, .int tk, .int (j : Nat), .ref sa, .int rm]) :: M) H := S
    have r3 : rm ≤ 3 := ok.r3
    have rl : (rows.length : Int) ≤ rm := ok.len
    refine ⟨x, dx, lnF sa rm l tk (j : Nat), rfl, S.hd, rfl, G, _, x, dx, sa, l, rm, tk, _, ws, rows, rfl, S, ok.w, by omega, fun L es G1 H1 s1 pe S1 => ?_⟩
    have hm1 := S1.drop.drop.drop.hd
    have hr1 : G1 r = some (.lst vs) := s1 _ _ ok.r
    have el := prd_len pe
    have vl : vs.length = rows.length := prd_len ok.v
    refine ⟨_, _, _, _, true, rfl, .ty _, .base (.lst S1.hd), kit_ty (by decide +kernel), ⟨ff, fun _ => ⟨_, .inl (SqL.of S1.hd), _, _, .inl (SqL.of hm1), rfl, _, .inl (SqL.of (S1.st hr1)), fun e => ?_, fun _ => ?_⟩⟩⟩
    · have z : (!decide ((es.length : Int) = (vs.length : Int))) = true := e
      rw [decide_eq_true (by omega)] at z
      cases z
    have pv1 : Paired (RwAt G1) vs rows := rws_same s1 ok.v
    refine ⟨_, _, .inl (SqL.of hm1), rfl, L, r, es, vs, rfl, SqL.of S1.hd, SqL.of (S1.st hr1), RZ.for_zipL (xs := es) (ys := vs) (by omega) (fun i σ H' => ∃ (y3 y4 : Option V) (G' : Hp), σ = [some (.ref x), some (.ref m), some (.ref L), y3, y4] ∧ Same G1 G' ∧ Sep G' ((L, .lst es) :: (x, .ins T.C_Line dx (lnF sa rm l tk (j : Nat))) :: (l, .lst ws) :: (m, .lst [.ref r, .int tk, .int (j : Nat), .ref sa, .int rm]) :: M) H')
      ⟨_, _, G1, rfl, Same.refl _, S1⟩ (fun i σ H' h => ?_) (fun i u v W σ H' hu hv h nW => ?_) (fun σ H' h => ?_)⟩
    · obtain ⟨_, _, G', _, s', S'⟩ := h
      exact ⟨SqL.of S'.hd, SqL.of (S'.st (s' _ _ hr1))⟩
    · obtain ⟨y3, y4, G', rfl, s', S'⟩ := h
      obtain ⟨G2, s2, S2, h2⟩ := Sep.mk (o := .tup [u, v]) S' nW
      obtain ⟨c, hc, fu⟩ := prd_get pe hu
      obtain ⟨c', hc', fv⟩ := prd_get pv1 hv
      rw [hc] at hc'
      cases hc'
      refine ⟨W, _, rfl, SqT.of (S2.st h2), rfl, _, _, rfl, _, _, rfl, rfl, G2, _, u, v, c, rfl, S2, fu.same (s'.trans s2), fv.same (s'.trans s2), fun G3 H3 s3 S3 => ⟨ff, fun _ => ?_⟩⟩
      exact ⟨_, _, G3, rfl, s'.trans (s2.trans s3), S3⟩
    · obtain ⟨y3, y4, G', rfl, s', S'⟩ := h
      refine ⟨x, dx, _, rfl, S'.drop.hd, x, dx, sa, l, rm, tk, _, rfl, S'.drop.hd, _, rfl, fun _ => ?_, tt⟩
      refine ⟨x, dx, _, rfl, S'.drop.hd, x, dx, sa, l, rm, tk, _, rfl, S'.drop.hd, _, _, .inl (SqL.of S'.drop.drop.drop.hd), rfl, ?_⟩
      have z := q G' H' (s1.trans s') S'.drop
      rw [← decide_eq_true (rfl : ((j : Nat) : Int) = ((j : Nat) : Int))] at z
      exact z
def spRef (C : Addr) : Sp := fun vs H Q _ => ∃ (G : Hp) (M : List (Addr × HO)) (x dx sa l : Addr) (rm tk pr n : Int) (ws : List V) (rows : List Rw), vs = [.ref x, .int n] ∧ Sep G ((x, .ins C dx (lnF sa rm l tk pr)) :: (l, .lst ws) :: M) H ∧ Paired (RwAt G) ws rows ∧ rows.length ≤ 1000 ∧ (n < 0 ∨ (rows.length : Int) ≤ n) ∧ n.natAbs.log2 < 1920 ∧
  ∀ G' H', Same G G' → Sep G' ((x, .ins C dx (lnF sa rm l tk pr)) :: (l, .lst ws) :: M) H' → Q (.bl true) H'
theorem ok_refused (T : Top K mg w) (pf : PySem.XExc.PF P T.x_file) {k : Nat} (H_number : FnQ P w K mg base (k + 1) T.a_number T.d_number ["_law_thing"] spNumber) (G_Line_take : FnOk P w K mg base (L2.CX P w) (k + 3) T.a_Line_take T.d_Line_take ["self", "number"] (spTake T.C_Line T.C_Entry T.C_NoAnswer)) :
    FnOk P w K mg base CX0 (k + 4) T.a_refused T.d_refused ["_law_line", "_law_number_here"] (spRef T.C_Line) := by
  refine T.F_refused.ok sc_refused (fun vs H Q E h => ?_) (fun cdv A outer s H vs Q E hr h => ?_)
  · obtain ⟨G, M, x, dx, sa, l, rm, tk, pr, n, ws, rows, rfl, _⟩ := h
    rfl
  · obtain ⟨G, M, x, dx, sa, l, rm, tk, pr, n, ws, rows, rfl, S, pw, rl, hn, ib, q⟩ := h
    refine ⟨_, (pss_cons (ps_try_as (i := 2) (Wout := fun _ _ _ _ => False) rfl rfl sc_refused.nd rfl rfl ⟨rfl, by decide, Or.inl T.g_NoAnswer⟩ takes0
      (fun W pn xe tk _ => (pss_one (ps_expr (pe_methT (xv 0) T.cl_Line T.me_Line_take G_Line_take (hr.mono (by omega)) T.b_Line_take (fun σ => passAt tk σ) (pa_cons (xv 1) pa_nil)))))
      (fun a oe cls d pn hz hf => (pss_cons (xs_if (PW.pt (xw_or (xt_truK K (pe_callB (call_isX hz hf) (by rfl) T.m_isinstance (by decide +kernel) (pa_cons (xv 2) (pa_cons (pe_glob (v := .ref T.C_BadFence) (by rfl) T.g_BadFence rfl) pa_nil)))) (xw_or (pt_not (xt_truK K (pe_callB (call_isX hz hf) (by rfl) T.m_isinstance (by decide +kernel) (pa_cons (xv 2) (pa_cons (pe_glob (v := .ref T.C_ScreenError) (by rfl) T.g_ScreenError rfl) pa_nil))))) (pw_or1 (pt_not (xt_truK K (pe_callB (call_isX hz hf) (by rfl) T.m_isinstance (by decide +kernel) (pa_cons (xv 2) (pa_cons (pe_bltn (v := .ty "ValueError") (by rfl) T.m_ValueError (by decide +kernel) rfl) pa_nil)))))))))
      (pss_one (ps_ret pe_bl))
      pss_nil)
      (pss_one (ps_ret (xe_and (pe_callQ H_number (roomQ hr (by omega)) ⟨_, List.mem_cons_self⟩ (by rfl) T.g_number T.F_number.kp T.b_number pass0 (pa_cons (pe_xf T.xf_NoAnswer (T.x_NoAnswer P pf).noN hz hf (xv 2)) pa_nil)) (pe_one (pe_cmpR (op_eqK K hr.units) (pe_xf T.xf_NoAnswer (T.x_NoAnswer P pf).noN hz hf (xv 2)) (xv 1) (nomark _)))))))))
      (pss_one (ps_ret pe_bl))), ?_⟩
    refine ⟨x, dx, lnF sa rm l tk pr, rfl, S.hd, rfl, G, _, x, dx, sa, l, rm, tk, pr, n, ws, rows, rfl, S, pw, rl, ib, fun k0 r0 _ _ _ _ e0 h0 => ?_, fun _ dd ndd => ?_⟩
    · have z := (List.getElem?_eq_some_iff.mp h0).1
      omega
    have S1 := S.newG (o := .xd [("number", .int n)]) ndd
    have s1 := S.grow (o := .xd [("number", .int n)]) ndd
    refine ⟨true, T.em_NoAnswer_NoAnswer, fun _ a na => ?_, tt⟩
    have hd1 : (upd G dd (.xd [("number", .int n)])) dd = some (.xd [("number", .int n)]) := upd_same
    generalize upd G dd (.xd [("number", .int n)]) = G1 at *
    refine ⟨T.C_NoAnswer, dd, _, false, rfl, rfl, S1.st hd1, T.xc_NoAnswer, .inl ⟨_, _, rfl, fun u r => r, T.ki_NoAnswer_BadFence⟩, ⟨ff, fun _ => ?_⟩⟩
    refine ⟨T.C_NoAnswer, dd, _, true, rfl, rfl, S1.st hd1, T.xc_NoAnswer, .inl ⟨_, _, rfl, fun u r => r, T.ky_NoAnswer_ScreenError⟩, ⟨ff, fun _ => ?_⟩⟩
    refine ⟨T.C_NoAnswer, dd, _, true, rfl, rfl, S1.st hd1, T.xc_NoAnswer, .inl ⟨_, _, rfl, fun u r => r, T.kv_NoAnswer⟩, ⟨ff, fun _ => ?_⟩⟩
    refine ⟨rfl, rfl, dd, _, _, rfl, S1.st hd1, lk_eq, _, rfl, fun _ => ?_, tt⟩
    refine ⟨rfl, rfl, dd, _, _, rfl, S1.st hd1, lk_eq, ?_⟩
    have z := q _ _ s1 S1
    rw [← decide_eq_true (rfl : n = n)] at z
    exact z

end
end K44
set_option Elab.async false
set_option linter.all false
set_option maxRecDepth 100000
set_option maxHeartbeats 4000000
namespace K44
open PySem PySem.Spec PyProof.Rows L2 XL
section
variable {P : Program} {w : World} {K : PySem.W.Frag} {mg : Str → Option Value} {base : Heap}
/-! ### deeds -/
def spDeed (C : Addr) : Sp := fun vs H Q _ => ∃ (G : Hp) (M : List (Addr × HO)) (b : Addr) (o : HO) (p : Pp) (ol wl : Addr) (os : List V) (zs : List Str), vs = [.ref b, .ref p.x, .ref p.m, .ref ol, .ref wl] ∧ Sep G ((b, o) :: (p.cells C ++ M)) H ∧ Bag G o ∧ p.ok G ∧
  G ol = some (.lst os) ∧ (∀ v ∈ os, OwAt G v) ∧ 0 < os.length ∧ os.length ≤ 100 ∧ G wl = some (.lst (zs.map V.str)) ∧ 0 < zs.length ∧ zs.length ≤ 100 ∧
  ∀ (p' : Pp) (o' : HO) (G' H' : Hp), p'.x = p.x → p'.m = p.m → Same G G' → p'.ok G' → Bag G' o' → Sep G' ((b, o') :: (p'.cells C ++ M)) H' → Q (.bl true) H'
theorem cut_last {rm : Int} (xs : List V) (h1 : 1 ≤ rm) (h : (xs.length : Int) ≤ rm + 1) : cutV xs (some (-rm)) none = push rm xs := by
  unfold cutV push
  have e : HT.sIx xs.length 0 (some (-rm)) = (-rm + (xs.length : Int)).toNat := by
    show (if -rm < 0 then (-rm + (xs.length : Int)).toNat else _) = _
    rw [if_pos (by omega)]
  rw [e, HT.sIx_none]
  by_cases hlt : rm < (xs.length : Int)
  · rw [if_pos hlt, show (-rm + (xs.length : Int)).toNat = 1 by omega, List.take_of_length_le (by rw [List.length_drop]; omega), List.drop_one]
  · rw [if_neg hlt, show (-rm + (xs.length : Int)).toNat = 0 by omega, List.drop_zero, Nat.sub_zero, List.take_length]
theorem prd_push {α β : Type} {F : α → β → Prop} {xs : List α} {ys : List β} (rm : Int) (h : Paired F xs ys) : Paired F (push rm xs) (push rm ys) := by
  have hl := prd_len h
  unfold push
  by_cases hlt : rm < (xs.length : Int)
  · rw [if_pos hlt, if_pos (by rw [← hl]; exact hlt)]
    exact prd_tail h
  · rw [if_neg hlt, if_neg (by rw [← hl]; exact hlt)]
    exact h
theorem ok_sent (T : Top K mg w) {k : Nat} (G_pick : FnOk P w K mg base CX0 (k + 2) T.a_pick T.d_pick ["_law_bag_here", "_law_many"] spPick) (G_same_entry : FnOk P w K mg base CX0 (k + 2) T.a_same_entry T.d_same_entry ["_law_entry", "_law_row"] (spSameE T.C_Entry))
    (G_Line_send : FnOk P w K mg base CX0 (k + 3) T.a_Line_send T.d_Line_send ["self", "owner", "word", "who", "question"] (spSend T.C_Line T.C_Entry)) : FnOk P w K mg base CX0 (k + 4) T.a_sent T.d_sent ["_law_bag_here", "_law_line", "_law_model", "_law_owners", "_law_words"] (spDeed T.C_Line) := by
  refine T.F_sent.ok sc_sent (fun vs H Q E h => ?_) (fun cdv A outer s H vs Q E hr h => ?_)
  · obtain ⟨G, M, b, o, p, ol, wl, os, zs, rfl, _⟩ := h
    rfl
  · obtain ⟨G, M, b, o, ⟨x, dx, l, m, r, sa, ws, vs, rows, zs, tk, rm, j⟩, ol, wl, os, wz, rfl, S, B, ok, hol, how, o0, o100, hwl, w0, w100, q⟩ := h
    refine ⟨_, (pss_cons (ps_set (i := 5) sc_sent.nd rfl (.inl rfl) (pe_ix (ix_k K) (xv 3) (pe_call G_pick (hr.mono (by omega)) (by rfl) T.g_pick T.F_pick.kp T.b_pick .nil pass0 (pa_cons (xv 0) (pa_cons (pe_callB (cr_lenK K) (by rfl) T.m_len (by decide +kernel) (pa_cons (xv 3) pa_nil)) pa_nil))) (fun _ _ => rfl)))
      (pss_cons (ps_set (i := 6) sc_sent.nd rfl (.inl rfl) (pe_ix (ix_k K) (xv 4) (pe_call G_pick (hr.mono (by omega)) (by rfl) T.g_pick T.F_pick.kp T.b_pick .nil pass0 (pa_cons (xv 0) (pa_cons (pe_callB (cr_lenK K) (by rfl) T.m_len (by decide +kernel) (pa_cons (xv 4) pa_nil)) pa_nil))) (fun _ _ => rfl)))
      (pss_cons (ps_set (i := 7) sc_sent.nd rfl (.inl rfl) (pe_ix (ix_k K) (pe_lst (pa_cons (pe_call G_pick (hr.mono (by omega)) (by rfl) T.g_pick T.F_pick.kp T.b_pick .nil pass0 (pa_cons (xv 0) (pa_cons pe_int pa_nil))) (pa_cons (pe_call G_pick (hr.mono (by omega)) (by rfl) T.g_pick T.F_pick.kp T.b_pick .nil pass0 (pa_cons (xv 0) (pa_cons (pe_op op_powY pe_int pe_int) pa_nil))) pa_nil))) (pe_op op_divY (pe_call G_pick (hr.mono (by omega)) (by rfl) T.g_pick T.F_pick.kp T.b_pick .nil pass0 (pa_cons (xv 0) (pa_cons pe_int pa_nil))) pe_int) (fun _ _ => rfl)))
      (pss_cons (ps_set (i := 8) sc_sent.nd rfl (.inl rfl) (pe_call G_pick (hr.mono (by omega)) (by rfl) T.g_pick T.F_pick.kp T.b_pick .nil pass0 (pa_cons (xv 0) (pa_cons pe_int pa_nil))))
      (pss_cons (ps_set (i := 9) sc_sent.nd rfl (.inl rfl) (pe_tup (pa_cons (xv 5) (pa_cons (xv 6) (pa_cons (xv 7) (pa_cons (pe_ix (ix_k K) (xv 2) pe_int (fun _ _ => rfl)) (pa_cons (xv 8) (pa_cons (pe_ix (ix_k K) (pe_ix (ix_k K) (pe_ix (ix_k K) (xv 2) pe_int (fun _ _ => rfl)) (pe_ix (ix_k K) (xv 2) pe_int (fun _ _ => rfl)) (fun _ _ => rfl)) (xv 8) (fun _ _ => rfl)) pa_nil))))))))
      (pss_cons (ps_asg (pe_op op_addY (pe_ix (ix_k K) (xv 2) pe_int (fun _ _ => rfl)) pe_int) (pg_sub (xv 2) pe_int set_list))
      (pss_cons (ps_asg (pe_slice (sl_listK K) (pe_op op_addY (pe_ix (ix_k K) (xv 2) pe_int (fun _ _ => rfl)) (pe_lst (pa_cons (xv 9) pa_nil))) (po_some (pe_un un_neg (pe_ix (ix_k K) (xv 2) pe_int (fun _ _ => rfl)))) po_none) (pg_sub (xv 2) pe_int set_list))
      (pss_one (ps_ret (pe_call G_same_entry (hr.mono (by omega)) (by rfl) T.g_same_entry T.F_same_entry.kp T.b_same_entry .nil pass0 (pa_cons (pe_meth (xv 1) T.cl_Line T.me_Line_send G_Line_send (hr.mono (by omega)) T.b_Line_send .nil pass0 (pa_cons (xv 5) (pa_cons (xv 6) (pa_cons (xv 7) (pa_cons (xv 8) pa_nil))))) (pa_cons (xv 9) pa_nil)))))))))))), ?_⟩
    have S : Sep G ((b, o) :: (x, .ins T.C_Line dx (lnF sa rm l tk (j : Nat))) :: (l, .lst ws) :: (m, .lst [.ref r, .int tk, .int (j : Nat), .ref sa, .int rm]) :: M) H := S
    have q : ∀ (p' : Pp) (o' : HO) (G' H' : Hp), p'.x = x → p'.m = m → Same G G' → p'.ok G' → Bag G' o' → Sep G' ((b, o') :: (p'.cells T.C_Line ++ M)) H' → Q (.bl true) H' := q
    have r1 : 1 ≤ rm := ok.r1
    have r3 : rm ≤ 3 := ok.r3
    have rl : (rows.length : Int) ≤ rm := ok.len
    have hr0 : G r = some (.lst vs) := ok.r
    have vl : vs.length = rows.length := prd_len ok.v
    obtain ⟨z, hj⟩ : ∃ z, zs[j]? = some z := ⟨_, List.getElem?_eq_getElem ok.j⟩
    refine ⟨_, .inl (SqL.of (S.st hol)), G, _, b, o, _, rfl, S, B, by omega, by omega, fun a1 o1 H1 a10 a11 B1 S1 => ?_⟩
    obtain ⟨ow, how1, hm1⟩ := atI_in a10 a11
    refine ⟨_, _, .inl (SqL.of (S1.st hol)), how1, _, .inl (SqL.of (S1.st hwl)), G, _, b, o1, _, rfl, S1, B1, by rw [List.length_map]; omega, by rw [List.length_map]; omega, fun a2 o2 H2 a20 a21 B2 S2 => ?_⟩
    obtain ⟨_, hwd1, hm2⟩ := atI_in a20 a21
    obtain ⟨wd, hwd, rfl⟩ := List.mem_map.mp hm2
    refine ⟨_, _, .inl (SqL.of (S2.st hwl)), hwd1, G, _, b, o2, 4, rfl, S2, B2, by decide, by decide, fun a3 o3 H3 a30 a31 B3 S3 => ⟨⟨by decide, by decide, by decide⟩, fun big eb => ?_⟩⟩
    refine ⟨G, _, b, o3, _, rfl, S3, B3, by rw [eb]; decide, by rw [eb]; decide, fun a4 o4 H4 a40 a41 B4 S4 => ⟨sz, fun l5 nl5 => ?_⟩⟩
    obtain ⟨G5, s5, S5, h5⟩ := Sep.mk (o := .lst [.int a3, .int a4]) S4 nl5
    refine ⟨G5, _, b, o4, 5, rfl, S5, B4.same s5, by decide, by decide, fun a6 o6 H6 a60 a61 B6 S6 => ⟨⟨by decide, by decide⟩, fun d ed d0 => ?_⟩⟩
    obtain ⟨v6, hwho, hm6⟩ := atI_in (xs := [V.int a3, .int a4]) (i := d) (d0 a60) (by rw [ed]; simp; omega)
    obtain ⟨who, rfl⟩ : ∃ n : Int, v6 = V.int n := by
      simp only [List.mem_cons, List.not_mem_nil, or_false] at hm6
      rcases hm6 with rfl | rfl <;> exact ⟨_, rfl⟩
    refine ⟨_, _, .inl (SqL.of (S6.st h5)), hwho, G5, _, b, o6, 4, rfl, S6, B6, by decide, by decide, fun a7 o7 H7 a70 a71 B7 S7 => ?_⟩
    have ok5 := ok.same s5
    obtain ⟨us, hu, pu⟩ := ok5.st
    have hu : G5 sa = some (.tup us) := hu
    obtain ⟨_, hv, rz, rfl, hrz, z4⟩ := prd_getR pu hj
    obtain ⟨qn, rfl⟩ := Int.eq_ofNat_of_zero_le a70
    obtain ⟨an, hq⟩ : ∃ an, z[qn]? = some an := ⟨_, List.getElem?_eq_getElem (show qn < z.length by omega)⟩
    have hm7 := S7.drop.drop.drop.hd
    refine ⟨_, _, .inl (SqL.of hm7), rfl, _, _, .inl (SqL.of hm7), rfl, _, _, .inl (SqL.of hm7), rfl, _, _, .inr (SqT.of (S7.st hu)), atI_nat hv, _, _, .inr (SqT.of (S7.st hrz)), atI_nat (by rw [List.getElem?_map, hq]; rfl), sz, fun p np => ?_⟩
    obtain ⟨G8, s8, S8, h8⟩ := Sep.mk (o := .tup (Rw.tup ⟨ow, wd, who, tk, qn, an⟩)) S7 np
    have hm8 := S8.drop.drop.drop.hd
    -- the model's number and rows
    have S9 := p_bm S8
    refine ⟨_, _, .inl (SqL.of hm8), rfl, m, _, _, 1, rfl, rfl, S9.hd, rfl, ?_⟩
    have S10 := S9.set (o' := .lst [.ref r, .int (tk + 1), .int (j : Nat), .ref sa, .int rm])
    have hr8 : G8 r = some (.lst vs) := s8 _ _ (s5 _ _ hr0)
    have ok8 := ok5.same s8
    refine ⟨_, _, .inl (SqL.of S10.hd), rfl, sz, fun lr nlr => ?_⟩
    have S11 := S10.new (o := .lst [.ref p]) nlr
    refine ⟨r, lr, vs, [.ref p], rfl, rfl, S11.st hr8, S11.hd, small (by simp; omega), fun lc nlc => ?_⟩
    have S12 := S11.new (o := .lst (vs ++ [.ref p])) nlc
    have hm12 := S12.drop.drop.hd
    refine ⟨_, _, .inl (SqL.of hm12), rfl, _, rfl, _, rfl, lc, _, rfl, SqL.of S12.hd, fun nl nnl => ?_⟩
    rw [cut_last _ r1 (by rw [List.length_append]; simp; omega)]
    obtain ⟨G13, s13, S13, h13⟩ := Sep.mk (o := .lst (push rm (vs ++ [.ref p]))) S12 nnl
    have S14 := S13.drop.drop
    refine ⟨m, _, _, 0, rfl, rfl, S14.hd, rfl, ?_⟩
    have S15 := p_bm2 (S14.set (o' := .lst [.ref nl, .int (tk + 1), .int (j : Nat), .ref sa, .int rm]))
    have s58 := s5.trans (s8.trans s13)
    have ok13 := ok.same s58
    have hp13 := s13 _ _ h8
    have how13 := (how ow hm1).same s58
    have S16 := p_xl S15
    refine ⟨x, dx, _, rfl, S16.hd, rfl, G13, _, x, dx, sa, l, rm, tk, j, qn, ws, rows, zs, z, ow, wd, who, an, rfl, S16, ok13.w, ok13.st, how13, hj, hq, r1, r3, rl, fun e ws' G17 H17 s17 en pw S17 => ?_⟩
    refine ⟨G17, _, _, _, ⟨ow, wd, who, tk, qn, an⟩, rfl, S17, en, ⟨p, rfl, s17 _ _ hp13, how13.same s17⟩, fun G18 H18 s18 S18 => ?_⟩
    have ok18 := ok13.same (s17.trans s18)
    have nr : RwAt G18 (.ref p) ⟨ow, wd, who, tk, qn, an⟩ := ⟨p, rfl, s18 _ _ (s17 _ _ hp13), how13.same (s17.trans s18)⟩
    exact q ⟨x, dx, l, m, nl, sa, ws', push rm (vs ++ [.ref p]), push rm (rows ++ [⟨ow, wd, who, tk, qn, an⟩]), zs, tk + 1, rm, j⟩ o7 G18 H18 rfl rfl (s58.trans (s17.trans s18))
      ⟨rws_same s18 pw, s18 _ _ (s17 _ _ h13), prd_push rm (prd_app ok18.v (.cons nr .nil)), ok18.st, ok18.z3, ok18.j, r1, r3, push_len (by rw [List.length_append]; simp; omega) r1⟩ ((((B7.same s8).same s13).same s17).same s18) (p_xl2 S18)

end
end K44
set_option Elab.async false
set_option linter.all false
set_option maxRecDepth 100000
set_option maxHeartbeats 4000000
namespace K44
open PySem PySem.Spec PyProof.Rows L2 XL
section
variable {P : Program} {w : World} {K : PySem.W.Frag} {mg : Str → Option Value} {base : Heap}
theorem lgN {n : Int} (h1 : -(2 ^ 40) ≤ n) (h2 : n ≤ 2 ^ 40) : n.natAbs.log2 < 1920 := by
  by_cases h : n.natAbs = 0
  · rw [h]; decide
  · refine (Nat.log2_lt h).mpr (Nat.lt_of_lt_of_le (show n.natAbs < 2 ^ 41 by omega) (Nat.pow_le_pow_right (by decide) (by decide)))
theorem cut_to (xs : List V) (k : Nat) (h : k ≤ xs.length) : cutV xs none (some (k : Int)) = xs.take k := by
  unfold cutV
  rw [HT.sIx_nat, HT.sIx_none, Nat.min_eq_left h, List.drop_zero, Nat.sub_zero]
theorem cut_from (xs : List V) (k : Nat) (h : k ≤ xs.length) : cutV xs (some (k : Int)) none = xs.drop k := by
  unfold cutV
  rw [HT.sIx_nat, HT.sIx_none, Nat.min_eq_left h]
  exact List.take_of_length_le (by rw [List.length_drop]; omega)
def spTaken (C : Addr) : Sp := fun vs H Q _ => ∃ (G : Hp) (M : List (Addr × HO)) (b : Addr) (o : HO) (p : Pp), vs = [.ref b, .ref p.x, .ref p.m] ∧ Sep G ((b, o) :: (p.cells C ++ M)) H ∧ Bag G o ∧ p.ok G ∧
  ∀ (p' : Pp) (o' : HO) (G' H' : Hp), p'.x = p.x → p'.m = p.m → Same G G' → p'.ok G' → Bag G' o' → Sep G' ((b, o') :: (p'.cells C ++ M)) H' → Q (.bl true) H'
theorem ok_taken (T : Top K mg w) {k : Nat} (G_pick : FnOk P w K mg base CX0 (k + 2) T.a_pick T.d_pick ["_law_bag_here", "_law_many"] spPick) (G_same_entry : FnOk P w K mg base CX0 (k + 2) T.a_same_entry T.d_same_entry ["_law_entry", "_law_row"] (spSameE T.C_Entry))
    (G_Line_take : FnOk P w K mg base (L2.CX P w) (k + 3) T.a_Line_take T.d_Line_take ["self", "number"] (spTake T.C_Line T.C_Entry T.C_NoAnswer)) (G_refused : FnOk P w K mg base CX0 (k + 4) T.a_refused T.d_refused ["_law_line", "_law_number_here"] (spRef T.C_Line)) :
    FnOk P w K mg base CX0 (k + 5) T.a_taken T.d_taken ["_law_bag_here", "_law_line", "_law_model"] (spTaken T.C_Line) := by
  refine T.F_taken.ok sc_taken (fun vs H Q E h => ?_) (fun cdv A outer s H vs Q E hr h => ?_)
  · obtain ⟨G, M, b, o, p, rfl, _⟩ := h
    rfl
  · obtain ⟨G, M, b, o, ⟨x, dx, l, m, r, sa, ws, vs, rows, zs, tk, rm, j⟩, rfl, S, B, ok, q⟩ := h
    refine ⟨_, (pss_cons (ps_set (i := 3) sc_taken.nd rfl (.inl rfl) (pe_op op_subY (pe_call G_pick (hr.mono (by omega)) (by rfl) T.g_pick T.F_pick.kp T.b_pick .nil pass0 (pa_cons (xv 0) (pa_cons (pe_op op_addY (pe_callB (cr_lenK K) (by rfl) T.m_len (by decide +kernel) (pa_cons (pe_ix (ix_k K) (xv 2) pe_int (fun _ _ => rfl)) pa_nil)) pe_int) pa_nil))) pe_int))
      (xss_cut (xs_if (xt_cmp (op_eqK K hr.units) (pe_call G_pick (hr.mono (by omega)) (by rfl) T.g_pick T.F_pick.kp T.b_pick .nil pass0 (pa_cons (xv 0) (pa_cons pe_int pa_nil))) pe_int (nomark _))
      (pss_one (ps_set (i := 3) sc_taken.nd rfl (.inl rfl) (pe_op op_addY (pe_callB (cr_lenK K) (by rfl) T.m_len (by decide +kernel) (pa_cons (pe_ix (ix_k K) (xv 2) pe_int (fun _ _ => rfl)) pa_nil)) (pe_call G_pick (hr.mono (by omega)) (by rfl) T.g_pick T.F_pick.kp T.b_pick .nil pass0 (pa_cons (xv 0) (pa_cons (pe_op op_powY pe_int pe_int) pa_nil))))))
      pss_nil)
      (pss_cons (xs_if (PW.pt (xw_or (xt_cmp op_ltY (xv 3) pe_int (nomark _)) (pw_or1 (xt_cmp op_geY (xv 3) (pe_callB (cr_lenK K) (by rfl) T.m_len (by decide +kernel) (pa_cons (pe_ix (ix_k K) (xv 2) pe_int (fun _ _ => rfl)) pa_nil)) (nomark _)))))
      (pss_one (ps_ret (pe_call G_refused (hr.mono (by omega)) (by rfl) T.g_refused T.F_refused.kp T.b_refused .nil pass0 (pa_cons (xv 1) (pa_cons (xv 3) pa_nil)))))
      pss_nil)
      (pss_cons (ps_set (i := 4) sc_taken.nd rfl (.inl rfl) (pe_ix (ix_k K) (pe_ix (ix_k K) (xv 2) pe_int (fun _ _ => rfl)) (xv 3) (fun _ _ => rfl)))
      (pss_cons (ps_asg (pe_op op_addY (pe_slice (sl_listK K) (pe_ix (ix_k K) (xv 2) pe_int (fun _ _ => rfl)) po_none (po_some (xv 3))) (pe_slice (sl_listK K) (pe_ix (ix_k K) (xv 2) pe_int (fun _ _ => rfl)) (po_some (pe_op op_addY (xv 3) pe_int)) po_none)) (pg_sub (xv 2) pe_int set_list))
      (pss_one (ps_ret (pe_call G_same_entry (hr.mono (by omega)) (by rfl) T.g_same_entry T.F_same_entry.kp T.b_same_entry .nil pass0 (pa_cons (pe_meth (xv 1) T.cl_Line T.me_Line_take G_Line_take (hr.mono (by omega)) T.b_Line_take .nil passL (pa_cons (xv 3) pa_nil)) (pa_cons (xv 4) pa_nil)))))))))), ?_⟩
    have S : Sep G ((b, o) :: (x, .ins T.C_Line dx (lnF sa rm l tk (j : Nat))) :: (l, .lst ws) :: (m, .lst [.ref r, .int tk, .int (j : Nat), .ref sa, .int rm]) :: M) H := S
    have q : ∀ (p' : Pp) (o' : HO) (G' H' : Hp), p'.x = x → p'.m = m → Same G G' → p'.ok G' → Bag G' o' → Sep G' ((b, o') :: (p'.cells T.C_Line ++ M)) H' → Q (.bl true) H' := q
    have r1 : 1 ≤ rm := ok.r1
    have r3 : rm ≤ 3 := ok.r3
    have rl : (rows.length : Int) ≤ rm := ok.len
    have hr0 : G r = some (.lst vs) := ok.r
    have vl : vs.length = rows.length := prd_len ok.v
    refine ⟨_, _, .inl (SqL.of S.drop.drop.drop.hd), rfl, _, .inl (SqL.of (S.st hr0)), G, _, b, o, _, rfl, S, B, by omega, by omega, fun a1 o1 H1 a10 a11 B1 S1 => ?_⟩
    refine ⟨fun σ H' => ∃ (n : Int) (o' : HO), σ = [some (.ref b), some (.ref x), some (.ref m), some (.int n), none] ∧ -2 ≤ n ∧ n ≤ 2 ^ 40 ∧ Bag G o' ∧ Sep G ((b, o') :: (x, .ins T.C_Line dx (lnF sa rm l tk (j : Nat))) :: (l, .lst ws) :: (m, .lst [.ref r, .int tk, .int (j : Nat), .ref sa, .int rm]) :: M) H', ?_, fun σ H3 h => ?_⟩
    · refine ⟨G, _, b, o1, 9, rfl, S1, B1, by decide, by decide, fun a2 o2 H2 _ _ B2 S2 => ⟨fun _ => ?_, fun _ => ⟨a1 - 2, o2, rfl, by omega, by omega, B2, S2⟩⟩⟩
      refine ⟨_, _, .inl (SqL.of S2.drop.drop.drop.hd), rfl, _, .inl (SqL.of (S2.st hr0)), ⟨by decide, by decide, by decide⟩, fun big eb => ⟨G, _, b, o2, _, rfl, S2, B2, by rw [eb]; decide, by rw [eb]; decide, fun a3 o3 H3 a30 a31 B3 S3 => ?_⟩⟩
      have ab : a3 < 10 ^ 9 := by rw [eb] at a31; exact a31
      exact ⟨_, o3, rfl, by omega, by omega, B3, S3⟩
    obtain ⟨n, o3, rfl, n0, n1, B3, S3⟩ := h
    have lg := lgN (n := n) (by omega) (by omega)
    have deny : (n < 0 ∨ (rows.length : Int) ≤ n) → spRef T.C_Line [.ref x, .int n] H3 Q E0 := fun hn =>
      ⟨G, _, x, dx, sa, l, rm, tk, _, n, ws, rows, rfl, p_xl S3, ok.w, by omega, hn, lg, fun G4 H4 s4 S4 => q ⟨x, dx, l, m, r, sa, ws, vs, rows, zs, tk, rm, j⟩ o3 G4 H4 rfl rfl s4 (ok.same s4) (B3.same s4) (p_xl2 S4)⟩
    have hm3 := S3.drop.drop.drop.hd
    refine ⟨fun e => ⟨fun _ => deny (.inl (of_decide_eq_true e)), tt⟩, fun e => ⟨_, _, .inl (SqL.of hm3), rfl, _, .inl (SqL.of (S3.st hr0)), fun e2 => deny (.inr ?_), fun e2 => ?_⟩⟩
    · have z : decide (((vs.length : Nat) : Int) ≤ n) = true := e2
      have z := of_decide_eq_true z
      omega
    have z1 : ¬ n < 0 := of_decide_eq_false e
    have z2 : decide (((vs.length : Nat) : Int) ≤ n) = false := e2
    have z2 := of_decide_eq_false z2
    obtain ⟨i, rfl⟩ := Int.eq_ofNat_of_zero_le (show 0 ≤ n by omega)
    have il : i < vs.length := by omega
    have hi := List.getElem?_eq_getElem il
    obtain ⟨rw_, hrw, a, ea, ha, hao⟩ := prd_get ok.v hi
    rw [ea] at hi
    refine ⟨_, _, .inl (SqL.of hm3), rfl, _, _, .inl (SqL.of (S3.st hr0)), atI_nat hi, ?_⟩
    refine ⟨_, _, .inl (SqL.of hm3), rfl, _, rfl, r, _, rfl, SqL.of (S3.st hr0), fun c1 nc1 => ?_⟩
    rw [cut_to vs i (by omega)]
    have S4 := S3.new (o := .lst (vs.take i)) nc1
    refine ⟨_, _, .inl (SqL.of S4.drop.drop.drop.drop.hd), rfl, _, rfl, r, _, rfl, SqL.of (S4.st hr0), fun c2 nc2 => ?_⟩
    rw [show ((i : Int) + 1) = ((i + 1 : Nat) : Int) by omega, cut_from vs (i + 1) (by omega)]
    have S5 := S4.new (o := .lst (vs.drop (i + 1))) nc2
    refine ⟨c1, c2, _, _, rfl, rfl, S5.sw.hd, S5.hd, small (by rw [List.length_take, List.length_drop]; omega), fun c3 nc3 => ?_⟩
    rw [← List.eraseIdx_eq_take_drop_succ]
    obtain ⟨G6, s6, S6, h6⟩ := Sep.mk (o := .lst (vs.eraseIdx i)) S5 nc3
    have S7 := p_bm S6.drop.drop
    refine ⟨m, _, _, 0, rfl, rfl, S7.hd, rfl, ?_⟩
    have S8 := p_xl (p_bm2 (S7.set (o' := .lst [.ref c3, .int tk, .int (j : Nat), .ref sa, .int rm])))
    have ok6 := ok.same s6
    refine ⟨x, dx, _, rfl, S8.hd, rfl, G6, _, x, dx, sa, l, rm, tk, _, _, ws, rows, rfl, S8, ok6.w, by omega, lg, fun k0 r0 e ws' G9 H9 e0 h0 s9 en pw S9 => ?_, fun hn => ?_⟩
    · have ek : k0 = i := by omega
      subst ek
      rw [hrw] at h0
      cases h0
      refine ⟨G9, _, _, _, rw_, rfl, S9, en, ⟨a, rfl, s9 _ _ (s6 _ _ ha), (hao.same s6).same s9⟩, fun G10 H10 s10 S10 => ?_⟩
      have s610 := s6.trans (s9.trans s10)
      have okf := ok.same s610
      have le : ((rows.eraseIdx k0).length : Int) ≤ rm := by rw [List.length_eraseIdx]; split <;> omega
      exact q ⟨x, dx, l, m, c3, sa, ws', vs.eraseIdx k0, rows.eraseIdx k0, zs, tk, rm, j⟩ o3 G10 H10 rfl rfl s610 ⟨rws_same s10 pw, s10 _ _ (s9 _ _ h6), prd_erase k0 okf.v, okf.st, okf.z3, okf.j, r1, r3, le⟩ (B3.same s610) (p_xl2 S10)
    · exact absurd hn (by omega)
def spTurned (C : Addr) : Sp := fun vs H Q _ => ∃ (G : Hp) (M : List (Addr × HO)) (p : Pp), vs = [.ref p.x, .ref p.m] ∧ Sep G (p.cells C ++ M) H ∧ p.ok G ∧
  ∀ (p' : Pp) (G' H' : Hp), p'.x = p.x → p'.m = p.m → Same G G' → p'.ok G' → Sep G' (p'.cells C ++ M) H' → Q (.bl true) H'
theorem ok_turned (T : Top K mg w) {k : Nat} (G_Line_turn : FnOk P w K mg base CX0 (k + 1) T.a_Line_turn T.d_Line_turn ["self"] (spTurn T.C_Line)) : FnOk P w K mg base CX0 (k + 2) T.a_turned T.d_turned ["_law_line", "_law_model"] (spTurned T.C_Line) := by
  refine T.F_turned.ok sc_turned (fun vs H Q E h => ?_) (fun cdv A outer s H vs Q E hr h => ?_)
  · obtain ⟨G, M, p, rfl, _⟩ := h
    rfl
  · obtain ⟨G, M, ⟨x, dx, l, m, r, sa, ws, vs, rows, zs, tk, rm, j⟩, rfl, S, ok, q⟩ := h
    refine ⟨_, (pss_cons (ps_set (i := 2) sc_turned.nd rfl (.inl rfl) (pe_cmpR op_ltY (pe_op op_addY (pe_ix (ix_k K) (xv 1) pe_int (fun _ _ => rfl)) pe_int) (pe_callB (cr_lenK K) (by rfl) T.m_len (by decide +kernel) (pa_cons (pe_ix (ix_k K) (xv 1) pe_int (fun _ _ => rfl)) pa_nil)) (nomark _)))
      (pss_cons (xs_if (xt_truK K (xv 2))
      (pss_one (ps_asg (pe_op op_addY (pe_ix (ix_k K) (xv 1) pe_int (fun _ _ => rfl)) pe_int) (pg_sub (xv 1) pe_int set_list)))
      pss_nil)
      (pss_cons (ps_set (i := 3) sc_turned.nd rfl (.inl rfl) (pe_meth0 (xv 0) T.cl_Line T.me_Line_turn G_Line_turn (hr.mono (by omega)) T.b_Line_turn .nil pass0))
      (pss_one (ps_ret (xe_and (pe_callB (call_isK K) (by rfl) T.m_isinstance (by decide +kernel) (pa_cons (xv 3) (pa_cons (pe_bltn (v := .ty "bool") (by rfl) T.m_bool (by decide +kernel) rfl) pa_nil))) (pe_one (pe_cmpR (op_eqK K hr.units) (xv 3) (xv 2) (nomark _))))))))), ?_⟩
    have S : Sep G ((x, .ins T.C_Line dx (lnF sa rm l tk (j : Nat))) :: (l, .lst ws) :: (m, .lst [.ref r, .int tk, .int (j : Nat), .ref sa, .int rm]) :: M) H := S
    have q : ∀ (p' : Pp) (G' H' : Hp), p'.x = x → p'.m = m → Same G G' → p'.ok G' → Sep G' (p'.cells T.C_Line ++ M) H' → Q (.bl true) H' := q
    obtain ⟨us, hu, pu⟩ := ok.st
    have hu : G sa = some (.tup us) := hu
    have ul : us.length = zs.length := prd_len pu
    have hm := S.drop.drop.hd
    refine ⟨_, _, .inl (SqL.of hm), rfl, _, _, .inl (SqL.of hm), rfl, _, .inr (SqT.of (S.st hu)), fun e => ?_, fun e => ?_⟩
    · have z := of_decide_eq_true e
      have S1 := p_m S
      refine ⟨_, _, .inl (SqL.of hm), rfl, m, _, _, 2, rfl, rfl, S1.hd, rfl, ?_⟩
      have S2 := p_m2 (S1.set (o' := .lst [.ref r, .int tk, .int ((j : Nat) + 1), .ref sa, .int rm]))
      refine ⟨x, dx, _, rfl, S2.hd, rfl, G, _, x, dx, sa, l, rm, tk, _, zs, rfl, S2, ok.st, fun _ H3 S3 => ?_, fun no => absurd (show ((j : Nat) : Int) + 1 < (zs.length : Int) by omega) no⟩
      refine ⟨_, _, _, _, true, rfl, .ty _, .base (.bl _), kit_ty (by decide +kernel), fun _ => ?_, tt⟩
      have w := q ⟨x, dx, l, m, r, sa, ws, vs, rows, zs, tk, rm, j + 1⟩ G H3 rfl rfl (Same.refl _) ⟨ok.w, ok.r, ok.v, ok.st, ok.z3, (show j + 1 < zs.length by omega), ok.r1, ok.r3, ok.len⟩ S3
      show Q (.bl (decide (true = decide (((j : Nat) : Int) + 1 < (us.length : Int))))) H3
      rw [show decide (((j : Nat) : Int) + 1 < (us.length : Int)) = true from e, decide_eq_true rfl]
      exact w
    · have z := of_decide_eq_false e
      refine ⟨x, dx, _, rfl, S.hd, rfl, G, _, x, dx, sa, l, rm, tk, _, zs, rfl, S, ok.st, fun y => absurd y (by omega), fun _ => ?_⟩
      refine ⟨_, _, _, _, true, rfl, .ty _, .base (.bl _), kit_ty (by decide +kernel), fun _ => ?_, tt⟩
      have w := q ⟨x, dx, l, m, r, sa, ws, vs, rows, zs, tk, rm, j⟩ G H rfl rfl (Same.refl _) ok S
      show Q (.bl (decide (false = decide (((j : Nat) : Int) + 1 < (us.length : Int))))) H
      rw [show decide (((j : Nat) : Int) + 1 < (us.length : Int)) = false from e, decide_eq_true rfl]
      exact w
theorem ok_deed (T : Top K mg w) {k : Nat} (G_pick : FnOk P w K mg base CX0 (k + 2) T.a_pick T.d_pick ["_law_bag_here", "_law_many"] spPick) (G_sent : FnOk P w K mg base CX0 (k + 4) T.a_sent T.d_sent ["_law_bag_here", "_law_line", "_law_model", "_law_owners", "_law_words"] (spDeed T.C_Line)) (G_taken : FnOk P w K mg base CX0 (k + 5) T.a_taken T.d_taken ["_law_bag_here", "_law_line", "_law_model"] (spTaken T.C_Line))
    (G_turned : FnOk P w K mg base CX0 (k + 2) T.a_turned T.d_turned ["_law_line", "_law_model"] (spTurned T.C_Line)) (G_Line_entries : FnOk P w K mg base CX0 (k + 3) T.a_Line_entries T.d_Line_entries ["self"] (spEntries T.C_Line T.C_Entry)) : FnOk P w K mg base CX0 (k + 6) T.a_deed T.d_deed ["_law_bag_here", "_law_line", "_law_model", "_law_owners", "_law_words"] (spDeed T.C_Line) := by
  refine T.F_deed.ok sc_deed (fun vs H Q E h => ?_) (fun cdv A outer s H vs Q E hr h => ?_)
  · obtain ⟨G, M, b, o, p, ol, wl, os, zs, rfl, _⟩ := h
    rfl
  · obtain ⟨G, M, b, o, p, ol, wl, os, wz, rfl, S, B, ok, hol, how, o0, o100, hwl, w0, w100, q⟩ := h
    refine ⟨_, (pss_cons (ps_set (i := 5) sc_deed.nd rfl (.inl rfl) (pe_call G_pick (hr.mono (by omega)) (by rfl) T.g_pick T.F_pick.kp T.b_pick .nil pass0 (pa_cons (xv 0) (pa_cons pe_int pa_nil))))
      (pss_cons (xs_if (xt_cmp op_ltY (xv 5) pe_int (nomark _))
      (pss_one (ps_ret (pe_call G_sent (hr.mono (by omega)) (by rfl) T.g_sent T.F_sent.kp T.b_sent .nil pass0 (pa_cons (xv 0) (pa_cons (xv 1) (pa_cons (xv 2) (pa_cons (xv 3) (pa_cons (xv 4) pa_nil))))))))
      pss_nil)
      (pss_cons (xs_if (xt_cmp op_ltY (xv 5) pe_int (nomark _))
      (pss_one (ps_ret (pe_call G_taken (hr.mono (by omega)) (by rfl) T.g_taken T.F_taken.kp T.b_taken .nil pass0 (pa_cons (xv 0) (pa_cons (xv 1) (pa_cons (xv 2) pa_nil))))))
      pss_nil)
      (pss_cons (xs_if (xt_cmp op_ltY (xv 5) pe_int (nomark _))
      (pss_one (ps_ret (pe_call G_turned (hr.mono (by omega)) (by rfl) T.g_turned T.F_turned.kp T.b_turned .nil pass0 (pa_cons (xv 1) (pa_cons (xv 2) pa_nil)))))
      pss_nil)
      (pss_cons (ps_set (i := 6) sc_deed.nd rfl (.inl rfl) (pe_meth0 (xv 1) T.cl_Line T.me_Line_entries G_Line_entries (hr.mono (by omega)) T.b_Line_entries .nil pass0))
      (pss_cons (xs_if (pt_not (xt_truK K (pe_callB (call_isK K) (by rfl) T.m_isinstance (by decide +kernel) (pa_cons (xv 6) (pa_cons (pe_bltn (v := .ty "list") (by rfl) T.m_list (by decide +kernel) rfl) pa_nil)))))
      (pss_one (ps_ret pe_bl))
      pss_nil)
      (pss_cons (ps_expr (pe_bm0 PySem.F.plainAttrs_list PySem.F.slot_list_clear PySem.F.type_list_clear mt_clear (xv 6)))
      (pss_one (ps_ret pe_bl))))))))), ?_⟩
    refine ⟨G, _, b, o, 8, rfl, S, B, by decide, by decide, fun a1 o1 H1 a10 a11 B1 S1 => ⟨fun _ => ?_, fun _ => ⟨fun _ => ?_, fun _ => ⟨fun _ => ?_, fun _ => ?_⟩⟩⟩⟩
    · exact ⟨G, M, b, o1, p, ol, wl, os, wz, rfl, S1, B1, ok, hol, how, o0, o100, hwl, w0, w100, q⟩
    · exact ⟨G, M, b, o1, p, rfl, S1, B1, ok, q⟩
    · exact ⟨G, (b, o1) :: M, p, rfl, p_b S1, ok, fun p' G' H' e1 e2 s' ok' S' => q p' o1 G' H' e1 e2 s' ok' (B1.same s') (p_b2 S')⟩
    · obtain ⟨x, dx, l, m, r, sa, ws, vs, rows, zs, tk, rm, j⟩ := p
      have S1 : Sep G ((b, o1) :: (x, .ins T.C_Line dx (lnF sa rm l tk (j : Nat))) :: (l, .lst ws) :: (m, .lst [.ref r, .int tk, .int (j : Nat), .ref sa, .int rm]) :: M) H1 := S1
      have r3 : rm ≤ 3 := ok.r3
      have rl : (rows.length : Int) ≤ rm := ok.len
      have S2 := p_xl S1
      refine ⟨x, dx, _, rfl, S2.hd, rfl, G, _, x, dx, sa, l, rm, tk, _, ws, rows, rfl, S2, ok.w, by omega, fun L es G3 H3 s3 pe S3 => ?_⟩
      refine ⟨_, _, _, _, true, rfl, .ty _, .base (.lst S3.hd), kit_ty (by decide +kernel), ff, fun _ => ⟨.inl ⟨rfl, _, SqL.of S3.hd⟩, L, _, rfl, rfl, S3.hd, ?_⟩⟩
      exact q ⟨x, dx, l, m, r, sa, ws, vs, rows, zs, tk, rm, j⟩ o1 G3 _ rfl rfl s3 (ok.same s3) (B1.same s3) (p_xl2 (S3.set (o' := .lst [])).drop)

end
end K44
set_option Elab.async false
set_option linter.all false
set_option maxRecDepth 100000
set_option maxHeartbeats 4000000
namespace K44
open PySem PySem.Spec PyProof.Rows L2 XL
section
variable {P : Program} {w : World} {K : PySem.W.Frag} {mg : Str → Option Value} {base : Heap}
/-! ### the pairs -/
def spLaw (K : PySem.W.Frag) : Sp := fun vs H Q _ => ∃ (a : Addr) (ns : List Int), vs = [.ref a] ∧ SqL K H a (ns.map V.int) ∧ ns.length ≤ 63 ∧ ∀ H', Q (.bl true) H'
section
variable {α β : Type} {c : α → List β} {bs : List α} {j : Nat}
theorem cells_at {bx : α} (h : bs[j]? = some bx) : (bs.flatMap c).Perm (c bx ++ (bs.eraseIdx j).flatMap c) := by
  have z := (perm_erase h).symm.flatMap_right c
  rw [List.flatMap_cons] at z
  exact z
theorem cells_set {bx : α} (h : j < bs.length) : ((bs.set j bx).flatMap c).Perm (c bx ++ (bs.eraseIdx j).flatMap c) := by
  have z := cells_at (c := c) (bs := bs.set j bx) (j := j) (bx := bx) (by rw [List.getElem?_set_self h])
  rw [List.eraseIdx_set_eq] at z
  exact z
theorem flat_snoc (bs : List α) (b : α) : (bs ++ [b]).flatMap c = bs.flatMap c ++ c b := by
  rw [List.flatMap_append, List.flatMap_singleton]
end
section
variable {G H : Hp} {b u v : Addr × HO} {M : List (Addr × HO)} {f : Pp → List (Addr × HO)} {ps : List Pp} {i : Nat} {p p' : Pp}
theorem pick_out (S : Sep G (b :: u :: v :: ps.flatMap f) H) (h : ps[i]? = some p) : Sep G (b :: (f p ++ u :: v :: (ps.eraseIdx i).flatMap f)) H :=
  S.perm (List.Perm.cons _ (((cells_at (c := f) h).append_left [u, v]).trans (List.perm_append_comm_assoc [u, v] (f p) _)))
theorem put_in (S : Sep G (b :: (f p' ++ u :: v :: (ps.eraseIdx i).flatMap f)) H) (h : i < ps.length) : Sep G (b :: u :: v :: (ps.set i p').flatMap f) H :=
  S.perm (List.Perm.cons _ ((List.perm_append_comm_assoc (f p') [u, v] _).trans (((cells_set (c := f) h).symm).append_left [u, v])))
theorem b_in (S : Sep G (b :: (f p ++ M)) H) : Sep G (f p ++ b :: M) H := S.perm (List.perm_append_comm_assoc [b] (f p) M)
theorem b_out (S : Sep G (f p ++ b :: M) H) : Sep G (b :: (f p ++ M)) H := S.perm (List.perm_append_comm_assoc (f p) [b] M)
theorem p_13 {x y z : Addr × HO} (S : Sep G (x :: y :: z :: M) H) : Sep G (z :: y :: x :: M) H := (S.perm (List.perm_append_comm_assoc [x, y] [z] M)).perm (List.Perm.cons _ (List.Perm.swap _ _ _))
theorem p_23 {x y z : Addr × HO} (S : Sep G (x :: y :: z :: M) H) : Sep G (x :: z :: y :: M) H := S.perm (List.Perm.cons _ (List.Perm.swap _ _ _))
end
theorem map_set {γ : Type} {g : Pp → γ} {ps : List Pp} {i : Nat} {p p' : Pp} (h : ps[i]? = some p) (e : g p' = g p) : (ps.set i p').map g = ps.map g := by
  refine List.ext_getElem? fun k => ?_
  rw [List.getElem?_map, List.getElem?_map, List.getElem?_set]
  by_cases hk : i = k
  · subst hk
    rw [if_pos rfl, if_pos (List.getElem?_eq_some_iff.mp h).1, h]
    exact congrArg some e
  · rw [if_neg hk]
/-- lines made so far -/
def LcInv (C : Addr) (G : Hp) (Lc : Addr) (sa1 sa2 : Addr) (rm1 rm2 : Int) (N0 : List (Addr × HO)) : Nat → Hp → Prop
  | 0, H => Sep G ((Lc, .lst []) :: N0) H
  | 1, H => ∃ x1 dx1 l1, Sep G ((Lc, .lst [.ref x1]) :: (l1, .lst []) :: (x1, .ins C dx1 (lnF sa1 rm1 l1 0 0)) :: N0) H
  | _, H => ∃ x1 dx1 l1 x2 dx2 l2, Sep G ((Lc, .lst [.ref x1, .ref x2]) :: (l2, .lst []) :: (x2, .ins C dx2 (lnF sa2 rm2 l2 0 0)) :: (l1, .lst []) :: (x1, .ins C dx1 (lnF sa1 rm1 l1 0 0)) :: N0) H
section
variable {G H : Hp} {A B F : List (Addr × HO)} {b u v m' y l' x l m : Addr × HO} {f : Pp → List (Addr × HO)} {ps : List Pp} {i : Nat} {p : Pp}
theorem un_pick (S : Sep G (b :: (f p ++ u :: v :: (ps.eraseIdx i).flatMap f)) H) (h : ps[i]? = some p) : Sep G (b :: u :: v :: ps.flatMap f) H :=
  S.perm (List.Perm.cons _ (((cells_at (c := f) h).append_left [u, v]).trans (List.perm_append_comm_assoc [u, v] (f p) _)).symm)
theorem Sep.mid {a : Addr} {o o' : HO} (S : Sep G (A ++ (a, o) :: B) H) : Sep G (A ++ (a, o') :: B) (upd H a o') := ((S.perm List.perm_middle).set (o' := o')).perm List.perm_middle.symm
theorem Sep.midH {a : Addr} {o : HO} (S : Sep G (A ++ (a, o) :: B) H) : H a = some o := (S.perm List.perm_middle).hd
theorem grow_in (S : Sep G (m' :: y :: l' :: x :: l :: m :: b :: u :: v :: F) H) (h : (ps.flatMap f).Perm (x :: l :: m :: F)) : Sep G (b :: u :: v :: (ps.flatMap f ++ [y, l', m'])) H := by
  refine S.perm ((List.perm_append_comm_assoc [m', y, l', x, l, m] [b, u, v] F).trans (((?_ : ([m', y, l'] ++ (x :: l :: m :: F)).Perm _).append_left [b, u, v])))
  refine List.perm_append_comm.trans ?_
  exact h.symm.append (List.perm_middle (l₁ := [y, l']) (l₂ := [])).symm
end

end
end K44
set_option Elab.async false
set_option linter.all false
set_option maxRecDepth 100000
set_option maxHeartbeats 4000000
namespace K44
open PySem PySem.Spec PyProof.Rows L2 XL
section
variable {P : Program} {w : World} {K : PySem.W.Frag} {mg : Str → Option Value} {base : Heap}
theorem p_nine {G H : Hp} {Lc l2 x2 l1 x1 Mc m2 b m1 : Addr × HO} (S : Sep G [Lc, l2, x2, l1, x1, Mc, m2, b, m1] H) : Sep G [b, Lc, Mc, x1, l1, m1, x2, l2, m2] H :=
  S.perm ((List.perm_middle (l₁ := [Lc, l2, x2, l1, x1, Mc, m2])).trans (List.Perm.cons _ (List.Perm.cons _ ((List.perm_middle (l₁ := [l2, x2, l1, x1])).trans (List.Perm.cons _ ((List.perm_middle (l₁ := [l2, x2, l1])).trans (List.Perm.cons _ ((List.perm_middle (l₁ := [l2, x2])).trans (List.Perm.cons _
    ((List.perm_middle (l₁ := [l2, x2, m2])).trans (List.Perm.cons _ ((List.perm_middle (l₁ := [l2])).trans (List.Perm.refl _)))))))))))))
theorem ok_law (T : Top K mg w) (G_bag : FnOk P w K mg base CX0 1 T.a_bag T.d_bag ["_law_script"] (spBag K)) (G_pick : FnOk P w K mg base CX0 2 T.a_pick T.d_pick ["_law_bag_here", "_law_many"] spPick) (G_new_name : FnOk P w K mg base CX0 3 T.a_new_name T.d_new_name ["_law_bag_here", "_law_used"] spNew)
    (G_owner : FnOk P w K mg base CX0 4 T.a_owner T.d_owner ["_law_bag_here", "_law_owners"] spOwner) (G_new_model : FnOk P w K mg base CX0 4 T.a_new_model T.d_new_model ["_law_bag_here"] spNewM) (G_Line_init : FnOk P w K mg base CX0 1 T.a_Line_init T.d_Line_init ["self", "far", "room"] (spLn T.C_Line))
    (G_deed : FnOk P w K mg base CX0 6 T.a_deed T.d_deed ["_law_bag_here", "_law_line", "_law_model", "_law_owners", "_law_words"] (spDeed T.C_Line)) (G_same_line : FnOk P w K mg base CX0 4 T.a_same_line T.d_same_line ["_law_line", "_law_model"] (spSameL T.C_Line)) (G_Line_copy : FnOk P w K mg base CX0 3 T.a_Line_copy T.d_Line_copy ["self"] (spCopy T.C_Line))
    (G_refused : FnOk P w K mg base CX0 4 T.a_refused T.d_refused ["_law_line", "_law_number_here"] (spRef T.C_Line)) (G_same_entry : FnOk P w K mg base CX0 2 T.a_same_entry T.d_same_entry ["_law_entry", "_law_row"] (spSameE T.C_Entry)) (G_Line_take : FnOk P w K mg base (L2.CX P w) 3 T.a_Line_take T.d_Line_take ["self", "number"] (spTake T.C_Line T.C_Entry T.C_NoAnswer))
    (G_Line_entries : FnOk P w K mg base CX0 3 T.a_Line_entries T.d_Line_entries ["self"] (spEntries T.C_Line T.C_Entry)) : FnOk P w K mg base CX0 7 T.a_law T.d_law ["_law_script"] (spLaw K) := by
  refine T.F_law.ok sc_law (fun vs H Q E h => ?_) (fun cdv A outer s H vs Q E hr h => ?_)
  · obtain ⟨a, ns, rfl, _⟩ := h
    rfl
  · obtain ⟨a, ns, rfl, ha, hl, q⟩ := h
    refine ⟨_, (pss_cons (ps_set (i := 1) sc_law.nd rfl (.inl rfl) (pe_call G_bag (hr.mono (by omega)) (by rfl) T.g_bag T.F_bag.kp T.b_bag .nil pass0 (pa_cons (xv 0) pa_nil)))
      (pss_cons (ps_set (i := 2) sc_law.nd rfl (.inl rfl) (pe_lst pa_nil))
      (pss_cons (ps_set (i := 3) sc_law.nd rfl (.inl rfl) (pe_lst (pa_cons (pe_tup pa_nil) pa_nil)))
      (pss_cons (ps_for PassesOwn.never rfl (pi_range1 (by rfl) T.m_range (pa_cons (pe_op op_addY pe_int (pe_call G_pick (hr.mono (by omega)) (by rfl) T.g_pick T.F_pick.kp T.b_pick .nil pass0 (pa_cons (xv 1) (pa_cons pe_int pa_nil)))) pa_nil)) (pg_name (i := 4) sc_law.nd rfl (.inl rfl))
      (pss_cons (ps_expr (pe_call G_new_name (hr.mono (by omega)) (by rfl) T.g_new_name T.F_new_name.kp T.b_new_name .nil pass0 (pa_cons (xv 1) (pa_cons (xv 2) pa_nil))))
      (pss_one (ps_expr (pe_bmK K PySem.F.plainAttrs_list PySem.F.slot_list_append PySem.F.type_list_append mt_append (xv 3) (pa_cons (pe_call G_owner (hr.mono (by omega)) (by rfl) T.g_owner T.F_owner.kp T.b_owner .nil pass0 (pa_cons (xv 1) (pa_cons (xv 3) pa_nil))) pa_nil))))))
      (pss_cons (ps_set (i := 5) sc_law.nd rfl (.inl rfl) (pe_lst (pa_cons (pe_call G_new_model (hr.mono (by omega)) (by rfl) T.g_new_model T.F_new_model.kp T.b_new_model .nil pass0 (pa_cons (xv 1) pa_nil)) (pa_cons (pe_call G_new_model (hr.mono (by omega)) (by rfl) T.g_new_model T.F_new_model.kp T.b_new_model .nil pass0 (pa_cons (xv 1) pa_nil)) pa_nil))))
      (pss_cons (ps_setLc (i := 7) (own := [("_law_model", 6)]) (by rfl) sc_law.nd rfl rfl (sw_true rfl rfl rfl (by decide +kernel)) (pi_listK K (xv 5)) (blkOk_by (N := ["_law_script", "_law_bag_here", "_law_words", "_law_owners", "_law_step_here", "_law_models", "_law_model", "_law_lines", "_law_turn", "_law_at", "_law_line", "_law_row"]) (sc := defScope s_law) (by decide +kernel)) (fun _ _ _ _ _ => (pg_name (i := 6) sc_law.nd rfl (.inl rfl))) (fun _ _ _ _ _ => pts_nil) (fun _ _ _ _ _ => (pe_make T.mk_Line G_Line_init (hr.mono (by omega)) (by rfl) T.g_Line T.b_Line_init .nil pass0 (pa_cons (pe_ix (ix_k K) (xv 6) pe_int (fun _ _ => rfl)) (pa_cons (pe_ix (ix_k K) (xv 6) pe_int (fun _ _ => rfl)) pa_nil)))))
      (pss_cons (ps_for PassesOwn.never rfl (pi_range1 (by rfl) T.m_range (pa_cons (pe_op op_addY pe_int (pe_call G_pick (hr.mono (by omega)) (by rfl) T.g_pick T.F_pick.kp T.b_pick .nil pass0 (pa_cons (xv 1) (pa_cons pe_int pa_nil)))) pa_nil)) (pg_name (i := 8) sc_law.nd rfl (.inl rfl))
      (pss_cons (ps_set (i := 9) sc_law.nd rfl (.inl rfl) (pe_call G_pick (hr.mono (by omega)) (by rfl) T.g_pick T.F_pick.kp T.b_pick .nil pass0 (pa_cons (xv 1) (pa_cons (pe_callB (cr_lenK K) (by rfl) T.m_len (by decide +kernel) (pa_cons (xv 7) pa_nil)) pa_nil))))
      (pss_cons (xs_if (PW.pt (xw_or (pt_not (xt_truK K (pe_call G_deed (hr.mono (by omega)) (by rfl) T.g_deed T.F_deed.kp T.b_deed .nil pass0 (pa_cons (xv 1) (pa_cons (pe_ix (ix_k K) (xv 7) (xv 9) (fun _ _ => rfl)) (pa_cons (pe_ix (ix_k K) (xv 5) (xv 9) (fun _ _ => rfl)) (pa_cons (xv 3) (pa_cons (xv 2) pa_nil)))))))) (pw_or1 (pt_not (xt_truK K (pe_call G_same_line (hr.mono (by omega)) (by rfl) T.g_same_line T.F_same_line.kp T.b_same_line .nil pass0 (pa_cons (pe_ix (ix_k K) (xv 7) (xv 9) (fun _ _ => rfl)) (pa_cons (pe_ix (ix_k K) (xv 5) (xv 9) (fun _ _ => rfl)) pa_nil))))))))
      (pss_one (ps_ret pe_bl))
      pss_nil)
      (pss_one (xs_if (PW.pt (xw_and (xt_cmp op_ltY (pe_callB (cr_lenK K) (by rfl) T.m_len (by decide +kernel) (pa_cons (xv 7) pa_nil)) pe_int (nomark _)) (pw_and1 (xt_cmp (op_eqK K hr.units) (pe_call G_pick (hr.mono (by omega)) (by rfl) T.g_pick T.F_pick.kp T.b_pick .nil pass0 (pa_cons (xv 1) (pa_cons pe_int pa_nil))) pe_int (nomark _)))))
      (pss_cons (ps_expr (pe_bmK K PySem.F.plainAttrs_list PySem.F.slot_list_append PySem.F.type_list_append mt_append (xv 7) (pa_cons (pe_meth0 (pe_ix (ix_k K) (xv 7) (xv 9) (fun _ _ => rfl)) T.cl_Line T.me_Line_copy G_Line_copy (hr.mono (by omega)) T.b_Line_copy .nil pass0) pa_nil)))
      (pss_one (ps_expr (pe_bmK K PySem.F.plainAttrs_list PySem.F.slot_list_append PySem.F.type_list_append mt_append (xv 5) (pa_cons (pe_callTy (call_listK K) (by rfl) T.m_list (by decide +kernel) (pa_cons (pe_ix (ix_k K) (xv 5) (xv 9) (fun _ _ => rfl)) pa_nil)) pa_nil)))))
      pss_nil)))))
      (pss_cons (ps_for PassesOwn.never rfl (pi_zipK K (by rfl) T.m_zip (pa_cons (xv 7) (pa_cons (xv 5) pa_nil))) (pg_tupK K 2 (pgs_cons (pg_name (i := 10) sc_law.nd rfl (.inl rfl)) (pgs_cons (pg_name (i := 6) sc_law.nd rfl (.inl rfl)) pgs_nil)))
      (pss_cons (xs_if (PW.pt (xw_or (pt_not (xt_truK K (pe_call G_same_line (hr.mono (by omega)) (by rfl) T.g_same_line T.F_same_line.kp T.b_same_line .nil pass0 (pa_cons (xv 10) (pa_cons (xv 6) pa_nil))))) (pw_or1 (pt_not (xt_truK K (pe_call G_refused (hr.mono (by omega)) (by rfl) T.g_refused T.F_refused.kp T.b_refused .nil pass0 (pa_cons (xv 10) (pa_cons (pe_callB (cr_lenK K) (by rfl) T.m_len (by decide +kernel) (pa_cons (pe_ix (ix_k K) (xv 6) pe_int (fun _ _ => rfl)) pa_nil)) pa_nil))))))))
      (pss_one (ps_ret pe_bl))
      pss_nil)
      (pss_cons (ps_for PassesOwn.never rfl (pi_listK K (pe_ix (ix_k K) (xv 6) pe_int (fun _ _ => rfl))) (pg_name (i := 11) sc_law.nd rfl (.inl rfl))
      (pss_one (xs_if (pt_not (xt_truK K (pe_call G_same_entry (hr.mono (by omega)) (by rfl) T.g_same_entry T.F_same_entry.kp T.b_same_entry .nil pass0 (pa_cons (pe_meth (xv 10) T.cl_Line T.me_Line_take G_Line_take (hr.mono (by omega)) T.b_Line_take .nil passL (pa_cons pe_int pa_nil)) (pa_cons (xv 11) pa_nil)))))
      (pss_one (ps_ret pe_bl))
      pss_nil)))
      (pss_one (xs_if (PW.pt (xw_or (pt_not (xt_truK K (pe_call G_refused (hr.mono (by omega)) (by rfl) T.g_refused T.F_refused.kp T.b_refused .nil pass0 (pa_cons (xv 10) (pa_cons pe_int pa_nil))))) (pw_or1 (xt_cmp (op_neK K hr.units) (pe_meth0 (xv 10) T.cl_Line T.me_Line_entries G_Line_entries (hr.mono (by omega)) T.b_Line_entries .nil pass0) (pe_lst pa_nil) (nomark _)))))
      (pss_one (ps_ret pe_bl))
      pss_nil)))))
      (pss_one (ps_ret pe_bl)))))))))), ?_⟩
    refine ⟨H, [], a, ns, rfl, sep0, ha, hl, fun b o1 G1 H1 _ B1 S1 => ⟨sz, fun wl nwl => ?_⟩⟩
    have S2 := S1.new (o := .lst []) nwl
    refine ⟨sz, fun e0 ne0 => ?_⟩
    obtain ⟨G3, s3, S3, h3⟩ := Sep.mk (o := .tup []) S2 ne0
    refine ⟨sz, fun ol nol => ?_⟩
    have S4 := p_13 (S3.new (o := .lst [.ref e0]) nol)
    have ow0 : OwAt G3 (.ref e0) := ⟨e0, [], rfl, h3, by decide, fun _ h => nomatch h⟩
    refine ⟨G3, _, b, o1, 3, rfl, S4, B1.same s3, by decide, by decide, fun r1 o2 H5 r10 r11 B5 S5 => ⟨_, rfl, by omega, by omega, for_range (lo := 0) (n := (1 + r1).toNat) (fun i σ H' => ∃ (y4 : Option V) (o' : HO) (zs : List Str) (os : List V) (G' : Hp), σ = [some (.ref a), some (.ref b), some (.ref wl), some (.ref ol), y4, none, none, none, none, none, none, none] ∧
      zs.length = i ∧ os.length = i + 1 ∧ (∀ z ∈ zs, Lt 1 8 z) ∧ (∀ v ∈ os, OwAt G' v) ∧ Bag G' o' ∧ Sep G' [(b, o'), (wl, .lst (zs.map V.str)), (ol, .lst os)] H') ⟨_, o2, [], [.ref e0], G3, rfl, rfl, rfl, (fun _ h => nomatch h), fun v hv => ?_, B5, S5⟩ (fun i σ H' hi h => ?_) (fun σ H' h => ?_)⟩⟩
    · rw [List.mem_singleton.mp hv]
      exact ow0
    · obtain ⟨y4, o', zs, os, G', rfl, zl, ll, hz, ho, B', S'⟩ := h
      refine ⟨G', _, b, o', wl, zs, rfl, S', B', hz, by omega, fun z o6 H6 ltz _ _ _ B6 S6 => ?_⟩
      have S7 := p_23 S6
      refine ⟨.inl ⟨rfl, _, SqL.of S7.sw.hd⟩, G', _, b, o6, ol, os, rfl, S7, B6, ho, by omega, fun v o8 G8 H8 s8 hv B8 S8 => ?_⟩
      refine ⟨ol, _, _, rfl, rfl, S8.sw.hd, smallL (by omega), ?_⟩
      refine ⟨_, o8, zs ++ [z], os ++ [v], G8, rfl, by rw [List.length_append, zl]; rfl, by rw [List.length_append, ll]; rfl, fun y hy => ?_, fun u hu => ?_, B8, p_23 (S8.sw.set).sw⟩
      · rcases List.mem_append.mp hy with k | k
        · exact hz y k
        · rw [List.mem_singleton.mp k]; exact ltz
      · rcases List.mem_append.mp hu with k | k
        · exact (ho u k).same s8
        · rw [List.mem_singleton.mp k]; exact hv
    obtain ⟨y4, o6, zs, os, G6, rfl, zl, ll, hz, ho, B6, S6⟩ := h
    -- words and owners stay
    obtain ⟨G7, s7, S7, hwl⟩ := Sep.keep S6.sw
    obtain ⟨G8, s8, S8, hol⟩ := Sep.keep S7.sw
    have hwl := s8 _ _ hwl
    have how : ∀ v ∈ os, OwAt G8 v := fun v hv => ((ho v hv).same s7).same s8
    have B8 := (B6.same s7).same s8
    refine ⟨G8, _, b, o6, rfl, S8, B8, fun m1 q1 sa1 z1 rm1 o9 G9 H9 s9 hq1 st1 z11 z13 rm11 rm13 B9 S9 => ?_⟩
    refine ⟨G9, _, b, o9, rfl, S9.sw, B9, fun m2 q2 sa2 z2 rm2 o10 G10 H10 s10 hq2 st2 z21 z23 rm21 rm23 B10 S10 => ⟨sz, fun Mc nMc => ?_⟩⟩
    have S11 := S10.new (o := .lst [.ref m1, .ref m2]) nMc
    have hq1 := s10 _ _ hq1
    have st1 := st1.same s10
    have hwl := s10 _ _ (s9 _ _ hwl)
    have hol := s10 _ _ (s9 _ _ hol)
    have how : ∀ v ∈ os, OwAt G10 v := fun v hv => ((how v hv).same s9).same s10
    obtain ⟨us1, hu1, pu1⟩ := id st1
    obtain ⟨us2, hu2, pu2⟩ := id st2
    obtain ⟨N0, eN⟩ : ∃ N0, N0 = [(Mc, HO.lst [.ref m1, .ref m2]), (m2, HO.lst [.ref q2, .int 0, .int 0, .ref sa2, .int rm2]), (b, o10), (m1, HO.lst [.ref q1, .int 0, .int 0, .ref sa1, .int rm1])] := ⟨_, rfl⟩
    have mMc : (Mc, HO.lst [.ref m1, .ref m2]) ∈ N0 := by rw [eN]; simp
    have mm1 : (m1, HO.lst [.ref q1, .int 0, .int 0, .ref sa1, .int rm1]) ∈ N0 := by rw [eN]; simp
    have mm2 : (m2, HO.lst [.ref q2, .int 0, .int 0, .ref sa2, .int rm2]) ∈ N0 := by rw [eN]; simp
    have S11 : Sep G10 N0 (upd H10 Mc (.lst [.ref m1, .ref m2])) := by rw [eN]; exact S11
    refine ⟨Mc, rfl, ⟨_, SqL.of (S11.at mMc)⟩, fun Lc nLc => lc_list (xs := [.ref m1, .ref m2]) (fun i H' => LcInv T.C_Line G10 Lc sa1 sa2 rm1 rm2 N0 i H') (S11.new nLc) (fun i H' hi h => ?_) (fun i y H' hy h => ?_) (fun H' h => ?_)⟩
    · have hi : i ≤ 2 := hi
      rcases (show i = 0 ∨ i = 1 ∨ i = 2 by omega) with rfl | rfl | rfl
      · exact SqL.of (Sep.at h (List.mem_cons_of_mem _ mMc))
      · obtain ⟨_, _, _, S'⟩ := h
        exact SqL.of (S'.at (List.mem_cons_of_mem _ (List.mem_cons_of_mem _ (List.mem_cons_of_mem _ mMc))))
      · obtain ⟨_, _, _, _, _, _, S'⟩ := h
        exact SqL.of (S'.at (List.mem_cons_of_mem _ (List.mem_cons_of_mem _ (List.mem_cons_of_mem _ (List.mem_cons_of_mem _ (List.mem_cons_of_mem _ mMc))))))
    · have hi : i < 2 := (List.getElem?_eq_some_iff.mp hy).1
      rcases (show i = 0 ∨ i = 1 by omega) with rfl | rfl
      · have ey : V.ref m1 = y := Option.some.inj hy
        subst ey
        have S' : Sep G10 ((Lc, .lst []) :: N0) H' := h
        have hm := S'.at (List.mem_cons_of_mem _ mm1)
        refine ⟨rfl, _, _, .inl (SqL.of hm), rfl, _, _, .inl (SqL.of hm), rfl, fun x dx nx ndx hne => ?_⟩
        refine ⟨G10, _, x, dx, sa1, rm1, us1, rfl, (S'.new2 (o := .ins T.C_Line dx []) (u := .own x) nx ndx hne).sw.drop, hu1, fun l H2 S2 => ⟨rfl, ?_⟩⟩
        have S3 := p_13 S2
        exact ⟨_, S3.hd, smallL (by decide), x, dx, l, p_23 S3.set⟩
      · have ey : V.ref m2 = y := Option.some.inj hy
        subst ey
        obtain ⟨x1, dx1, l1, S'⟩ := h
        have hm := S'.at (List.mem_cons_of_mem _ (List.mem_cons_of_mem _ (List.mem_cons_of_mem _ mm2)))
        refine ⟨rfl, _, _, .inl (SqL.of hm), rfl, _, _, .inl (SqL.of hm), rfl, fun x dx nx ndx hne => ?_⟩
        refine ⟨G10, _, x, dx, sa2, rm2, us2, rfl, (S'.new2 (o := .ins T.C_Line dx []) (u := .own x) nx ndx hne).sw.drop, hu2, fun l H2 S2 => ⟨rfl, ?_⟩⟩
        have S3 := p_13 S2
        exact ⟨_, S3.hd, smallL (by show 1 < 100000; decide), x1, dx1, l1, x, dx, l, p_23 S3.set⟩
    obtain ⟨x1, dx1, l1, x2, dx2, l2, S12⟩ := h
    have S13 : Sep G10 ((b, o10) :: (Lc, .lst [.ref x1, .ref x2]) :: (Mc, .lst [.ref m1, .ref m2]) :: ([⟨x1, dx1, l1, m1, q1, sa1, [], [], [], z1, 0, rm1, 0⟩, ⟨x2, dx2, l2, m2, q2, sa2, [], [], [], z2, 0, rm2, 0⟩] : List Pp).flatMap (Pp.cells T.C_Line)) H' := by
      rw [eN] at S12
      exact p_nine S12
    have ok1 : Pp.ok G10 ⟨x1, dx1, l1, m1, q1, sa1, [], [], [], z1, 0, rm1, 0⟩ := ⟨.nil, hq1, .nil, st1, z13, (show 0 < z1.length by omega), rm11, rm13, (show ((0 : Nat) : Int) ≤ rm1 by omega)⟩
    have ok2 : Pp.ok G10 ⟨x2, dx2, l2, m2, q2, sa2, [], [], [], z2, 0, rm2, 0⟩ := ⟨.nil, hq2, .nil, st2, z23, (show 0 < z2.length by omega), rm21, rm23, (show ((0 : Nat) : Int) ≤ rm2 by omega)⟩
    refine ⟨G10, _, b, o10, 26, rfl, S13, B10, by decide, by decide, fun r14 o14 H14 r140 r141 B14 S14 => ⟨_, rfl, by omega, by omega, for_range (lo := 0) (n := (5 + r14).toNat) (fun i σ H' => ∃ (y4 y6 y8 y9 : Option V) (o' : HO) (ps : List Pp) (G' : Hp), σ = [some (.ref a), some (.ref b), some (.ref wl), some (.ref ol), y4, some (.ref Mc), y6, some (.ref Lc), y8, y9, none, none] ∧ Same G10 G' ∧ Bag G' o' ∧ 2 ≤ ps.length ∧ ps.length ≤ 4 ∧ (∀ p ∈ ps, p.ok G') ∧
      Sep G' ((b, o') :: (Lc, .lst (ps.map fun p : Pp => V.ref p.x)) :: (Mc, .lst (ps.map fun p : Pp => V.ref p.m)) :: ps.flatMap (Pp.cells T.C_Line)) H') ⟨_, _, _, _, o14, [⟨x1, dx1, l1, m1, q1, sa1, [], [], [], z1, 0, rm1, 0⟩, ⟨x2, dx2, l2, m2, q2, sa2, [], [], [], z2, 0, rm2, 0⟩], G10, rfl, Same.refl _, B14, by show 2 ≤ 2; decide, by show 2 ≤ 4; decide, fun p hp => ?_, S14⟩ (fun i σ H' hi h => ?_) (fun σ H' h => ?_)⟩⟩
    · simp only [List.mem_cons, List.not_mem_nil, or_false] at hp
      rcases hp with rfl | rfl
      · exact ok1
      · exact ok2
    · -- a turn
      obtain ⟨y4, y6, y8, y9, o15, ps, G15, rfl, s15, B15, p2, p4, okp, S15⟩ := h
      refine ⟨_, .inl (SqL.of S15.sw.hd), G15, _, b, o15, _, rfl, S15, B15, by rw [List.length_map]; omega, by rw [List.length_map]; omega, fun at_ o16 H16 a0 a1 B16 S16 => ?_⟩
      rw [List.length_map] at a1
      obtain ⟨j, rfl⟩ := Int.eq_ofNat_of_zero_le a0
      have jl : j < ps.length := by omega
      obtain ⟨p, hp⟩ : ∃ p, ps[j]? = some p := ⟨_, List.getElem?_eq_getElem jl⟩
      have hx : (ps.map fun p => V.ref p.x)[j]? = some (.ref p.x) := by rw [List.getElem?_map, hp]; rfl
      have hm : (ps.map fun p => V.ref p.m)[j]? = some (.ref p.m) := by rw [List.getElem?_map, hp]; rfl
      refine ⟨_, _, .inl (SqL.of S16.sw.hd), atI_nat hx, _, _, .inl (SqL.of S16.drop.drop.hd), atI_nat hm, ?_⟩
      refine ⟨G15, _, b, o16, p, ol, wl, os, zs, rfl, pick_out S16 hp, B16, okp p (List.mem_of_getElem? hp), s15 _ _ hol, fun v hv => (how v hv).same s15, by omega, by omega, s15 _ _ hwl, by omega, by omega, fun p' o17 G17 H17 ex em s17 ok17 B17 S17 => ⟨ff, fun _ => ?_⟩⟩
      have ex' : (ps.set j p').map (fun p : Pp => V.ref p.x) = ps.map fun p : Pp => V.ref p.x := map_set hp (by rw [ex])
      have em' : (ps.set j p').map (fun p : Pp => V.ref p.m) = ps.map fun p : Pp => V.ref p.m := map_set hp (by rw [em])
      have S18 := put_in S17 jl
      rw [← ex', ← em'] at S18
      have hp' : (ps.set j p')[j]? = some p' := List.getElem?_set_self jl
      have okp' : ∀ p ∈ ps.set j p', p.ok G17 := fun u hu => by
        rcases List.mem_or_eq_of_mem_set hu with z | z
        · exact (okp u z).same s17
        · rw [z]; exact ok17
      have pl : (ps.set j p').length = ps.length := List.length_set
      have s17 := s15.trans s17
      generalize ps.set j p' = ps' at *
      have hx : (ps'.map fun p : Pp => V.ref p.x)[j]? = some (.ref p'.x) := by rw [List.getElem?_map, hp']; rfl
      have hm : (ps'.map fun p : Pp => V.ref p.m)[j]? = some (.ref p'.m) := by rw [List.getElem?_map, hp']; rfl
      refine ⟨_, _, .inl (SqL.of S18.sw.hd), atI_nat hx, _, _, .inl (SqL.of S18.drop.drop.hd), atI_nat hm, G17, _, p', rfl, b_in (pick_out S18 hp'), ok17, fun G19 H19 s19 S19 => ⟨ff, fun _ => ?_⟩⟩
      have S20 := un_pick (b_out S19) hp'
      have B20 := B17.same s19
      have ok20 : ∀ p ∈ ps', p.ok G19 := fun u hu => (okp' u hu).same s19
      have s20 := s17.trans s19
      refine ⟨_, .inl (SqL.of S20.sw.hd), fun el => ⟨G19, _, b, o17, 8, rfl, S20, B20, by decide, by decide, fun r21 o21 H21 _ _ B21 S21 => ⟨fun _ => ?_, fun _ => ?_⟩⟩, fun _ => ⟨ff, fun _ => ?_⟩⟩
      · have el : (ps'.map fun p : Pp => V.ref p.x).length < 4 := by
          have z := of_decide_eq_true el
          omega
        rw [List.length_map] at el
        obtain ⟨x, dx, l, m, r, sa, ws, vs, rows, zz, tk, rm, jj⟩ := p'
        have okn := ok20 _ (List.mem_of_getElem? hp')
        obtain ⟨us, hu, _⟩ := okn.st
        have fl := cells_at (c := Pp.cells T.C_Line) hp'
        have S22 : Sep G19 ((x, .ins T.C_Line dx (lnF sa rm l tk (jj : Nat))) :: (l, .lst ws) :: (m, .lst [.ref r, .int tk, .int (jj : Nat), .ref sa, .int rm]) :: (b, o21) :: (Lc, .lst (ps'.map fun p : Pp => V.ref p.x)) :: (Mc, .lst (ps'.map fun p : Pp => V.ref p.m)) :: (ps'.eraseIdx j).flatMap (Pp.cells T.C_Line)) H21 := b_in (pick_out S21 hp')
        refine ⟨.inl ⟨rfl, _, SqL.of S21.sw.hd⟩, _, _, .inl (SqL.of S21.sw.hd), atI_nat hx, x, dx, _, rfl, S22.hd, rfl, G19, _, x, dx, sa, l, rm, tk, _, ws, us, rfl, S22, hu, fun y dy l' H23 S23 => ?_⟩
        refine ⟨Lc, _, _, rfl, rfl, Sep.midH (A := [_, _, _, _, _, _]) S23, by rw [List.length_map]; exact smallL (by omega), ?_⟩
        have S24 := Sep.mid (A := [_, _, _, _, _, _]) (o' := .lst ((ps'.map fun p : Pp => V.ref p.x) ++ [.ref y])) S23
        have hMc := Sep.midH (A := [_, _, _, _, _, _, _]) S24
        refine ⟨.inl ⟨rfl, _, SqL.of hMc⟩, _, _, .inl (SqL.of hMc), atI_nat hm, m, _, rfl, .inl (SqL.of (Sep.midH (A := [_, _, _, _]) S24)), fun m' nm' => ?_⟩
        have S25 := S24.new (o := .lst [.ref r, .int tk, .int (jj : Nat), .ref sa, .int rm]) nm'
        refine ⟨Mc, _, _, rfl, rfl, Sep.midH (A := [_, _, _, _, _, _, _, _]) S25, by rw [List.length_map]; exact smallL (by omega), ?_⟩
        have S26 := Sep.mid (A := [_, _, _, _, _, _, _, _]) (o' := .lst ((ps'.map fun p : Pp => V.ref p.m) ++ [.ref m'])) S25
        have S27 := grow_in S26 fl
        refine ⟨_, _, _, _, o21, ps' ++ [⟨y, dy, l', m', r, sa, ws, vs, rows, zz, tk, rm, jj⟩], G19, rfl, s20, B21, by rw [List.length_append]; omega, by rw [List.length_append]; show _ + 1 ≤ 4; omega, fun u hu => ?_, ?_⟩
        · rcases List.mem_append.mp hu with z | z
          · exact ok20 u z
          · rw [List.mem_singleton.mp z]
            exact ⟨okn.w, okn.r, okn.v, okn.st, okn.z3, okn.j, okn.r1, okn.r3, okn.len⟩
        · rw [List.map_append, List.map_append, flat_snoc]
          exact S27
      · exact ⟨_, _, _, _, o21, ps', G19, rfl, s20, B21, by omega, by omega, ok20, S21⟩
      · exact ⟨_, _, _, _, o17, ps', G19, rfl, s20, B20, by omega, by omega, ok20, S20⟩
    · -- at last
      obtain ⟨y4, y6, y8, y9, o15, ps, G15, rfl, s15, B15, p2, p4, okp, S15⟩ := h
      have S16 := S15.drop
      refine ⟨Lc, Mc, _, _, rfl, SqL.of S16.hd, SqL.of S16.sw.hd, RZ.for_zipL (xs := ps.map fun p : Pp => V.ref p.x) (ys := ps.map fun p : Pp => V.ref p.m) (by rw [List.length_map, List.length_map]) (fun i σ H' => ∃ (y6 y10 y11 : Option V) (G' : Hp), σ = [some (.ref a), some (.ref b), some (.ref wl), some (.ref ol), y4, some (.ref Mc), y6, some (.ref Lc), y8, y9, y10, y11] ∧ Same G15 G' ∧
        Sep G' ((Lc, .lst (ps.map fun p : Pp => V.ref p.x)) :: (Mc, .lst (ps.map fun p : Pp => V.ref p.m)) :: (ps.drop i).flatMap (Pp.cells T.C_Line)) H') ⟨_, _, _, G15, rfl, Same.refl _, S16⟩ (fun i σ H' h => ?_) (fun i u v W σ H' hu hv h nW => ?_) (fun σ H' h => ?_)⟩
      · obtain ⟨_, _, _, G', _, _, S'⟩ := h
        exact ⟨SqL.of S'.hd, SqL.of S'.sw.hd⟩
      · obtain ⟨y6, y10, y11, G', rfl, s', S'⟩ := h
        rw [List.getElem?_map] at hu hv
        obtain ⟨p, hp, rfl⟩ := Option.map_eq_some_iff.mp hu
        rw [hp] at hv
        cases hv
        have okn := (okp p (List.mem_of_getElem? hp)).same s'
        have dr : ps.drop i = p :: ps.drop (i + 1) := by
          obtain ⟨il, e⟩ := List.getElem?_eq_some_iff.mp hp
          rw [List.drop_eq_getElem_cons il, e]
        rw [dr, List.flatMap_cons] at S'
        obtain ⟨G1', s1', S1', h1'⟩ := Sep.mk (o := .tup [V.ref p.x, .ref p.m]) S' nW
        have S2' := S1'.perm (List.perm_append_comm_assoc [_, _] (p.cells T.C_Line) _)
        have okn := okn.same s1'
        refine ⟨W, _, rfl, SqT.of (S1'.st h1'), rfl, _, _, rfl, _, _, rfl, rfl, G1', _, p, rfl, S2', okn, fun G3 H3 s3 S3 => ⟨ff, fun _ => ?_⟩⟩
        have okn := okn.same s3
        have sx := s'.trans (s1'.trans s3)
        obtain ⟨x, dx, l, m, r, sa, ws, vs, rows, zz, tk, rm, jj⟩ := p
        have S3 : Sep G3 ((x, .ins T.C_Line dx (lnF sa rm l tk (jj : Nat))) :: (l, .lst ws) :: (m, .lst [.ref r, .int tk, .int (jj : Nat), .ref sa, .int rm]) :: (Lc, .lst (ps.map fun p : Pp => V.ref p.x)) :: (Mc, .lst (ps.map fun p : Pp => V.ref p.m)) :: (ps.drop (i + 1)).flatMap (Pp.cells T.C_Line)) H3 := S3
        have hr3 : G3 r = some (.lst vs) := okn.r
        have r3 : rm ≤ 3 := okn.r3
        have rl : (rows.length : Int) ≤ rm := okn.len
        have vl : vs.length = rows.length := prd_len okn.v
        refine ⟨_, _, .inl (SqL.of S3.drop.drop.hd), rfl, _, .inl (SqL.of (S3.st hr3)), G3, _, x, dx, sa, l, rm, tk, _, _, ws, rows, rfl, S3, okn.w, by omega, .inr (by omega), lgN (by omega) (by omega), fun G4 H4 s4 S4 => ⟨ff, fun _ => ?_⟩⟩
        have hr4 : G4 r = some (.lst vs) := s4 _ _ hr3
        have okn := okn.same s4
        have pv : Paired (RwAt G4) vs rows := okn.v
        refine ⟨_, _, .inl (SqL.of S4.drop.drop.hd), rfl, r, rfl, ⟨_, SqL.of (S4.st hr4)⟩, for_list (xs := vs) (fun k σ H' => ∃ (y11 : Option V) (ws' : List V) (G' : Hp), σ = [some (.ref a), some (.ref b), some (.ref wl), some (.ref ol), y4, some (.ref Mc), some (.ref m), some (.ref Lc), y8, y9, some (.ref x), y11] ∧ Same G4 G' ∧ Paired (RwAt G') ws' (rows.drop k) ∧
          Sep G' ((x, .ins T.C_Line dx (lnF sa rm l tk (jj : Nat))) :: (l, .lst ws') :: (m, .lst [.ref r, .int tk, .int (jj : Nat), .ref sa, .int rm]) :: (Lc, .lst (ps.map fun p : Pp => V.ref p.x)) :: (Mc, .lst (ps.map fun p : Pp => V.ref p.m)) :: (ps.drop (i + 1)).flatMap (Pp.cells T.C_Line)) H') ⟨_, ws, G4, rfl, Same.refl _, okn.w, S4⟩ (fun k σ H' _ h => ?_) (fun k v σ H' hv h => ?_) (fun σ H' h => ?_)⟩
        · obtain ⟨_, _, G', _, s', _, S'⟩ := h
          exact SqL.of (S'.st (s' _ _ hr4))
        · obtain ⟨y11, ws', G5, rfl, s5, pw5, S5⟩ := h
          obtain ⟨rw_, hrw, fv⟩ := prd_get pv hv
          have kl := (List.getElem?_eq_some_iff.mp hrw).1
          have dr5 : rows.drop k = rw_ :: rows.drop (k + 1) := by
            obtain ⟨il, e⟩ := List.getElem?_eq_some_iff.mp hrw
            rw [List.drop_eq_getElem_cons il, e]
          refine ⟨x, dx, _, rfl, S5.hd, rfl, G5, _, x, dx, sa, l, rm, tk, _, 0, ws', rows.drop k, rfl, S5, pw5, by rw [List.length_drop]; omega, by decide, fun k0 r0 e ws6 G6 H6 e0 h0 s6 en pw6 S6 => ?_, fun hn => ?_⟩
          · have ek : k0 = 0 := by omega
            subst ek
            rw [dr5] at h0 pw6
            cases h0
            refine ⟨G6, _, _, v, rw_, rfl, S6, en, fv.same (s5.trans s6), fun G7 H7 s7 S7 => ⟨ff, fun _ => ?_⟩⟩
            exact ⟨_, ws6, G7, rfl, s5.trans (s6.trans s7), rws_same s7 pw6, S7⟩
          · rw [List.length_drop] at hn
            exact absurd hn (by omega)
        · obtain ⟨y11, ws', G5, rfl, s5, pw5, S5⟩ := h
          rw [List.drop_eq_nil_of_le (by omega)] at pw5
          refine ⟨G5, _, x, dx, sa, l, rm, tk, _, 0, ws', [], rfl, S5, pw5, by decide, .inr (by decide), by decide, fun G6 H6 s6 S6 => ⟨ff, fun _ => ?_⟩⟩
          refine ⟨x, dx, _, rfl, S6.hd, rfl, G6, _, x, dx, sa, l, rm, tk, _, ws', [], rfl, S6, rws_same s6 pw5, by decide, fun L es G7 H7 s7 pe S7 => ⟨sz, fun Z nZ => ?_⟩⟩
          cases pe
          have S8 := S7.new (o := .lst []) nZ
          refine ⟨.list [], .list [], .lst (SqL.of S8.sw.hd) .nil, .lst (SqL.of S8.hd) .nil, by decide, by decide, fun e => ?_, fun _ => ?_⟩
          · exact absurd e (by decide)
          · exact ⟨_, _, _, G7, rfl, sx.trans (s4.trans (s5.trans (s6.trans s7))), S8.drop.drop.drop.drop.drop⟩
      · exact q H'
end
end K44
set_option Elab.async false
set_option linter.all false
set_option maxRecDepth 100000
set_option maxHeartbeats 4000000
namespace K44
open PySem PySem.Spec PyProof.Rows L2 XL
section
theorem law_end {l : PySem.W.OpenLaw} {w : World} {K : PySem.W.Frag} {h : Heap} {mg : Str → Option Value} {fa f : Addr} {file : Str} (X : K.In h) (G : h.Ns mainGlobals mg) (hfa : mg "law" = some (.ref fa))
    (t : ∃ T : Top K mg w, T.a_law = f ∧ T.x_file = file ∧ ∀ (s : Shared) (v : Value), BindsTo s T.d_law ⟨[v], []⟩ [("_law_script", v)]) (pf0 : PySem.XExc.PF l.prog file) :
    ∃ fd : FuncData, (∀ (s : Shared) (v : Value), BindsTo s fd ⟨[v], []⟩ [("_law_script", v)]) ∧ ∀ base : Heap, K.In base → base.Ns mainGlobals mg → FnOk l.prog w K mg base CX0 7 fa fd ["_law_script"] (spLaw K) := by
  obtain ⟨T, _, ef, hb⟩ := t
  have pf : PySem.XExc.PF l.prog T.x_file := by rw [ef]; exact pf0
  have e := hfa.symm.trans T.g_law
  cases e
  refine ⟨T.d_law, hb, fun base _ _ => ?_⟩
  have Gm : FnOk l.prog w K mg base CX0 1 T.a_mixed T.d_mixed _ spMixed := ok_mixed T
  have Gp := ok_pick T Gm
  have Gs := ok_step T Gp
  have Gst := ok_store T Gp
  have Gen : FnOk l.prog w K mg base CX0 1 T.a_Entry_init T.d_Entry_init _ (spEn T.C_Entry) := ok_Entry_init T
  have Gli : FnOk l.prog w K mg base CX0 1 T.a_Line_init T.d_Line_init _ (spLn T.C_Line) := ok_Line_init T
  have Gnu : FnOk l.prog w K mg base CX0 1 T.a_number T.d_number _ spNumber := ok_number T
  have Hnu : FnQ l.prog w K mg base 1 T.a_number T.d_number _ spNumber := okQ_number T
  have Gse := ok_same_entry T Gnu
  have Gtk := ok_Line_take T pf Gen (ok_is_number T)
  have Gre := ok_refused T pf Hnu Gtk
  have Gent := ok_Line_entries T Gen
  have Gsl := ok_same_line T Gnu (ok_Line_edition T) Gse Gent
  have Gde := ok_deed T Gp (ok_sent T Gp Gse (ok_Line_send T Gen)) (ok_taken T Gp Gse Gtk Gre) (ok_turned T (k := 0) (ok_Line_turn T)) Gent
  exact ok_law T (ok_bag T) Gp (ok_new_name T Gp) (ok_owner T Gp Gs) (ok_new_model T Gp Gst) Gli Gde Gsl (ok_Line_copy T Gli) Gre Gse Gtk Gent
end
theorem top_mk {K : PySem.W.Frag} {W : World} {h : Heap} {mg : Str → Option Value} (X : K.In h) (G : h.Ns mainGlobals mg)
    {C0 : Addr}
    (ca0 : PySem.W.nsIn K mainGlobals "Entry" = some (some (.ref C0)))
    {C1 : Addr}
    (ca1 : PySem.W.nsIn K mainGlobals "Line" = some (some (.ref C1)))
    {f0 : Addr} {od0 an0 : Option Addr} {sl0 : Array (Option Value)} {oc0 kV0 dc0 pm0 cd0 ct0 : Value}
    (a0 : PySem.W.nsIn K mainGlobals "is_number" = some (some (.ref f0)))
    (l0 : K.lookup f0 = some ⟨oc0, od0, .func (PySem.W.fnOf "is_number" "is_number" (defArgs s_is_number) (defBody s_is_number) (defScope s_is_number) .none kV0 dc0 pm0 an0 cd0 ct0), sl0⟩)
    (c0 : PySem.W.codeIn K cd0 "is_number" = true)
    (k0 : PySem.W.keepIn K (.ref f0) = true)
    {f1 : Addr} {od1 an1 : Option Addr} {sl1 : Array (Option Value)} {oc1 kV1 dc1 pm1 cd1 ct1 : Value}
    (a1 : PySem.W.findIn K (.ref C0) "__init__" = some (some (.ref f1)))
    (i1 : PySem.W.isFn K (.ref f1) = true)
    (l1 : K.lookup f1 = some ⟨oc1, od1, .func (PySem.W.fnOf "__init__" "Entry.__init__" (defArgs s_Entry_init) (defBody s_Entry_init) (defScope s_Entry_init) .none kV1 dc1 pm1 an1 cd1 ct1), sl1⟩)
    (c1 : PySem.W.codeIn K cd1 "Entry.__init__" = true)
    (k1 : PySem.W.keepIn K (.ref f1) = true)
    {f2 : Addr} {od2 an2 : Option Addr} {sl2 : Array (Option Value)} {oc2 kV2 dc2 pm2 cd2 ct2 : Value}
    (a2 : PySem.W.findIn K (.ref C1) "__init__" = some (some (.ref f2)))
    (i2 : PySem.W.isFn K (.ref f2) = true)
    (l2 : K.lookup f2 = some ⟨oc2, od2, .func (PySem.W.fnOf "__init__" "Line.__init__" (defArgs s_Line_init) (defBody s_Line_init) (defScope s_Line_init) .none kV2 dc2 pm2 an2 cd2 ct2), sl2⟩)
    (c2 : PySem.W.codeIn K cd2 "Line.__init__" = true)
    (k2 : PySem.W.keepIn K (.ref f2) = true)
    {f3 : Addr} {od3 an3 : Option Addr} {sl3 : Array (Option Value)} {oc3 kV3 dc3 pm3 cd3 ct3 : Value}
    {p3 : Addr} {pr3 : List Value}
    (a3 : PySem.W.findIn K (.ref C1) "edition" = some (some (.ref p3)))
    (pg3 : PySem.W.specialIn K (.ref p3) "__get__" = some (some (.builtin "property.__get__")))
    (pt3 : PySem.W.takesIn K (.ref p3) = some true)
    (pc3 : PySem.W.recIn K p3 "property" = some (.ref f3 :: pr3))
    (l3 : K.lookup f3 = some ⟨oc3, od3, .func (PySem.W.fnOf "edition" "Line.edition" (defArgs s_Line_edition) (defBody s_Line_edition) (defScope s_Line_edition) .none kV3 dc3 pm3 an3 cd3 ct3), sl3⟩)
    (c3 : PySem.W.codeIn K cd3 "Line.edition" = true)
    (k3 : PySem.W.keepIn K (.ref f3) = true)
    {f4 : Addr} {od4 an4 : Option Addr} {sl4 : Array (Option Value)} {oc4 kV4 dc4 pm4 cd4 ct4 : Value}
    (a4 : PySem.W.findIn K (.ref C1) "send" = some (some (.ref f4)))
    (i4 : PySem.W.isFn K (.ref f4) = true)
    (l4 : K.lookup f4 = some ⟨oc4, od4, .func (PySem.W.fnOf "send" "Line.send" (defArgs s_Line_send) (defBody s_Line_send) (defScope s_Line_send) .none kV4 dc4 pm4 an4 cd4 ct4), sl4⟩)
    (c4 : PySem.W.codeIn K cd4 "Line.send" = true)
    (k4 : PySem.W.keepIn K (.ref f4) = true)
    {f5 : Addr} {od5 an5 : Option Addr} {sl5 : Array (Option Value)} {oc5 kV5 dc5 pm5 cd5 ct5 : Value}
    (a5 : PySem.W.findIn K (.ref C1) "take" = some (some (.ref f5)))
    (i5 : PySem.W.isFn K (.ref f5) = true)
    (l5 : K.lookup f5 = some ⟨oc5, od5, .func (PySem.W.fnOf "take" "Line.take" (defArgs s_Line_take) (defBody s_Line_take) (defScope s_Line_take) .none kV5 dc5 pm5 an5 cd5 ct5), sl5⟩)
    (c5 : PySem.W.codeIn K cd5 "Line.take" = true)
    (k5 : PySem.W.keepIn K (.ref f5) = true)
    {f6 : Addr} {od6 an6 : Option Addr} {sl6 : Array (Option Value)} {oc6 kV6 dc6 pm6 cd6 ct6 : Value}
    (a6 : PySem.W.findIn K (.ref C1) "entries" = some (some (.ref f6)))
    (i6 : PySem.W.isFn K (.ref f6) = true)
    (l6 : K.lookup f6 = some ⟨oc6, od6, .func (PySem.W.fnOf "entries" "Line.entries" (defArgs s_Line_entries) (defBody s_Line_entries) (defScope s_Line_entries) .none kV6 dc6 pm6 an6 cd6 ct6), sl6⟩)
    (c6 : PySem.W.codeIn K cd6 "Line.entries" = true)
    (k6 : PySem.W.keepIn K (.ref f6) = true)
    {f7 : Addr} {od7 an7 : Option Addr} {sl7 : Array (Option Value)} {oc7 kV7 dc7 pm7 cd7 ct7 : Value}
    (a7 : PySem.W.findIn K (.ref C1) "turn" = some (some (.ref f7)))
    (i7 : PySem.W.isFn K (.ref f7) = true)
    (l7 : K.lookup f7 = some ⟨oc7, od7, .func (PySem.W.fnOf "turn" "Line.turn" (defArgs s_Line_turn) (defBody s_Line_turn) (defScope s_Line_turn) .none kV7 dc7 pm7 an7 cd7 ct7), sl7⟩)
    (c7 : PySem.W.codeIn K cd7 "Line.turn" = true)
    (k7 : PySem.W.keepIn K (.ref f7) = true)
    {f8 : Addr} {od8 an8 : Option Addr} {sl8 : Array (Option Value)} {oc8 kV8 dc8 pm8 cd8 ct8 : Value}
    (a8 : PySem.W.findIn K (.ref C1) "copy" = some (some (.ref f8)))
    (i8 : PySem.W.isFn K (.ref f8) = true)
    (l8 : K.lookup f8 = some ⟨oc8, od8, .func (PySem.W.fnOf "copy" "Line.copy" (defArgs s_Line_copy) (defBody s_Line_copy) (defScope s_Line_copy) .none kV8 dc8 pm8 an8 cd8 ct8), sl8⟩)
    (c8 : PySem.W.codeIn K cd8 "Line.copy" = true)
    (k8 : PySem.W.keepIn K (.ref f8) = true)
    {f9 : Addr} {od9 an9 : Option Addr} {sl9 : Array (Option Value)} {oc9 kV9 dc9 pm9 cd9 ct9 : Value}
    (a9 : PySem.W.nsIn K mainGlobals "_law_mixed" = some (some (.ref f9)))
    (l9 : K.lookup f9 = some ⟨oc9, od9, .func (PySem.W.fnOf "_law_mixed" "_law_mixed" (defArgs s_mixed) (defBody s_mixed) (defScope s_mixed) .none kV9 dc9 pm9 an9 cd9 ct9), sl9⟩)
    (c9 : PySem.W.codeIn K cd9 "_law_mixed" = true)
    (k9 : PySem.W.keepIn K (.ref f9) = true)
    {f10 : Addr} {od10 an10 : Option Addr} {sl10 : Array (Option Value)} {oc10 kV10 dc10 pm10 cd10 ct10 : Value}
    (a10 : PySem.W.nsIn K mainGlobals "_law_bag" = some (some (.ref f10)))
    (l10 : K.lookup f10 = some ⟨oc10, od10, .func (PySem.W.fnOf "_law_bag" "_law_bag" (defArgs s_bag) (defBody s_bag) (defScope s_bag) .none kV10 dc10 pm10 an10 cd10 ct10), sl10⟩)
    (c10 : PySem.W.codeIn K cd10 "_law_bag" = true)
    (k10 : PySem.W.keepIn K (.ref f10) = true)
    {f11 : Addr} {od11 an11 : Option Addr} {sl11 : Array (Option Value)} {oc11 kV11 dc11 pm11 cd11 ct11 : Value}
    (a11 : PySem.W.nsIn K mainGlobals "_law_pick" = some (some (.ref f11)))
    (l11 : K.lookup f11 = some ⟨oc11, od11, .func (PySem.W.fnOf "_law_pick" "_law_pick" (defArgs s_pick) (defBody s_pick) (defScope s_pick) .none kV11 dc11 pm11 an11 cd11 ct11), sl11⟩)
    (c11 : PySem.W.codeIn K cd11 "_law_pick" = true)
    (k11 : PySem.W.keepIn K (.ref f11) = true)
    {f12 : Addr} {od12 an12 : Option Addr} {sl12 : Array (Option Value)} {oc12 kV12 dc12 pm12 cd12 ct12 : Value}
    (a12 : PySem.W.nsIn K mainGlobals "_law_number" = some (some (.ref f12)))
    (l12 : K.lookup f12 = some ⟨oc12, od12, .func (PySem.W.fnOf "_law_number" "_law_number" (defArgs s_number) (defBody s_number) (defScope s_number) .none kV12 dc12 pm12 an12 cd12 ct12), sl12⟩)
    (c12 : PySem.W.codeIn K cd12 "_law_number" = true)
    (k12 : PySem.W.keepIn K (.ref f12) = true)
    {f13 : Addr} {od13 an13 : Option Addr} {sl13 : Array (Option Value)} {oc13 kV13 dc13 pm13 cd13 ct13 : Value}
    (a13 : PySem.W.nsIn K mainGlobals "_law_new_name" = some (some (.ref f13)))
    (l13 : K.lookup f13 = some ⟨oc13, od13, .func (PySem.W.fnOf "_law_new_name" "_law_new_name" (defArgs s_new_name) (defBody s_new_name) (defScope s_new_name) .none kV13 dc13 pm13 an13 cd13 ct13), sl13⟩)
    (c13 : PySem.W.codeIn K cd13 "_law_new_name" = true)
    (k13 : PySem.W.keepIn K (.ref f13) = true)
    {f14 : Addr} {od14 an14 : Option Addr} {sl14 : Array (Option Value)} {oc14 kV14 dc14 pm14 cd14 ct14 : Value}
    (a14 : PySem.W.nsIn K mainGlobals "_law_step" = some (some (.ref f14)))
    (l14 : K.lookup f14 = some ⟨oc14, od14, .func (PySem.W.fnOf "_law_step" "_law_step" (defArgs s_step) (defBody s_step) (defScope s_step) .none kV14 dc14 pm14 an14 cd14 ct14), sl14⟩)
    (c14 : PySem.W.codeIn K cd14 "_law_step" = true)
    (k14 : PySem.W.keepIn K (.ref f14) = true)
    {f15 : Addr} {od15 an15 : Option Addr} {sl15 : Array (Option Value)} {oc15 kV15 dc15 pm15 cd15 ct15 : Value}
    (a15 : PySem.W.nsIn K mainGlobals "_law_owner" = some (some (.ref f15)))
    (l15 : K.lookup f15 = some ⟨oc15, od15, .func (PySem.W.fnOf "_law_owner" "_law_owner" (defArgs s_owner) (defBody s_owner) (defScope s_owner) .none kV15 dc15 pm15 an15 cd15 ct15), sl15⟩)
    (c15 : PySem.W.codeIn K cd15 "_law_owner" = true)
    (k15 : PySem.W.keepIn K (.ref f15) = true)
    {f16 : Addr} {od16 an16 : Option Addr} {sl16 : Array (Option Value)} {oc16 kV16 dc16 pm16 cd16 ct16 : Value}
    (a16 : PySem.W.nsIn K mainGlobals "_law_store" = some (some (.ref f16)))
    (l16 : K.lookup f16 = some ⟨oc16, od16, .func (PySem.W.fnOf "_law_store" "_law_store" (defArgs s_store) (defBody s_store) (defScope s_store) .none kV16 dc16 pm16 an16 cd16 ct16), sl16⟩)
    (c16 : PySem.W.codeIn K cd16 "_law_store" = true)
    (k16 : PySem.W.keepIn K (.ref f16) = true)
    {f17 : Addr} {od17 an17 : Option Addr} {sl17 : Array (Option Value)} {oc17 kV17 dc17 pm17 cd17 ct17 : Value}
    (a17 : PySem.W.nsIn K mainGlobals "_law_same_entry" = some (some (.ref f17)))
    (l17 : K.lookup f17 = some ⟨oc17, od17, .func (PySem.W.fnOf "_law_same_entry" "_law_same_entry" (defArgs s_same_entry) (defBody s_same_entry) (defScope s_same_entry) .none kV17 dc17 pm17 an17 cd17 ct17), sl17⟩)
    (c17 : PySem.W.codeIn K cd17 "_law_same_entry" = true)
    (k17 : PySem.W.keepIn K (.ref f17) = true)
    {f18 : Addr} {od18 an18 : Option Addr} {sl18 : Array (Option Value)} {oc18 kV18 dc18 pm18 cd18 ct18 : Value}
    (a18 : PySem.W.nsIn K mainGlobals "_law_same_line" = some (some (.ref f18)))
    (l18 : K.lookup f18 = some ⟨oc18, od18, .func (PySem.W.fnOf "_law_same_line" "_law_same_line" (defArgs s_same_line) (defBody s_same_line) (defScope s_same_line) .none kV18 dc18 pm18 an18 cd18 ct18), sl18⟩)
    (c18 : PySem.W.codeIn K cd18 "_law_same_line" = true)
    (k18 : PySem.W.keepIn K (.ref f18) = true)
    {f19 : Addr} {od19 an19 : Option Addr} {sl19 : Array (Option Value)} {oc19 kV19 dc19 pm19 cd19 ct19 : Value}
    (a19 : PySem.W.nsIn K mainGlobals "_law_sent" = some (some (.ref f19)))
    (l19 : K.lookup f19 = some ⟨oc19, od19, .func (PySem.W.fnOf "_law_sent" "_law_sent" (defArgs s_sent) (defBody s_sent) (defScope s_sent) .none kV19 dc19 pm19 an19 cd19 ct19), sl19⟩)
    (c19 : PySem.W.codeIn K cd19 "_law_sent" = true)
    (k19 : PySem.W.keepIn K (.ref f19) = true)
    {f20 : Addr} {od20 an20 : Option Addr} {sl20 : Array (Option Value)} {oc20 kV20 dc20 pm20 cd20 ct20 : Value}
    (a20 : PySem.W.nsIn K mainGlobals "_law_refused" = some (some (.ref f20)))
    (l20 : K.lookup f20 = some ⟨oc20, od20, .func (PySem.W.fnOf "_law_refused" "_law_refused" (defArgs s_refused) (defBody s_refused) (defScope s_refused) .none kV20 dc20 pm20 an20 cd20 ct20), sl20⟩)
    (c20 : PySem.W.codeIn K cd20 "_law_refused" = true)
    (k20 : PySem.W.keepIn K (.ref f20) = true)
    {f21 : Addr} {od21 an21 : Option Addr} {sl21 : Array (Option Value)} {oc21 kV21 dc21 pm21 cd21 ct21 : Value}
    (a21 : PySem.W.nsIn K mainGlobals "_law_taken" = some (some (.ref f21)))
    (l21 : K.lookup f21 = some ⟨oc21, od21, .func (PySem.W.fnOf "_law_taken" "_law_taken" (defArgs s_taken) (defBody s_taken) (defScope s_taken) .none kV21 dc21 pm21 an21 cd21 ct21), sl21⟩)
    (c21 : PySem.W.codeIn K cd21 "_law_taken" = true)
    (k21 : PySem.W.keepIn K (.ref f21) = true)
    {f22 : Addr} {od22 an22 : Option Addr} {sl22 : Array (Option Value)} {oc22 kV22 dc22 pm22 cd22 ct22 : Value}
    (a22 : PySem.W.nsIn K mainGlobals "_law_turned" = some (some (.ref f22)))
    (l22 : K.lookup f22 = some ⟨oc22, od22, .func (PySem.W.fnOf "_law_turned" "_law_turned" (defArgs s_turned) (defBody s_turned) (defScope s_turned) .none kV22 dc22 pm22 an22 cd22 ct22), sl22⟩)
    (c22 : PySem.W.codeIn K cd22 "_law_turned" = true)
    (k22 : PySem.W.keepIn K (.ref f22) = true)
    {f23 : Addr} {od23 an23 : Option Addr} {sl23 : Array (Option Value)} {oc23 kV23 dc23 pm23 cd23 ct23 : Value}
    (a23 : PySem.W.nsIn K mainGlobals "_law_deed" = some (some (.ref f23)))
    (l23 : K.lookup f23 = some ⟨oc23, od23, .func (PySem.W.fnOf "_law_deed" "_law_deed" (defArgs s_deed) (defBody s_deed) (defScope s_deed) .none kV23 dc23 pm23 an23 cd23 ct23), sl23⟩)
    (c23 : PySem.W.codeIn K cd23 "_law_deed" = true)
    (k23 : PySem.W.keepIn K (.ref f23) = true)
    {f24 : Addr} {od24 an24 : Option Addr} {sl24 : Array (Option Value)} {oc24 kV24 dc24 pm24 cd24 ct24 : Value}
    (a24 : PySem.W.nsIn K mainGlobals "_law_new_model" = some (some (.ref f24)))
    (l24 : K.lookup f24 = some ⟨oc24, od24, .func (PySem.W.fnOf "_law_new_model" "_law_new_model" (defArgs s_new_model) (defBody s_new_model) (defScope s_new_model) .none kV24 dc24 pm24 an24 cd24 ct24), sl24⟩)
    (c24 : PySem.W.codeIn K cd24 "_law_new_model" = true)
    (k24 : PySem.W.keepIn K (.ref f24) = true)
    {f25 : Addr} {od25 an25 : Option Addr} {sl25 : Array (Option Value)} {oc25 kV25 dc25 pm25 cd25 ct25 : Value}
    (a25 : PySem.W.nsIn K mainGlobals "law" = some (some (.ref f25)))
    (l25 : K.lookup f25 = some ⟨oc25, od25, .func (PySem.W.fnOf "law" "law" (defArgs s_law) (defBody s_law) (defScope s_law) .none kV25 dc25 pm25 an25 cd25 ct25), sl25⟩)
    (c25 : PySem.W.codeIn K cd25 "law" = true)
    (k25 : PySem.W.keepIn K (.ref f25) = true)
    (z0 : PySem.W.nsIn K mainGlobals "ValueError" = some none)
    (z1 : PySem.W.nsIn K mainGlobals "abs" = some none)
    (z2 : PySem.W.nsIn K mainGlobals "bool" = some none)
    (z3 : PySem.W.nsIn K mainGlobals "enumerate" = some none)
    (z4 : PySem.W.nsIn K mainGlobals "int" = some none)
    (z5 : PySem.W.nsIn K mainGlobals "isinstance" = some none)
    (z6 : PySem.W.nsIn K mainGlobals "len" = some none)
    (z7 : PySem.W.nsIn K mainGlobals "list" = some none)
    (z8 : PySem.W.nsIn K mainGlobals "range" = some none)
    (z9 : PySem.W.nsIn K mainGlobals "tuple" = some none)
    (z10 : PySem.W.nsIn K mainGlobals "zip" = some none)
    (cg0 : PySem.W.plainGet K C0 Str.empty = true)
    (ch0 : PySem.W.hasDictIn K C0 = true)
    (co0 : PySem.W.plainOver K C0 = true)
    (cs0 : PySem.W.findIn K (.ref C0) "__setattr__" = some (some (.builtin "object.__setattr__")))
    (cf0_0 : PySem.W.findIn K (.ref C0) "owner" = some none)
    (cf0_1 : PySem.W.findIn K (.ref C0) "word" = some none)
    (cf0_2 : PySem.W.findIn K (.ref C0) "who" = some none)
    (cf0_3 : PySem.W.findIn K (.ref C0) "ticket" = some none)
    (cf0_4 : PySem.W.findIn K (.ref C0) "question" = some none)
    (cf0_5 : PySem.W.findIn K (.ref C0) "answer" = some none)
    (cm0 : PySem.W.makesIn K C0 = true)
    (ck0 : PySem.W.keepIn K (.ref C0) = true)
    (ct0_a : PySem.W.findIn K (.ref C0) "__class__" = some (some (.builtin "object.__class__")))
    (ct0_b : PySem.W.specialIn K (.builtin "object.__class__") "__get__" = some (some (.builtin "getset_descriptor.__get__")))
    (ct0_c : PySem.W.takesIn K (.builtin "object.__class__") = some true)
    (ct0_d : PySem.W.mroIn K C0 (.type "object") = some true)
    (cg1 : PySem.W.plainGet K C1 Str.empty = true)
    (ch1 : PySem.W.hasDictIn K C1 = true)
    (co1 : PySem.W.plainOver K C1 = true)
    (cs1 : PySem.W.findIn K (.ref C1) "__setattr__" = some (some (.builtin "object.__setattr__")))
    (cf1_0 : PySem.W.findIn K (.ref C1) "far" = some none)
    (cf1_1 : PySem.W.findIn K (.ref C1) "room" = some none)
    (cf1_2 : PySem.W.findIn K (.ref C1) "waiting" = some none)
    (cf1_3 : PySem.W.findIn K (.ref C1) "tickets" = some none)
    (cf1_4 : PySem.W.findIn K (.ref C1) "present" = some none)
    (cm1 : PySem.W.makesIn K C1 = true)
    (ck1 : PySem.W.keepIn K (.ref C1) = true)
    {file : Str}
    {R0 : Addr}
    (ra0 : PySem.W.nsIn K mainGlobals "ScreenError" = some (some (.ref R0)))
    (rb0 : PySem.W.isClsIn K R0 = true)
    (rc0 : PySem.W.typeIn K (.ref R0) = some (.type "type"))
    {R1 : Addr}
    (ra1 : PySem.W.nsIn K mainGlobals "BadFence" = some (some (.ref R1)))
    (rb1 : PySem.W.isClsIn K R1 = true)
    (rc1 : PySem.W.typeIn K (.ref R1) = some (.type "type"))
    {E0 J0 : Addr}
    (xa0 : PySem.W.nsIn K mainGlobals "NoAnswer" = some (some (.ref E0)))
    {xnm0 xq0 : Str} {xN0 : Addr} {xbs0 xbm0 xsub0 : List Value} {xsn0 : List Str} {xab0 : Bool} {xcol0 : Option Bool} {xdd0 : Option Addr} {xm00 xm10 xm20 xm30 xm50 : Option Value}
    (xL0 : K.lookup E0 = some (excClassObj xnm0 xq0 E0 xN0 xbs0 xbm0 true xsn0 xsub0 xab0 xcol0 xdd0 xm00 xm10 xm20 xm30 xm50 "ValueError.__new__"))
    (xr0 : PySem.HandSPX.refsVE xbm0 = true)
    (xs0 : PySem.W.findIn K (.ref E0) "__setattr__" = some (some (.builtin "object.__setattr__")))
    (xg0 : PySem.W.findIn K (.ref E0) "__getattribute__" = some (some (.builtin "BaseException.__getattribute__")))
    (xh0 : PySem.W.findIn K (.ref E0) "__getattr__" = some none)
    (xf0 : PySem.W.findIn K (.ref E0) "number" = some none)
    (xi0 : PySem.W.findIn K (.ref E0) "__init__" = some (some (.ref J0)))
    (xt0 : PySem.W.typeIn K (.ref J0) = some (.type "function"))
    {xoc0 xkV0 xdc0 xpm0 xct0 xccl0 xcl0 : Value} {xod0 xan0 xcdd0 xcld0 : Option Addr} {xsl0 xccs0 xcsl0 : Array (Option Value)} {cda0 cc0 : Addr} {xvs0 : Array Value} {xtf0 : Tok}
    (xl0 : K.lookup J0 = some ⟨xoc0, xod0, .func (PySem.W.ksFn "__init__" "NoAnswer.__init__" (defArgs s_NoAnswer_init) (defBody s_NoAnswer_init) (defScope s_NoAnswer_init) .none xkV0 xdc0 xpm0 xan0 (.ref cda0) xct0 cc0), xsl0⟩)
    (xd0 : PySem.W.codeIn K (.ref cda0) "NoAnswer.__init__" = true)
    (xe0 : K.lookup cda0 = some ⟨xccl0, xcdd0, .fields xvs0, xccs0⟩)
    (xv0 : xvs0[2]? = some (.str file xtf0))
    (xc0 : K.lookup cc0 = some ⟨xcl0, xcld0, .cell (some (.ref E0)), xcsl0⟩)
    (xk0 : PySem.W.keepIn K (.ref E0) = true)
    (xb0 : PySem.W.subIn K (.ref E0) (.type "BaseException") = some true)
    (xy0 : PySem.W.typeIn K (.ref E0) = some (.type "type"))
    (xj0 : PySem.W.hasDictIn K E0 = true)
    (xp0 : PySem.W.ks_superIn K E0 E0 "__init__" = some (some (.builtin "ValueError.__init__")))
    (xw0 : PySem.W.subIn K (.ref E0) (.type "ValueError") = some true)
    (xz0 : PySem.W.mroIn K E0 (.ref E0) = some true)
    (xo0 : PySem.W.nsIn K cStatics "thirdparty.any" = some none)
    (xu0 : PySem.W.nsIn K mainGlobals "super" = some none)
    (xca0 : PySem.W.findIn K (.ref E0) "__class__" = some (some (.builtin "object.__class__")))
    (xcb0 : PySem.W.specialIn K (.builtin "object.__class__") "__get__" = some (some (.builtin "getset_descriptor.__get__")))
    (xcc0 : PySem.W.takesIn K (.builtin "object.__class__") = some true)
    (xcd0 : PySem.W.mroIn K E0 (.type "object") = some true)
    (xn0_1 : PySem.W.subIn K (.ref E0) (.ref R1) = some false)
    (xq0_1 : (Value.ref E0 == Value.ref R1) = false)
    (xa0_0 : PySem.W.subIn K (.ref E0) (.ref R0) = some true)
    (xb0_0 : (Value.ref E0 == Value.ref R0) = false)
    (xsc0 : PySem.W.isClsIn K E0 = true)
    (xss0 : PySem.W.subIn K (.ref E0) (.ref E0) = some true)
    : ∃ T : Top K mg W, T.a_law = f25 ∧ T.x_file = file ∧ ∀ (s : Shared) (v : Value), BindsTo s T.d_law ⟨[v], []⟩ [("_law_script", v)] := by
  have F0 := fun_mk (st := s_is_number) l0 c0 k0
  have F1 := fun_mk (st := s_Entry_init) l1 c1 k1
  have F2 := fun_mk (st := s_Line_init) l2 c2 k2
  have F3 := fun_mk (st := s_Line_edition) l3 c3 k3
  have F4 := fun_mk (st := s_Line_send) l4 c4 k4
  have F5 := fun_mk (st := s_Line_take) l5 c5 k5
  have F6 := fun_mk (st := s_Line_entries) l6 c6 k6
  have F7 := fun_mk (st := s_Line_turn) l7 c7 k7
  have F8 := fun_mk (st := s_Line_copy) l8 c8 k8
  have F9 := fun_mk (st := s_mixed) l9 c9 k9
  have F10 := fun_mk (st := s_bag) l10 c10 k10
  have F11 := fun_mk (st := s_pick) l11 c11 k11
  have F12 := fun_mk (st := s_number) l12 c12 k12
  have F13 := fun_mk (st := s_new_name) l13 c13 k13
  have F14 := fun_mk (st := s_step) l14 c14 k14
  have F15 := fun_mk (st := s_owner) l15 c15 k15
  have F16 := fun_mk (st := s_store) l16 c16 k16
  have F17 := fun_mk (st := s_same_entry) l17 c17 k17
  have F18 := fun_mk (st := s_same_line) l18 c18 k18
  have F19 := fun_mk (st := s_sent) l19 c19 k19
  have F20 := fun_mk (st := s_refused) l20 c20 k20
  have F21 := fun_mk (st := s_taken) l21 c21 k21
  have F22 := fun_mk (st := s_turned) l22 c22 k22
  have F23 := fun_mk (st := s_deed) l23 c23 k23
  have F24 := fun_mk (st := s_new_model) l24 c24 k24
  have F25 := fun_mk (st := s_law) l25 c25 k25
  exact ⟨⟨PySem.W.mg_none_of X G z0,
    PySem.W.mg_none_of X G z1,
    PySem.W.mg_none_of X G z2,
    PySem.W.mg_none_of X G z3,
    PySem.W.mg_none_of X G z4,
    PySem.W.mg_none_of X G z5,
    PySem.W.mg_none_of X G z6,
    PySem.W.mg_none_of X G z7,
    PySem.W.mg_none_of X G z8,
    PySem.W.mg_none_of X G z9,
    PySem.W.mg_none_of X G z10,
    f0,
    _,
    F0,
    F0.binds (ps := ["thing", "low", "high"]) (fun _ _ _ _ _ _ us hl => match us, hl with | [_, _, _], _ => rfl),
    PySem.W.mg_of X G a0,
    f1,
    _,
    F1,
    F1.binds (ps := ["self", "owner", "word", "who", "ticket", "question", "answer"]) (fun _ _ _ _ _ _ us hl => match us, hl with | [_, _, _, _, _, _, _], _ => rfl),
    f2,
    _,
    F2,
    F2.binds (ps := ["self", "far", "room"]) (fun _ _ _ _ _ _ us hl => match us, hl with | [_, _, _], _ => rfl),
    f3,
    _,
    F3,
    F3.binds (ps := ["self"]) (fun _ _ _ _ _ _ us hl => match us, hl with | [_], _ => rfl),
    f4,
    _,
    F4,
    F4.binds (ps := ["self", "owner", "word", "who", "question"]) (fun _ _ _ _ _ _ us hl => match us, hl with | [_, _, _, _, _], _ => rfl),
    f5,
    _,
    F5,
    F5.binds (ps := ["self", "number"]) (fun _ _ _ _ _ _ us hl => match us, hl with | [_, _], _ => rfl),
    f6,
    _,
    F6,
    F6.binds (ps := ["self"]) (fun _ _ _ _ _ _ us hl => match us, hl with | [_], _ => rfl),
    f7,
    _,
    F7,
    F7.binds (ps := ["self"]) (fun _ _ _ _ _ _ us hl => match us, hl with | [_], _ => rfl),
    f8,
    _,
    F8,
    F8.binds (ps := ["self"]) (fun _ _ _ _ _ _ us hl => match us, hl with | [_], _ => rfl),
    f9,
    _,
    F9,
    F9.binds (ps := ["_law_number_here", "_law_turn"]) (fun _ _ _ _ _ _ us hl => match us, hl with | [_, _], _ => rfl),
    PySem.W.mg_of X G a9,
    f10,
    _,
    F10,
    F10.binds (ps := ["_law_script"]) (fun _ _ _ _ _ _ us hl => match us, hl with | [_], _ => rfl),
    PySem.W.mg_of X G a10,
    f11,
    _,
    F11,
    F11.binds (ps := ["_law_bag_here", "_law_many"]) (fun _ _ _ _ _ _ us hl => match us, hl with | [_, _], _ => rfl),
    PySem.W.mg_of X G a11,
    f12,
    _,
    F12,
    F12.binds (ps := ["_law_thing"]) (fun _ _ _ _ _ _ us hl => match us, hl with | [_], _ => rfl),
    PySem.W.mg_of X G a12,
    f13,
    _,
    F13,
    F13.binds (ps := ["_law_bag_here", "_law_used"]) (fun _ _ _ _ _ _ us hl => match us, hl with | [_, _], _ => rfl),
    PySem.W.mg_of X G a13,
    f14,
    _,
    F14,
    F14.binds (ps := ["_law_bag_here"]) (fun _ _ _ _ _ _ us hl => match us, hl with | [_], _ => rfl),
    PySem.W.mg_of X G a14,
    f15,
    _,
    F15,
    F15.binds (ps := ["_law_bag_here", "_law_owners"]) (fun _ _ _ _ _ _ us hl => match us, hl with | [_, _], _ => rfl),
    PySem.W.mg_of X G a15,
    f16,
    _,
    F16,
    F16.binds (ps := ["_law_bag_here"]) (fun _ _ _ _ _ _ us hl => match us, hl with | [_], _ => rfl),
    PySem.W.mg_of X G a16,
    f17,
    _,
    F17,
    F17.binds (ps := ["_law_entry", "_law_row"]) (fun _ _ _ _ _ _ us hl => match us, hl with | [_, _], _ => rfl),
    PySem.W.mg_of X G a17,
    f18,
    _,
    F18,
    F18.binds (ps := ["_law_line", "_law_model"]) (fun _ _ _ _ _ _ us hl => match us, hl with | [_, _], _ => rfl),
    PySem.W.mg_of X G a18,
    f19,
    _,
    F19,
    F19.binds (ps := ["_law_bag_here", "_law_line", "_law_model", "_law_owners", "_law_words"]) (fun _ _ _ _ _ _ us hl => match us, hl with | [_, _, _, _, _], _ => rfl),
    PySem.W.mg_of X G a19,
    f20,
    _,
    F20,
    F20.binds (ps := ["_law_line", "_law_number_here"]) (fun _ _ _ _ _ _ us hl => match us, hl with | [_, _], _ => rfl),
    PySem.W.mg_of X G a20,
    f21,
    _,
    F21,
    F21.binds (ps := ["_law_bag_here", "_law_line", "_law_model"]) (fun _ _ _ _ _ _ us hl => match us, hl with | [_, _, _], _ => rfl),
    PySem.W.mg_of X G a21,
    f22,
    _,
    F22,
    F22.binds (ps := ["_law_line", "_law_model"]) (fun _ _ _ _ _ _ us hl => match us, hl with | [_, _], _ => rfl),
    PySem.W.mg_of X G a22,
    f23,
    _,
    F23,
    F23.binds (ps := ["_law_bag_here", "_law_line", "_law_model", "_law_owners", "_law_words"]) (fun _ _ _ _ _ _ us hl => match us, hl with | [_, _, _, _, _], _ => rfl),
    PySem.W.mg_of X G a23,
    f24,
    _,
    F24,
    F24.binds (ps := ["_law_bag_here"]) (fun _ _ _ _ _ _ us hl => match us, hl with | [_], _ => rfl),
    PySem.W.mg_of X G a24,
    f25,
    _,
    F25,
    F25.binds (ps := ["_law_script"]) (fun _ _ _ _ _ _ us hl => match us, hl with | [_], _ => rfl),
    PySem.W.mg_of X G a25,
    C0,
    PySem.W.mg_of X G ca0,
    ⟨cg0, ch0, co0, cs0⟩,
    cf0_0,
    cf0_1,
    cf0_2,
    cf0_3,
    cf0_4,
    cf0_5,
    ⟨cm0, a1, i1, ck0⟩,
    ⟨ct0_a, ct0_b, ct0_c, ct0_d, if_pos (beq_self_eq_true _)⟩,
    C1,
    PySem.W.mg_of X G ca1,
    ⟨cg1, ch1, co1, cs1⟩,
    cf1_0,
    cf1_1,
    cf1_2,
    cf1_3,
    cf1_4,
    ⟨cm1, a2, i2, ck1⟩,
    ⟨a4, i4, k4⟩,
    ⟨a5, i5, k5⟩,
    ⟨a6, i6, k6⟩,
    ⟨a7, i7, k7⟩,
    ⟨a8, i8, k8⟩,
    p3,
    ⟨a3, pg3, pt3, ⟨_, pc3⟩⟩,
    file,
    R0,
    PySem.W.mg_of X G ra0,
    R1,
    PySem.W.mg_of X G ra1,
    E0,
    J0,
    PySem.W.mg_of X G xa0,
    fun P pf => { gC := PySem.W.mg_of X G xa0, cls := ⟨_, _, _, _, _, _, _, _, _, _, _, _, _, _, _, xL0, xr0⟩, sa := xs0, ga := xg0, gg := xh0, noN := xf0, iC := xi0, tC := xt0, kC := xk0, exC := xb0, tyC := xy0, hdC := xj0, fn := ⟨_, _, _, _, _, _, _, _, _, _, _, ⟨11, 17, 11, 21⟩, ⟨11, 23, 11, 29⟩, ⟨⟨12, 8, 12, 13⟩, ⟨12, 8, 12, 15⟩, ⟨12, 8, 12, 24⟩, ⟨12, 27, 12, 44⟩, ⟨12, 45, 12, 51⟩, ⟨12, 44, 12, 54⟩, ⟨12, 25, 12, 55⟩, ⟨12, 8, 12, 56⟩, ⟨12, 8, 12, 56⟩, ⟨13, 8, 13, 12⟩, ⟨13, 8, 13, 19⟩, ⟨13, 22, 13, 28⟩, ⟨13, 8, 13, 28⟩⟩, _, _, _, _, _, _, _, _, _, xl0, xd0, xe0, xv0, pf.1, xc0, ⟨_, fun _ => rfl⟩, fun _ _ => rfl⟩, sup := xp0, subV := xw0, mroS := xz0, opq := xo0, htop := pf.2, hsup := PySem.W.mg_none_of X G xu0, f1 := by decide, f2 := by decide, f3 := by decide, f4 := by decide, ml := by decide +kernel },
    ⟨xg0, xh0, xb0, xj0, xca0, xcb0, xcc0, xcd0⟩,
    ⟨xg0, xh0, xb0, xj0⟩,
    kit_of xq0_1 rb1 rc1 xn0_1,
    kit_of xb0_0 rb0 rc0 xa0_0,
    kit_ty_of (by decide +kernel) xw0,
    exm_of xb0 xsc0 xy0 xss0⟩, rfl, rfl, fun s v => .of_eq rfl⟩
end K44
open PySem PySem.W PyProof.Rows
set_option maxHeartbeats 0 in
theorem PySem.Challenge.cw_drawnanew_k44_line_entries_holds : PySem.Challenge.rw_drawnanew_k44_line_entries.Holds := by
  w_on; o_law; k_head; (case hw => w_witness2)
  k_fill
  refine L2.walk_of (l := PySem.Challenge.rw_drawnanew_k44_line_entries) (n := 63) (k := 7) (x := "_law_script") (CX := fun _ => L2.CX0) (sp := fun w => K44.spLaw _) rfl (by decide) rfl ⟨rfl, by decide, by decide⟩ (fun w h Y => PySem.W.kIn_of Y) ?F (fun _ _ a ns hl _ hS => ⟨a, ns, rfl, hS, hl, fun _ => rfl⟩) (fun _ _ _ _ _ h => h)
  case F =>
    intro w mg fa h KX G hmg
    refine' K44.law_end KX G hmg (K44.top_mk (W := w) KX G ?ca0 ?ca1 ?a0 ?l0 ?c0 ?k0 ?a1 ?i1 ?l1 ?c1 ?k1 ?a2 ?i2 ?l2 ?c2 ?k2 ?a3 ?pg3 ?pt3 ?pc3 ?l3 ?c3 ?k3 ?a4 ?i4 ?l4 ?c4 ?k4 ?a5 ?i5 ?l5 ?c5 ?k5 ?a6 ?i6 ?l6 ?c6 ?k6 ?a7 ?i7 ?l7 ?c7 ?k7 ?a8 ?i8 ?l8 ?c8 ?k8 ?a9 ?l9 ?c9 ?k9 ?a10 ?l10 ?c10 ?k10 ?a11 ?l11 ?c11 ?k11 ?a12 ?l12 ?c12 ?k12 ?a13 ?l13 ?c13 ?k13 ?a14 ?l14 ?c14 ?k14 ?a15 ?l15 ?c15 ?k15 ?a16 ?l16 ?c16 ?k16 ?a17 ?l17 ?c17 ?k17 ?a18 ?l18 ?c18 ?k18 ?a19 ?l19 ?c19 ?k19 ?a20 ?l20 ?c20 ?k20 ?a21 ?l21 ?c21 ?k21 ?a22 ?l22 ?c22 ?k22 ?a23 ?l23 ?c23 ?k23 ?a24 ?l24 ?c24 ?k24 ?a25 ?l25 ?c25 ?k25 ?z0 ?z1 ?z2 ?z3 ?z4 ?z5 ?z6 ?z7 ?z8 ?z9 ?z10 ?cg0 ?ch0 ?co0 ?cs0 ?cf0_0 ?cf0_1 ?cf0_2 ?cf0_3 ?cf0_4 ?cf0_5 ?cm0 ?ck0 ?ct0_a ?ct0_b ?ct0_c ?ct0_d ?cg1 ?ch1 ?co1 ?cs1 ?cf1_0 ?cf1_1 ?cf1_2 ?cf1_3 ?cf1_4 ?cm1 ?ck1 ?ra0 ?rb0 ?rc0 ?ra1 ?rb1 ?rc1 ?xa0 ?xL0 ?xr0 ?xs0 ?xg0 ?xh0 ?xf0 ?xi0 ?xt0 ?xl0 ?xd0 ?xe0 ?xv0 ?xc0 ?xk0 ?xb0 ?xy0 ?xj0 ?xp0 ?xw0 ?xz0 ?xo0 ?xu0 ?xca0 ?xcb0 ?xcc0 ?xcd0 ?xn0_1 ?xq0_1 ?xa0_0 ?xb0_0 ?xsc0 ?xss0) ?pf
    (case ca0 => k_is)
    (case ca1 => k_is)
    (case a0 => k_is)
    (case l0 => k_is)
    (case c0 => k_is)
    (case k0 => k_is)
    (case a1 => k_is)
    (case i1 => k_is)
    (case l1 => k_is)
    (case c1 => k_is)
    (case k1 => k_is)
    (case a2 => k_is)
    (case i2 => k_is)
    (case l2 => k_is)
    (case c2 => k_is)
    (case k2 => k_is)
    (case a3 => k_is)
    (case pg3 => k_is)
    (case pt3 => k_is)
    (case pc3 => k_is)
    (case l3 => k_is)
    (case c3 => k_is)
    (case k3 => k_is)
    (case a4 => k_is)
    (case i4 => k_is)
    (case l4 => k_is)
    (case c4 => k_is)
    (case k4 => k_is)
    (case a5 => k_is)
    (case i5 => k_is)
    (case l5 => k_is)
    (case c5 => k_is)
    (case k5 => k_is)
    (case a6 => k_is)
    (case i6 => k_is)
    (case l6 => k_is)
    (case c6 => k_is)
    (case k6 => k_is)
    (case a7 => k_is)
    (case i7 => k_is)
    (case l7 => k_is)
    (case c7 => k_is)
    (case k7 => k_is)
    (case a8 => k_is)
    (case i8 => k_is)
    (case l8 => k_is)
    (case c8 => k_is)
    (case k8 => k_is)
    (case a9 => k_is)
    (case l9 => k_is)
    (case c9 => k_is)
    (case k9 => k_is)
    (case a10 => k_is)
    (case l10 => k_is)
    (case c10 => k_is)
    (case k10 => k_is)
    (case a11 => k_is)
    (case l11 => k_is)
    (case c11 => k_is)
    (case k11 => k_is)
    (case a12 => k_is)
    (case l12 => k_is)
    (case c12 => k_is)
    (case k12 => k_is)
    (case a13 => k_is)
    (case l13 => k_is)
    (case c13 => k_is)
    (case k13 => k_is)
    (case a14 => k_is)
    (case l14 => k_is)
    (case c14 => k_is)
    (case k14 => k_is)
    (case a15 => k_is)
    (case l15 => k_is)
    (case c15 => k_is)
    (case k15 => k_is)
    (case a16 => k_is)
    (case l16 => k_is)
    (case c16 => k_is)
    (case k16 => k_is)
    (case a17 => k_is)
    (case l17 => k_is)
    (case c17 => k_is)
    (case k17 => k_is)
    (case a18 => k_is)
    (case l18 => k_is)
    (case c18 => k_is)
    (case k18 => k_is)
    (case a19 => k_is)
    (case l19 => k_is)
    (case c19 => k_is)
    (case k19 => k_is)
    (case a20 => k_is)
    (case l20 => k_is)
    (case c20 => k_is)
    (case k20 => k_is)
    (case a21 => k_is)
    (case l21 => k_is)
    (case c21 => k_is)
    (case k21 => k_is)
    (case a22 => k_is)
    (case l22 => k_is)
    (case c22 => k_is)
    (case k22 => k_is)
    (case a23 => k_is)
    (case l23 => k_is)
    (case c23 => k_is)
    (case k23 => k_is)
    (case a24 => k_is)
    (case l24 => k_is)
    (case c24 => k_is)
    (case k24 => k_is)
    (case a25 => k_is)
    (case l25 => k_is)
    (case c25 => k_is)
    (case k25 => k_is)
    (case z0 => k_is)
    (case z1 => k_is)
    (case z2 => k_is)
    (case z3 => k_is)
    (case z4 => k_is)
    (case z5 => k_is)
    (case z6 => k_is)
    (case z7 => k_is)
    (case z8 => k_is)
    (case z9 => k_is)
    (case z10 => k_is)
    (case cg0 => k_is)
    (case ch0 => k_is)
    (case co0 => k_is)
    (case cs0 => k_is)
    (case cf0_0 => k_is)
    (case cf0_1 => k_is)
    (case cf0_2 => k_is)
    (case cf0_3 => k_is)
    (case cf0_4 => k_is)
    (case cf0_5 => k_is)
    (case cm0 => k_is)
    (case ck0 => k_is)
    (case ct0_a => k_is)
    (case ct0_b => k_is)
    (case ct0_c => k_is)
    (case ct0_d => k_is)
    (case cg1 => k_is)
    (case ch1 => k_is)
    (case co1 => k_is)
    (case cs1 => k_is)
    (case cf1_0 => k_is)
    (case cf1_1 => k_is)
    (case cf1_2 => k_is)
    (case cf1_3 => k_is)
    (case cf1_4 => k_is)
    (case cm1 => k_is)
    (case ck1 => k_is)
    (case ra0 => k_is)
    (case rb0 => k_is)
    (case rc0 => k_is)
    (case ra1 => k_is)
    (case rb1 => k_is)
    (case rc1 => k_is)
    (case xa0 => k_is)
    (case xL0 => k_is)
    (case xr0 => first | rfl | decide +kernel)
    (case xs0 => k_is)
    (case xg0 => k_is)
    (case xh0 => k_is)
    (case xf0 => k_is)
    (case xi0 => k_is)
    (case xt0 => k_is)
    (case xl0 => k_is)
    (case xd0 => k_is)
    (case xe0 => k_is)
    (case xv0 => rfl)
    (case xc0 => k_is)
    (case xk0 => k_is)
    (case xb0 => k_is)
    (case xy0 => k_is)
    (case xj0 => k_is)
    (case xp0 => ks_is)
    (case xw0 => k_is)
    (case xz0 => k_is)
    (case xo0 => k_is)
    (case xu0 => k_is)
    (case xca0 => k_is)
    (case xcb0 => k_is)
    (case xcc0 => k_is)
    (case xcd0 => k_is)
    (case xn0_1 => k_is)
    (case xq0_1 => rfl)
    (case xa0_0 => k_is)
    (case xb0_0 => rfl)
    (case xsc0 => k_is)
    (case xss0 => k_is)
    (case pf => exact ⟨by first | rfl | decide +kernel, by first | rfl | decide +kernel⟩)
