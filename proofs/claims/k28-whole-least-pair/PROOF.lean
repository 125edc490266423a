import PyProof.Rows.All
import Wide.All
import OpenK.AllK
import Wide.FinOn
import HandS.ForMost
import HandS.Flow
import HandS.IsInst
import HandS.Wide
import HandS.Walk
import PyProof.Rows.IntBool
import HandS.Property
import HandS.Star
import HandS.OwnEq
import HandS.SetFor
import KE.GoesEnum
import KE.GoesMore
import HandS.Strs
import HandS.Deep
import HandS.TupAny
import KE.KRevSl
import KE.KOpsOwn
import PySem.Challenge.RW_drawnanew_k28_whole_least_pair
set_option Elab.async false
set_option linter.all false
set_option maxRecDepth 100000
set_option maxHeartbeats 4000000
/-! XBase: readings that compute, over the hand layer; the heap cut into a part that only grows and cells that change. -/
namespace XL
open PySem PySem.Spec PyProof.Rows L2
abbrev St := L2.St

/-! ### a reading may be exchanged for a stronger one -/
theorem pe_str {X : Cx} {e : Expr} {t t' : TE} (h : PE X e t) (k : ∀ σ H Q, t' σ H Q → t σ H Q) : PE X e t' := ⟨fun pins s σ H Q I q => h.run pins s σ H Q I (k σ H Q q)⟩
theorem pt_str {X : Cx} {e : Expr} {t t' : TT} (h : PT X e t) (k : ∀ σ H Q, t' σ H Q → t σ H Q) : PT X e t' := ⟨fun pins s σ H Q I q => h.run pins s σ H Q I (k σ H Q q)⟩
theorem ps_str {X : Cx} {e : Stmt} {t t' : TS} (h : PS X e t) (k : ∀ D σ H, t' D σ H → t D σ H) : PS X e t' := ⟨fun pins s σ H D I q => h.run pins s σ H D I (k D σ H q)⟩
theorem or_str {X : Cx} {f : Value → Value → Sem Value} {r r' : R2} (h : OpR X f r) (k : ∀ x y H Q, r' x y H Q → r x y H Q) : OpR X f r' := fun pins s σ H x y v u Q I rx ry q => h pins s σ H x y v u Q I rx ry (k x y H Q q)
theorem cr_str {X : Cx} {f : Value} {r r' : List V → Hp → VK → Prop} (h : CallR X f r) (k : ∀ xs H Q, r' xs H Q → r xs H Q) : CallR X f r' := fun pins s σ H xs us Q I rx q => h pins s σ H xs us Q I rx (k xs H Q q)
theorem OpR.or {X : Cx} {f : Value → Value → Sem Value} {r r' : R2} (h : OpR X f r) (h' : OpR X f r') : OpR X f (fun x y H Q => r x y H Q ∨ r' x y H Q) := by
  intro pins s σ H x y v u Q I rx ry q
  rcases q with q | q
  · exact h pins s σ H x y v u Q I rx ry q
  · exact h' pins s σ H x y v u Q I rx ry q

/-! ### names -/
def nth : St → Nat → Option V
  | [], _ => none
  | x :: _, 0 => x
  | _ :: r, n + 1 => nth r n
theorem nth_get : ∀ {σ : St} {i : Nat} {v : V}, nth σ i = some v → σ[i]? = some (some v)
  | [], _, _, h => nomatch h
  | _ :: _, 0, _, h => congrArg some h
  | _ :: r, n + 1, _, h => by
    rw [List.getElem?_cons_succ]
    exact nth_get (σ := r) h
def xVar (i : Nat) : TE := fun σ H Q => match nth σ i with
  | some v => Q v H
  | none => False
section
variable {X : Cx} {a b c : Expr} {ta tb tc : TE} {pos : Pos} {tA tB' : TT} {rest : List Expr}
theorem xv (i : Nat) {x : Str} {pos : Pos} (hN : X.N[i]? = some x := by rfl) (hv : Vis X.env.scope x := by first | exact Or.inl rfl | exact Or.inr (Or.inl rfl) | exact Or.inr (Or.inr rfl)) (hd : (x == ("__debug__" : Str)) = false := by decide)
    (hcd : (x == ("__classdict__" : Str)) = false := by decide) : PE X (.Name x pos) (xVar i) := pe_str (pe_var hN hv hd hcd) fun σ H Q h => by
  unfold xVar at h
  cases e : nth σ i with
  | none => rw [e] at h; exact h.elim
  | some v => rw [e] at h; exact ⟨v, nth_get e, h⟩

/-! ### arithmetic -/
theorem op_mul_ib : OpR X (binaryOp .Mult) (fun x y H Q => ∃ i k, x = .int i ∧ y = .bl k ∧ Q (.int (i * b2i k)) H) := by
  intro pins s σ H x y v u Q I rx ry h
  obtain ⟨i, k, rfl, rfl, q⟩ := h
  obtain ⟨t, rfl⟩ := rx
  cases ry
  refine PySem.IntBool.mul_int_bool ?_
  have e : (if k = true then (1 : Int) else 0) = b2i k := by cases k <;> rfl
  rw [e]
  exact ⟨.int (i * b2i k), H, I.tok _, ⟨_, rfl⟩, q⟩
def yAdd : R2 := fun x y H Q => match x, y with
  | .int i, .int j => Q (.int (i + j)) H
  | .int i, .bl k => Q (.int (i + b2i k)) H
  | .str a, .str b => a.length + b.length ≤ sizeLine ∧ ∀ r : Str, r = a ++ b → Q (.str r) H
  | .ref l, .ref b => rCat (.ref l) (.ref b) H Q
  | _, _ => False
theorem op_addY : OpR X (binaryOp .Add) yAdd := by
  refine or_str (OpR.or (op_add (X := X)) (OpR.or (op_add_ib (X := X)) (OpR.or (op_add_str (X := X)) (op_cat (X := X))))) fun x y H Q h => ?_
  unfold yAdd at h
  split at h
  · exact .inl ⟨_, _, rfl, rfl, h⟩
  · exact .inr (.inl ⟨_, _, rfl, rfl, h⟩)
  · exact .inr (.inr (.inl ⟨_, _, rfl, rfl, h.1, h.2 _ rfl⟩))
  · exact .inr (.inr (.inr h))
  · exact h.elim
def ySub : R2 := fun x y H Q => match x, y with
  | .int i, .int j => Q (.int (i - j)) H
  | _, _ => False
theorem op_subY : OpR X (binaryOp .Sub) ySub := by
  refine or_str (op_sub (X := X)) fun x y H Q h => ?_
  unfold ySub at h
  split at h
  · exact ⟨_, _, rfl, rfl, h⟩
  · exact h.elim
def yMul : R2 := fun x y H Q => match x, y with
  | .int i, .int j => CMul i j ∧ Q (.int (i * j)) H
  | .int i, .bl k => Q (.int (i * b2i k)) H
  | .ref l, .int k => rRep (.ref l) (.int k) H Q
  | _, _ => False
theorem op_mulY : OpR X (binaryOp .Mult) yMul := by
  refine or_str (OpR.or (op_mul (X := X)) (OpR.or (op_mul_ib (X := X)) (op_rep (X := X)))) fun x y H Q h => ?_
  unfold yMul at h
  split at h
  · exact .inl ⟨_, _, rfl, rfl, h.1, h.2⟩
  · exact .inr (.inl ⟨_, _, rfl, rfl, h⟩)
  · exact .inr (.inr h)
  · exact h.elim
def yMod : R2 := fun x y H Q => match x, y with
  | .int i, .int j => 0 < j ∧ ∀ r : Int, r = i % j → 0 ≤ r → r < j → Q (.int r) H
  | _, _ => False
theorem op_modY : OpR X (binaryOp .Mod) yMod := by
  refine or_str (op_mod (X := X)) fun x y H Q h => ?_
  unfold yMod at h
  split at h
  · exact ⟨_, _, rfl, rfl, h.1, h.2 _ rfl (Int.emod_nonneg _ (by have := h.1; omega)) (Int.emod_lt_of_pos _ h.1)⟩
  · exact h.elim
def yDiv : R2 := fun x y H Q => match x, y with
  | .int i, .int j => (0 < j ∧ j < 1073741824) ∧ ∀ r : Int, r = i / j → (0 ≤ i → 0 ≤ r) → Q (.int r) H
  | _, _ => False
theorem op_divY : OpR X (binaryOp .FloorDiv) yDiv := by
  refine or_str (op_fdiv (X := X)) fun x y H Q h => ?_
  unfold yDiv at h
  split at h
  · exact ⟨_, _, rfl, rfl, h.1, h.2 _ rfl (fun h0 => Int.ediv_nonneg h0 (by have := h.1.1; omega))⟩
  · exact h.elim
def yPow : R2 := fun x y H Q => match x, y with
  | .int i, .int j => CPow i j ∧ ∀ r : Int, r = i ^ j.toNat → Q (.int r) H
  | _, _ => False
theorem op_powY : OpR X (binaryOp .Pow) yPow := by
  refine or_str (op_pow (X := X)) fun x y H Q h => ?_
  unfold yPow at h
  split at h
  · exact ⟨_, _, rfl, rfl, h.1, h.2 _ rfl⟩
  · exact h.elim

/-! ### comparisons -/
def yCmp (p : Int → Int → Bool) : R2 := fun x y H Q => match x, y with
  | .int i, .int j => Q (.bl (p i j)) H
  | _, _ => False
theorem yCmp_rI {p : Int → Int → Bool} {x y : V} {H : Hp} {Q : VK} (h : yCmp p x y H Q) : rI0 (fun i j => .bl (p i j)) x y H Q := by
  unfold yCmp at h
  split at h
  · exact ⟨_, _, rfl, rfl, h⟩
  · exact h.elim
theorem op_ltY : OpR X (compareOp .Lt) (yCmp fun i j => decide (i < j)) := or_str (op_lt (X := X)) fun _ _ _ _ h => yCmp_rI h
theorem op_leY : OpR X (compareOp .LtE) (yCmp fun i j => decide (i ≤ j)) := or_str (op_le (X := X)) fun _ _ _ _ h => yCmp_rI h
theorem op_gtY : OpR X (compareOp .Gt) (yCmp fun i j => decide (j < i)) := or_str (op_gt (X := X)) fun _ _ _ _ h => yCmp_rI h
theorem op_geY : OpR X (compareOp .GtE) (yCmp fun i j => decide (j ≤ i)) := or_str (op_ge (X := X)) fun _ _ _ _ h => yCmp_rI h
def yEq (K : PySem.W.Frag) : R2 := fun x y H Q => match x, y with
  | .int i, .int j => Q (.bl (decide (i = j))) H
  | .str i, .str j => Q (.bl (decide (i = j))) H
  | .bl i, .bl j => Q (.bl (decide (i = j))) H
  | .ref a, .ref b => rEqD K (.ref a) (.ref b) H Q
  | x, y => scal x y = true ∧ Q (.bl (decide (x = y))) H
def yNe (K : PySem.W.Frag) : R2 := fun x y H Q => match x, y with
  | .int i, .int j => Q (.bl (!decide (i = j))) H
  | .str i, .str j => Q (.bl (!decide (i = j))) H
  | .bl i, .bl j => Q (.bl (!decide (i = j))) H
  | .ref a, .ref b => rNeD K (.ref a) (.ref b) H Q
  | x, y => scal x y = true ∧ Q (.bl (!decide (x = y))) H
theorem deci {i j : Int} : decide (V.int i = V.int j) = decide (i = j) := by by_cases h : i = j <;> simp [h]
theorem decs {i j : Str} : decide (V.str i = V.str j) = decide (i = j) := by by_cases h : i = j <;> simp [h]
theorem decb {i j : Bool} : decide (V.bl i = V.bl j) = decide (i = j) := by by_cases h : i = j <;> simp [h]
theorem op_eqY (hu : X.A.units + 64 < cLine) : OpR X (compareOp .Eq) (yEq X.K) := by
  refine or_str (OpR.or (op_eq (X := X)) (op_eqD hu)) fun x y H Q h => ?_
  unfold yEq at h
  split at h
  · exact .inl ⟨rfl, by rw [deci]; exact h⟩
  · exact .inl ⟨rfl, by rw [decs]; exact h⟩
  · exact .inl ⟨rfl, by rw [decb]; exact h⟩
  · exact .inr h
  · exact .inl h
theorem op_neY (hu : X.A.units + 64 < cLine) : OpR X (compareOp .NotEq) (yNe X.K) := by
  refine or_str (OpR.or (op_ne (X := X)) (op_neD hu)) fun x y H Q h => ?_
  unfold yNe at h
  split at h
  · exact .inl ⟨rfl, by rw [deci]; exact h⟩
  · exact .inl ⟨rfl, by rw [decs]; exact h⟩
  · exact .inl ⟨rfl, by rw [decb]; exact h⟩
  · exact .inr h
  · exact .inl h

/-! ### tests -/
/-- a bool as a test -/
def xB (t : TE) : TT := fun σ H Q => t σ H fun x H1 => match x with
  | .bl c => Q c H1
  | _ => False
theorem pe_mono {X : Cx} {e : Expr} {t : TE} (_h : PE X e t) : True := trivial
theorem xt_cmp {op : CmpOp} {r : R2} (ho : OpR X (compareOp op) r) (ha : PE X a ta) (hb : PE X b tb) (hm : behindInMarks op b = false) : PT X (.Compare a [op] [b] pos) (xB (tOp r ta tb)) := by
  refine ⟨fun pins s σ H Q I h => ?_⟩
  refine wpAny_isTrue_Compare1 (thn (ha.run pins s σ H _ I h) fun v s1 ⟨x, H1, I1, r1, q1⟩ => thn (hb.run pins s1 σ H1 _ I1 q1) fun u s2 ⟨y, H2, I2, r2, q2⟩ =>
    thn (ho pins s2 σ H2 x y v u _ I2 r1 r2 q2) fun c s3 ⟨z, H3, I3, r3, q3⟩ => ?_) hm
  cases z with
  | bl k =>
    cases r3
    exact wpAny_truthy_bool ⟨H3, I3, q3⟩
  | _ => exact False.elim q3
theorem xt_val {e : Expr} {t : TE} (h : PE X e t) (he : ∀ whole, isTrue e X.env whole = (do let v ← whole; standAt e.pos; holding [v] (truthy v)) := by intro _; rfl) : PT X e (xB t) := by
  refine ⟨fun pins s σ H Q I hw => ?_⟩
  refine isTrue_plain (thn (h.run pins s σ H _ I hw) fun v s1 ⟨x, H1, I1, r1, q1⟩ => ?_) (he _)
  cases x with
  | bl k =>
    cases r1
    exact wpAny_truthy_bool ⟨H1, I1, q1⟩
  | _ => exact False.elim q1
/-- the truth of a value -/
def yTru (K : PySem.W.Frag) (x : V) (H : Hp) (Q : Bool → Hp → Prop) : Prop := match x with
  | .bl c => Q c H
  | .int i => Q (i != 0) H
  | .non => Q false H
  | x => ∃ k, TruV K x H k ∧ Q k H
def xTru (K : PySem.W.Frag) (t : TE) : TT := fun σ H Q => t σ H fun x H1 => yTru K x H1 Q
theorem xt_tru (ha : PE X a ta) (he : ∀ whole, isTrue a X.env whole = (do let v ← whole; standAt a.pos; holding [v] (truthy v)) := by intro _; rfl) : PT X a (xTru X.K ta) := by
  have hq : PE X a (fun σ H Q => ta σ H Q) := ha
  refine ⟨fun pins s σ H Q I hw => ?_⟩
  refine isTrue_plain (thn (ha.run pins s σ H _ I hw) fun v s1 ⟨x, H1, I1, r1, q1⟩ => ?_) (he _)
  have q2 : ∃ k, TruV X.K x H1 k ∧ Q k H1 := by
    change yTru X.K x H1 Q at q1
    unfold yTru at q1
    split at q1
    · exact ⟨_, rfl, q1⟩
    · exact ⟨_, rfl, q1⟩
    · exact ⟨_, rfl, q1⟩
    · exact q1
  exact tru_ok pins s1 σ H1 x v Q I1 r1 q2
def xAnd (t u : TT) : TT := fun σ H Q => t σ H fun c H1 => (c = true → u σ H1 Q) ∧ (c = false → Q false H1)
def xOr (t u : TT) : TT := fun σ H Q => t σ H fun c H1 => (c = true → Q true H1) ∧ (c = false → u σ H1 Q)
theorem xw_and (ha : PT X a tA) (hb : PW X (.BoolOp .And (b :: rest) pos) tB') : PW X (.BoolOp .And (a :: b :: rest) pos) (xAnd tA tB') := by
  refine ⟨fun wh pins s0 σ H Q J h => ?_⟩
  refine isTrue_and (thn (ha.run pins s0 σ H _ J h) fun k s2 ⟨H2, J2, q2⟩ => ?_)
  cases k with
  | true => exact hb.run wh pins s2 σ H2 Q J2 (q2.1 rfl)
  | false => exact ⟨H2, J2, q2.2 rfl⟩
theorem xw_or (ha : PT X a tA) (hb : PW X (.BoolOp .Or (b :: rest) pos) tB') : PW X (.BoolOp .Or (a :: b :: rest) pos) (xOr tA tB') := by
  refine ⟨fun wh pins s0 σ H Q J h => ?_⟩
  refine isTrue_or (thn (ha.run pins s0 σ H _ J h) fun k s2 ⟨H2, J2, q2⟩ => ?_)
  cases k with
  | true => exact ⟨H2, J2, q2.1 rfl⟩
  | false => exact hb.run wh pins s2 σ H2 Q J2 (q2.2 rfl)
/-- and, or, not as values: of bools -/
def xAndV (ta tb : TE) : TE := fun σ H Q => ta σ H fun x H1 => match x with
  | .bl c => (c = true → tb σ H1 Q) ∧ (c = false → Q (.bl false) H1)
  | _ => False
def xOrV (ta tb : TE) : TE := fun σ H Q => ta σ H fun x H1 => match x with
  | .bl c => (c = true → Q (.bl true) H1) ∧ (c = false → tb σ H1 Q)
  | _ => False
def xNotV (ta : TE) : TE := fun σ H Q => ta σ H fun x H1 => match x with
  | .bl c => Q (.bl (!c)) H1
  | _ => False
theorem xe_and (ha : PE X a ta) (hb : PE X (.BoolOp .And (b :: rest) pos) tb) : PE X (.BoolOp .And (a :: b :: rest) pos) (xAndV ta tb) := by
  refine ⟨fun pins s0 σ H Q J h => ?_⟩
  refine BoolOp_and (thn (ha.run pins s0 σ H _ J h) fun v s2 ⟨x, H2, J2, r2, q2⟩ => ?_)
  cases x with
  | bl k =>
    cases r2
    refine wpAny_truthy_bool ?_
    cases k with
    | true => exact hb.run pins s2 σ H2 Q J2 (q2.1 rfl)
    | false => exact ⟨.bl false, H2, J2, rfl, q2.2 rfl⟩
  | _ => exact False.elim q2
theorem xe_or (ha : PE X a ta) (hb : PE X (.BoolOp .Or (b :: rest) pos) tb) : PE X (.BoolOp .Or (a :: b :: rest) pos) (xOrV ta tb) := by
  refine ⟨fun pins s0 σ H Q J h => ?_⟩
  refine BoolOp_or (thn (ha.run pins s0 σ H _ J h) fun v s2 ⟨x, H2, J2, r2, q2⟩ => ?_)
  cases x with
  | bl k =>
    cases r2
    refine wpAny_truthy_bool ?_
    cases k with
    | true => exact ⟨.bl true, H2, J2, rfl, q2.1 rfl⟩
    | false => exact hb.run pins s2 σ H2 Q J2 (q2.2 rfl)
  | _ => exact False.elim q2
theorem xe_not (ha : PE X a ta) : PE X (.UnaryOp .Not a pos) (xNotV ta) := by
  refine ⟨fun pins s0 σ H Q J h => ?_⟩
  refine UnaryOp_ (thn (ha.run pins s0 σ H _ J h) fun v s2 ⟨x, H2, J2, r2, q2⟩ => ?_)
  cases x with
  | bl k =>
    cases r2
    exact not_of (wpAny_truthy_bool ⟨.bl (!k), H2, J2, rfl, q2⟩)
  | _ => exact False.elim q2
/-- a if t else b -/
def xIf (t : TT) (ta tb : TE) : TE := fun σ H Q => t σ H fun c H1 => (c = true → ta σ H1 Q) ∧ (c = false → tb σ H1 Q)
theorem xe_if {c : Expr} (hc : PT X c tA) (ha : PE X a ta) (hb : PE X b tb) : PE X (.IfExp c a b pos) (xIf tA ta tb) := by
  refine ⟨fun pins s0 σ H Q J h => ?_⟩
  refine wpAny_IfExp (thn (hc.run pins s0 σ H _ J h) fun k s2 ⟨H2, J2, q2⟩ => ?_)
  cases k with
  | true => exact ha.run pins s2 σ H2 Q J2 (q2.1 rfl)
  | false => exact hb.run pins s2 σ H2 Q J2 (q2.2 rfl)
/-- if t: .. else: .. -/
def xIfS (c : TT) (t u : TS) : TS := fun D σ H => c σ H fun b H1 => (b = true → t D σ H1) ∧ (b = false → u D σ H1)
theorem xs_if {c : Expr} {as bs : List Stmt} {tc : TT} {t u : TS} (hc : PT X c tc) (ha : PSs X as t) (hb : PSs X bs u) : PS X (.If c as bs pos) (xIfS tc t u) := by
  refine ⟨fun pins s0 σ H D J h => ?_⟩
  refine wpAny_If (thn (hc.run pins s0 σ H _ J h) fun k s2 ⟨H2, J2, q2⟩ => ?_)
  cases k with
  | true => exact ha.run pins s2 σ H2 D J2 (q2.1 rfl)
  | false => exact hb.run pins s2 σ H2 D J2 (q2.2 rfl)

/-! ### calls of built-ins -/
def yLen (K : PySem.W.Frag) : List V → Hp → VK → Prop := fun xs H Q => match xs with
  | [.str y] => y.length ≤ sizeLine ∧ Q (.int y.length) H
  | [.ref p] => ∃ ys, (SqL K H p ys ∨ SqT K H p ys) ∧ Q (.int ys.length) H
  | _ => False
theorem cr_len : CallR X (.builtin "len") (yLen X.K) := by
  refine cr_str (call_len (X := X)) fun xs H Q h => ?_
  unfold yLen at h
  split at h
  · exact ⟨_, _, rfl, ⟨h.1, rfl⟩, h.2⟩
  · obtain ⟨ys, hy, q⟩ := h
    rcases hy with hy | hy
    · exact ⟨_, _, rfl, .inl ⟨ys, hy, rfl⟩, q⟩
    · exact ⟨_, _, rfl, .inr ⟨ys, hy, rfl⟩, q⟩
  · exact h.elim
def yInt : List V → Hp → VK → Prop := fun xs H Q => match xs with
  | [.int i] => Q (.int i) H
  | [.bl k] => Q (.int (if k then 1 else 0)) H
  | [.str z] => ∃ n, PySem.intText? z = some n ∧ z.length ≤ 640 ∧ Q (.int n) H
  | _ => False
theorem cr_int : CallR X (.type "int") yInt := by
  refine cr_str (CallR.or (call_int1 (X := X)) (call_int_str (X := X))) fun xs H Q h => ?_
  unfold yInt at h
  split at h
  · exact .inl (.inl ⟨_, rfl, h⟩)
  · exact .inl (.inr ⟨_, rfl, h⟩)
  · obtain ⟨n, h1, h2, q⟩ := h
    exact .inr ⟨_, n, rfl, h1, h2, q⟩
  · exact h.elim
def yAbs : List V → Hp → VK → Prop := fun xs H Q => match xs with
  | [.int i] => Q (.int i.natAbs) H
  | _ => False
theorem cr_abs : CallR X (.builtin "abs") yAbs := by
  refine cr_str (call_abs (X := X)) fun xs H Q h => ?_
  unfold yAbs at h
  split at h
  · rename_i i
    refine ⟨i, rfl, ?_⟩
    have e : (if i < 0 then -i else i) = (i.natAbs : Int) := by split <;> omega
    rw [e]
    exact h
  · exact h.elim
def yStr : List V → Hp → VK → Prop := fun xs H Q => match xs with
  | [.int i] => i.natAbs.log2 < 1920 ∧ Q (.str (toString i)) H
  | _ => False
theorem cr_strI : CallR X (.type "str") yStr := by
  refine cr_str (call_str_int (X := X)) fun xs H Q h => ?_
  unfold yStr at h
  split at h
  · exact ⟨_, rfl, h.1, h.2⟩
  · exact h.elim
def yIx (K : PySem.W.Frag) : R2 := fun x y H Q => match x, y with
  | .ref p, .int i => ∃ xs v, (SqL K H p xs ∨ SqT K H p xs) ∧ atI xs i = some v ∧ Q v H
  | .str z, .int i => ∃ c, z.length ≤ sizeLine ∧ atI z.cps.toList i = some c ∧ Q (.str ⟨#[c]⟩) H
  | _, _ => False
theorem ix_y : IxR X (yIx X.K) := by
  intro value slice pins s σ H x y v u Q I rx ry h hs
  refine ix_seq (X := X) value slice pins s σ H x y v u Q I rx ry ?_ hs
  unfold yIx at h
  split at h
  · obtain ⟨xs, z, h1, h2, q⟩ := h
    rcases h1 with h1 | h1
    · exact .inl ⟨_, xs, _, z, rfl, rfl, h1, h2, q⟩
    · exact .inr (.inl ⟨_, xs, _, z, rfl, rfl, h1, h2, q⟩)
  · obtain ⟨k, h1, h2, q⟩ := h
    exact .inr (.inr ⟨_, _, k, rfl, rfl, h1, h2, q⟩)
  · exact h.elim
end

/-! ### the heap: what only grows, and the cells that change -/
def Sep (G : Hp) (M : List (Addr × HO)) (H : Hp) : Prop := Same G H ∧ (∀ p ∈ M, H p.1 = some p.2 ∧ G p.1 = none) ∧ (M.map (·.1)).Nodup
section
variable {G G' H H' : Hp} {M : List (Addr × HO)} {p a b : Addr} {o o' u : HO}
theorem same_upd (h : H p = none) : Same H (upd H p o) := fun b x e => by
  rw [upd_ne (ne_of_none e h)]
  exact e
theorem sep0 : Sep H [] H := ⟨Same.refl H, (fun _ h => nomatch h), List.nodup_nil⟩
theorem Sep.st (S : Sep G M H) (h : G a = some o) : H a = some o := S.1 a o h
theorem Sep.hd (S : Sep G ((a, o) :: M) H) : H a = some o := (S.2.1 _ List.mem_cons_self).1
theorem Sep.at (S : Sep G M H) (h : (a, o) ∈ M) : H a = some o := (S.2.1 _ h).1
theorem Sep.fresh (S : Sep G M H) (h : H p = none) : G p = none := S.1.free h
theorem Sep.new (S : Sep G M H) (h : H p = none) : Sep G ((p, o) :: M) (upd H p o) := by
  refine ⟨S.1.trans (same_upd h), fun q hq => ?_, ?_⟩
  · rcases List.mem_cons.mp hq with rfl | hq
    · exact ⟨upd_same, S.fresh h⟩
    · exact ⟨same_upd h _ _ (S.2.1 q hq).1, (S.2.1 q hq).2⟩
  · rw [List.map_cons, List.nodup_cons]
    refine ⟨fun hm => ?_, S.2.2⟩
    obtain ⟨q, hq, e⟩ := List.mem_map.mp hm
    have z := (S.2.1 q hq).1
    rw [e, h] at z
    cases z
theorem Sep.newG (S : Sep G M H) (h : H p = none) : Sep (upd G p o) M (upd H p o) := by
  refine ⟨fun b x e => ?_, fun q hq => ?_, S.2.2⟩
  · by_cases hb : b = p
    · subst hb
      rw [upd_same] at e ⊢
      exact e
    · rw [upd_ne hb] at e ⊢
      exact S.1 b x e
  · have z := S.2.1 q hq
    refine ⟨same_upd h _ _ z.1, ?_⟩
    rw [upd_ne (ne_of_none z.1 h)]
    exact z.2
theorem Sep.grow (S : Sep G M H) (h : H p = none) : Same G (upd G p o) := same_upd (S.fresh h)
theorem Sep.set (S : Sep G ((a, o) :: M) H) : Sep G ((a, o') :: M) (upd H a o') := by
  have hn := S.2.2
  rw [List.map_cons, List.nodup_cons] at hn
  have ha := S.2.1 _ List.mem_cons_self
  refine ⟨fun b x e => ?_, fun q hq => ?_, S.2.2⟩
  · rw [upd_ne (ne_of_none e ha.2)]
    exact S.1 b x e
  · rcases List.mem_cons.mp hq with rfl | hq
    · exact ⟨upd_same, ha.2⟩
    · refine ⟨?_, (S.2.1 q (List.mem_cons_of_mem _ hq)).2⟩
      rw [upd_ne (show q.1 ≠ a from fun e => hn.1 (by have z : q.1 ∈ M.map (·.1) := List.mem_map_of_mem hq
                                                      rw [e] at z; exact z))]
      exact (S.2.1 q (List.mem_cons_of_mem _ hq)).1
theorem Sep.frz (S : Sep G ((a, o) :: M) H) : Sep (upd G a o) M H := by
  have hn := S.2.2
  rw [List.map_cons, List.nodup_cons] at hn
  have ha := S.2.1 _ List.mem_cons_self
  refine ⟨fun b x e => ?_, fun q hq => ?_, hn.2⟩
  · by_cases hb : b = a
    · subst hb
      rw [upd_same] at e
      cases e
      exact ha.1
    · rw [upd_ne hb] at e
      exact S.1 b x e
  · have z := S.2.1 q (List.mem_cons_of_mem _ hq)
    refine ⟨z.1, ?_⟩
    rw [upd_ne (show q.1 ≠ a from fun e => hn.1 (by have z : q.1 ∈ M.map (·.1) := List.mem_map_of_mem hq
                                                    rw [e] at z; exact z))]
    exact z.2
theorem Sep.none (S : Sep G ((a, o) :: M) H) : G a = none := (S.2.1 _ List.mem_cons_self).2
theorem Sep.frzS (S : Sep G ((a, o) :: M) H) : Same G (upd G a o) := same_upd S.none
theorem Sep.drop {q : Addr × HO} (S : Sep G (q :: M) H) : Sep G M H := by
  have hn := S.2.2
  rw [List.map_cons, List.nodup_cons] at hn
  exact ⟨S.1, fun p hp => S.2.1 p (List.mem_cons_of_mem _ hp), hn.2⟩
theorem Sep.perm {M' : List (Addr × HO)} (S : Sep G M H) (h : M.Perm M') : Sep G M' H :=
  ⟨S.1, fun q hq => S.2.1 q (h.mem_iff.mpr hq), (h.map _).nodup_iff.mp S.2.2⟩
theorem Sep.sw {q r : Addr × HO} (S : Sep G (q :: r :: M) H) : Sep G (r :: q :: M) H := S.perm (List.Perm.swap _ _ _)
theorem same_l {K : PySem.W.Frag} {xs : List V} (e : Same H H') (h : SqL K H a xs) : SqL K H' a xs := e.seq h
theorem same_t {K : PySem.W.Frag} {xs : List V} (e : Same H H') (h : SqT K H a xs) : SqT K H' a xs := by
  rcases h with (h | ⟨o, h⟩) | h
  · exact .inl (.inl (e _ _ h))
  · exact .inl (.inr ⟨o, e _ _ h⟩)
  · exact .inr h
theorem Sep.l {K : PySem.W.Frag} {xs : List V} (S : Sep G M H) (h : SqL K G a xs) : SqL K H a xs := same_l S.1 h
theorem Sep.t {K : PySem.W.Frag} {xs : List V} (S : Sep G M H) (h : SqT K G a xs) : SqT K H a xs := same_t S.1 h
end
mutual
theorem dp_same {K : PySem.W.Frag} {H H' : Hp} (e : Same H H') : ∀ {d : PyData} {v : V}, Dp K H v d → Dp K H' v d
  | _, _, .non => .non
  | _, _, .bl b => .bl b
  | _, _, .int i => .int i
  | _, _, .str x => .str x
  | _, _, .lst h hs => .lst (same_l e h) (dpa_same e hs)
  | _, _, .tup h hs => .tup (same_t e h) (dpa_same e hs)
theorem dpa_same {K : PySem.W.Frag} {H H' : Hp} (e : Same H H') : ∀ {ds : List PyData} {vs : List V}, DpAll K H vs ds → DpAll K H' vs ds
  | _, _, .nil => .nil
  | _, _, .cons h hs => .cons (dp_same e h) (dpa_same e hs)
end

/-! ### loops by what has been gone through -/
theorem take_pre {α : Type} {xs : List α} {i : Nat} {x : α} (h : xs[i]? = some x) : xs = xs.take i ++ x :: xs.drop (i + 1) ∧ xs.take (i + 1) = xs.take i ++ [x] := by
  have hi : i < xs.length := (List.getElem?_eq_some_iff.mp h).1
  have e : xs[i] = x := (List.getElem?_eq_some_iff.mp h).2
  refine ⟨?_, ?_⟩
  · rw [← e, List.getElem_cons_drop, List.take_append_drop]
  · rw [List.take_add_one, h]
    rfl
section
variable {K : PySem.W.Frag} {a : Addr} {xs : List V} {g : TG} {tb : TS} {D : Ends} {σ : L2.St} {H : Hp}
theorem for_pre (Pv : List V → L2.St → Hp → Prop) (h0 : Pv [] σ H) (hl : ∀ pre σ H, Pv pre σ H → SqL K H a xs)
    (hs : ∀ pre x post σ H, xs = pre ++ x :: post → Pv pre σ H → g x σ H fun σ2 H2 => tb { D with nx := Pv (pre ++ [x]), ct := Pv (pre ++ [x]), bk := D.nx } σ2 H2) (hd : ∀ σ H, Pv xs σ H → D.nx σ H) :
    ∃ W : Nat → Nat → L2.St → Hp → Prop, (∃ m, W 0 m σ H) ∧ ∀ i m σ H, W i m σ H →
      ((Itl K a).stop i H ∧ D.nx σ H) ∨ ((Itl K a).go i H ∧ ∃ N : L2.St → Hp → Prop, (∀ σ' H', N σ' H' → ∃ m', m' < m ∧ W (i + 1) m' σ' H') ∧ ∀ x H', (Itl K a).yld i H x H' → g x σ H' fun σ2 H2 => tb { D with nx := N, ct := N, bk := D.nx } σ2 H2) :=
  for_list (fun i => Pv (xs.take i)) h0 (fun i σ H _ p => hl _ σ H p) (fun i x σ H hx p => by
    rw [(take_pre hx).2]
    exact hs _ x _ σ H (take_pre hx).1 p) (fun σ H p => hd σ H (by rw [List.take_length] at p; exact p))
theorem for_preT (Pv : List V → L2.St → Hp → Prop) (h0 : Pv [] σ H) (hl : ∀ pre σ H, Pv pre σ H → SqT K H a xs)
    (hs : ∀ pre x post σ H, xs = pre ++ x :: post → Pv pre σ H → g x σ H fun σ2 H2 => tb { D with nx := Pv (pre ++ [x]), ct := Pv (pre ++ [x]), bk := D.nx } σ2 H2) (hd : ∀ σ H, Pv xs σ H → D.nx σ H) :
    ∃ W : Nat → Nat → L2.St → Hp → Prop, (∃ m, W 0 m σ H) ∧ ∀ i m σ H, W i m σ H →
      ((Itt K a).stop i H ∧ D.nx σ H) ∨ ((Itt K a).go i H ∧ ∃ N : L2.St → Hp → Prop, (∀ σ' H', N σ' H' → ∃ m', m' < m ∧ W (i + 1) m' σ' H') ∧ ∀ x H', (Itt K a).yld i H x H' → g x σ H' fun σ2 H2 => tb { D with nx := N, ct := N, bk := D.nx } σ2 H2) :=
  for_tup (fun i => Pv (xs.take i)) h0 (fun i σ H _ p => hl _ σ H p) (fun i x σ H hx p => by
    rw [(take_pre hx).2]
    exact hs _ x _ σ H (take_pre hx).1 p) (fun σ H p => hd σ H (by rw [List.take_length] at p; exact p))
/-- for i, x in enumerate(xs) -/
theorem for_enum {i j : Nat} (Pv : List V → L2.St → Hp → Prop) (h0 : Pv [] σ H) (hl : ∀ pre σ H, Pv pre σ H → SqL K H a xs)
    (hs : ∀ pre x post σ H T, xs = pre ++ x :: post → Pv pre σ H → H T = none →
      tb { D with nx := Pv (pre ++ [x]), ct := Pv (pre ++ [x]), bk := D.nx } ((σ.set i (some (.int (pre.length : Nat)))).set j (some x)) (upd H T (.tup [.int (pre.length : Nat), x]))) (hd : ∀ σ H, Pv xs σ H → D.nx σ H) :
    ∃ W : Nat → Nat → L2.St → Hp → Prop, (∃ m, W 0 m σ H) ∧ ∀ k m σ H, W k m σ H →
      ((Ite K a).stop k H ∧ D.nx σ H) ∨ ((Ite K a).go k H ∧ ∃ N : L2.St → Hp → Prop, (∀ σ' H', N σ' H' → ∃ m', m' < m ∧ W (k + 1) m' σ' H') ∧ ∀ x H', (Ite K a).yld k H x H' →
        (gTup K 2 (gCons (gName i) (gCons (gName j) gNil))) x σ H' fun σ2 H2 => tb { D with nx := N, ct := N, bk := D.nx } σ2 H2) := by
  refine ⟨fun k m σ H => m = xs.length - k ∧ k ≤ xs.length ∧ Pv (xs.take k) σ H, ⟨xs.length, by simp, Nat.zero_le _, h0⟩, ?_⟩
  rintro k m σ H ⟨rfl, hk, p⟩
  have q := hl _ σ H p
  by_cases hlt : k < xs.length
  · refine .inr ⟨⟨xs, xs[k], q, by simp [hlt]⟩, Pv (xs.take (k + 1)), fun σ' H' p' => ⟨xs.length - (k + 1), by omega, rfl, hlt, p'⟩, fun v H' y => ?_⟩
    obtain ⟨T, x, rfl, nT, rfl, hx⟩ := y
    have hx := hx xs q
    refine ⟨T, _, rfl, SqT.of upd_same, rfl, _, _, rfl, _, _, rfl, rfl, ?_⟩
    have z := hs _ x _ σ H T (take_pre hx).1 p nT
    rw [(take_pre hx).2]
    rw [show (xs.take k).length = k by rw [List.length_take]; omega] at z
    exact z
  · have e : k = xs.length := by omega
    subst e
    rw [List.take_length] at p
    exact .inl ⟨⟨xs, q, Nat.le_refl _⟩, hd σ H p⟩
/-- [e for x in xs] -/
theorem lc_pre {te : TE} {vs : List Nat} {i : Nat} {H1 : Hp} {L : Addr} {Qd : Hp → Prop} (Pv : List V → Hp → Prop) (h0 : Pv [] (upd H1 L (.lst []))) (hl : ∀ pre H, Pv pre H → SqL K H a xs)
    (hw : ∀ x, wipe ((wipe σ vs).set i (some x)) vs = wipe σ vs)
    (hs : ∀ pre x post H, xs = pre ++ x :: post → Pv pre H → te ((wipe σ vs).set i (some x)) H fun y H4 => ∃ acc, H4 L = some (.lst acc) ∧ acc.length < sizeLine ∧ Pv (pre ++ [x]) (upd H4 L (.lst (acc ++ [y])))) (hd : ∀ H, Pv xs H → Qd H) :
    ∃ W : Nat → Nat → Hp → Prop, (∃ m, W 0 m (upd H1 L (.lst []))) ∧ ∀ k m H, W k m H →
      ((Itl K a).stop k H ∧ Qd H) ∨ ((Itl K a).go k H ∧ ∃ Nx : Hp → Prop, (∀ H', Nx H' → ∃ m', m' < m ∧ W (k + 1) m' H') ∧ ∀ x H', (Itl K a).yld k H x H' → gName i x (wipe σ vs) H' fun σ2 H2 => wipe σ2 vs = wipe σ vs ∧ tYes σ2 H2 fun b H3 =>
        if b = true then te σ2 H3 fun y H4 => ∃ acc, H4 L = some (.lst acc) ∧ acc.length < sizeLine ∧ Nx (upd H4 L (.lst (acc ++ [y]))) else Nx H3) :=
  lc_list (fun k => Pv (xs.take k)) h0 (fun k H _ p => hl _ H p) (fun k x H hx p => ⟨hw x, by
    rw [(take_pre hx).2]
    exact hs _ x _ H (take_pre hx).1 p⟩) (fun H p => hd H (by rw [List.take_length] at p; exact p))
/-- [e for x in range(n)] -/
theorem lc_rng {te : TE} {vs : List Nat} {i : Nat} {n : Nat} {lo : Int} {H1 : Hp} {L : Addr} {Qd : Hp → Prop} (Pv : Nat → Hp → Prop) (h0 : Pv 0 (upd H1 L (.lst [])))
    (hw : ∀ x, wipe ((wipe σ vs).set i (some x)) vs = wipe σ vs)
    (hs : ∀ k H, k < n → Pv k H → te ((wipe σ vs).set i (some (.int (lo + k)))) H fun y H4 => ∃ acc, H4 L = some (.lst acc) ∧ acc.length < sizeLine ∧ Pv (k + 1) (upd H4 L (.lst (acc ++ [y])))) (hd : ∀ H, Pv n H → Qd H) :
    ∃ W : Nat → Nat → Hp → Prop, (∃ m, W 0 m (upd H1 L (.lst []))) ∧ ∀ k m H, W k m H →
      ((Itr lo n).stop k H ∧ Qd H) ∨ ((Itr lo n).go k H ∧ ∃ Nx : Hp → Prop, (∀ H', Nx H' → ∃ m', m' < m ∧ W (k + 1) m' H') ∧ ∀ x H', (Itr lo n).yld k H x H' → gName i x (wipe σ vs) H' fun σ2 H2 => wipe σ2 vs = wipe σ vs ∧ tYes σ2 H2 fun b H3 =>
        if b = true then te σ2 H3 fun y H4 => ∃ acc, H4 L = some (.lst acc) ∧ acc.length < sizeLine ∧ Nx (upd H4 L (.lst (acc ++ [y]))) else Nx H3) :=
  lc_range (lo := lo) (n := n) Pv h0 (fun k H hk p => ⟨hw _, hs k H hk p⟩) hd
end
/-! ### places of lists -/
theorem atI_in {α : Type} {xs : List α} {i : Int} (h0 : 0 ≤ i) (h1 : i < xs.length) : ∃ v, atI xs i = some v ∧ v ∈ xs := by
  obtain ⟨j, rfl⟩ : ∃ j : Nat, i = (j : Int) := ⟨i.toNat, by omega⟩
  have hj : j < xs.length := by omega
  exact ⟨xs[j], atI_nat (List.getElem?_eq_getElem hj), List.getElem_mem hj⟩
theorem small {n : Nat} (h : n ≤ 100000) : n ≤ sizeLine := Nat.le_trans h (by decide)
theorem smallL {n : Nat} (h : n < 100000) : n < sizeLine := Nat.lt_of_lt_of_le h (by decide)
theorem sz {n : Nat} (h : Nat.ble n 100000 = true := by rfl) : n ≤ sizeLine := small (Nat.le_of_ble_eq_true h)
theorem seqIdx {i : Int} {n : Nat} (h0 : 0 ≤ i) (h1 : i < n) : seqIndex? i n = some i.toNat := by
  unfold seqIndex?
  have e : (if i < 0 then i + n else i) = i := by rw [if_neg (by omega)]
  simp only [e]
  rw [if_pos (by simp; omega)]
theorem atN {α : Type} {xs : List α} {i : Int} {v : α} (h0 : 0 ≤ i) (h : atI xs i = some v) : xs[i.toNat]? = some v := by
  obtain ⟨j, rfl⟩ : ∃ j : Nat, i = (j : Int) := ⟨i.toNat, by omega⟩
  unfold atI ixN at h
  rw [if_pos (by omega)] at h
  split at h
  · simpa using h
  · cases h
theorem mem_erase {α : Type} {xs : List α} {k : Nat} {y : α} (h : y ∈ xs.eraseIdx k) : y ∈ xs := List.mem_of_mem_eraseIdx h
/-- the i-th of a paired list -/
theorem prd_get {α β : Type} {F : α → β → Prop} : ∀ {xs : List α} {ys : List β} {i : Nat} {x : α}, Paired F xs ys → xs[i]? = some x → ∃ y, ys[i]? = some y ∧ F x y
  | _, _, _, _, .nil, h => by simp at h
  | _, _, 0, _, .cons r _, h => by
    simp at h
    subst h
    exact ⟨_, rfl, r⟩
  | _, _, i + 1, _, .cons _ t, h => by
    rw [List.getElem?_cons_succ] at h
    obtain ⟨y, h1, h2⟩ := prd_get t h
    exact ⟨y, by rw [List.getElem?_cons_succ]; exact h1, h2⟩
theorem prd_len {α β : Type} {F : α → β → Prop} : ∀ {xs : List α} {ys : List β}, Paired F xs ys → xs.length = ys.length
  | _, _, .nil => rfl
  | _, _, .cons _ t => congrArg (· + 1) (prd_len t)
theorem prd_imp {α β : Type} {F F' : α → β → Prop} (k : ∀ x y, F x y → F' x y) : ∀ {xs : List α} {ys : List β}, Paired F xs ys → Paired F' xs ys
  | _, _, .nil => .nil
  | _, _, .cons r t => .cons (k _ _ r) (prd_imp k t)
theorem prd_app {α β : Type} {F : α → β → Prop} : ∀ {xs xs' : List α} {ys ys' : List β}, Paired F xs ys → Paired F xs' ys' → Paired F (xs ++ xs') (ys ++ ys')
  | _, _, _, _, .nil, s => s
  | _, _, _, _, .cons r t, s => .cons r (prd_app t s)
theorem prd_take {α β : Type} {F : α → β → Prop} : ∀ {xs : List α} {ys : List β} (n : Nat), Paired F xs ys → Paired F (xs.take n) (ys.take n)
  | _, _, 0, _ => .nil
  | _, _, _ + 1, .nil => .nil
  | _, _, n + 1, .cons r t => .cons r (prd_take n t)
/-- each has a partner -/
theorem prd_ex {α β : Type} {F : α → β → Prop} : ∀ {xs : List α}, (∀ x ∈ xs, ∃ y, F x y) → ∃ ys, Paired F xs ys
  | [], _ => ⟨[], .nil⟩
  | x :: r, h => by
    obtain ⟨y, hy⟩ := h x List.mem_cons_self
    obtain ⟨ys, hs⟩ := prd_ex fun x hx => h x (List.mem_cons_of_mem _ hx)
    exact ⟨y :: ys, .cons hy hs⟩
theorem prd_mem {α β : Type} {F : α → β → Prop} {x : α} : ∀ {xs : List α} {ys : List β}, Paired F xs ys → x ∈ xs → ∃ y ∈ ys, F x y
  | _, _, .nil, h => nomatch h
  | _, _, .cons (b := b) r t, h => by
    rcases List.mem_cons.mp h with rfl | h
    · exact ⟨b, List.mem_cons_self, r⟩
    · obtain ⟨y, h1, h2⟩ := prd_mem t h
      exact ⟨y, List.mem_cons_of_mem _ h1, h2⟩
/-- a statement and what follows it, with a word J between them -/
def xCut (t u : TS) : TS := fun D σ H => ∃ J : L2.St → Hp → Prop, t { D with nx := J } σ H ∧ ∀ σ' H', J σ' H' → u D σ' H'
theorem xss_cut {X : Cx} {st : Stmt} {sts : List Stmt} {t u : TS} (h1 : PS X st t) (h2 : PSs X sts u) : PSs X (st :: sts) (xCut t u) := by
  refine ⟨fun pins s0 σ H D I h => ?_⟩
  obtain ⟨J, hj, hu⟩ := h
  refine wpAny_execs_cons (thn (h1.run pins s0 σ H { D with nx := J } I hj) fun fl s2 q => ?_)
  cases fl with
  | next =>
    obtain ⟨σ2, H2, I2, q2⟩ := q
    exact h2.run pins s2 σ2 H2 D I2 (hu σ2 H2 q2)
  | _ => exact q
section
variable {K : PySem.W.Frag} {a : Addr} {xs : List V} {σ : L2.St}
/-- [e for x in xs], by the turn -/
theorem lc_at {te : TE} {vs : List Nat} {i : Nat} {H1 : Hp} {L : Addr} {Qd : Hp → Prop} (Pv : Nat → Hp → Prop) (h0 : Pv 0 (upd H1 L (.lst []))) (hl : ∀ k H, Pv k H → SqL K H a xs)
    (hw : ∀ x, wipe ((wipe σ vs).set i (some x)) vs = wipe σ vs)
    (hs : ∀ k x H, xs[k]? = some x → Pv k H → te ((wipe σ vs).set i (some x)) H fun y H4 => ∃ acc, H4 L = some (.lst acc) ∧ acc.length < sizeLine ∧ Pv (k + 1) (upd H4 L (.lst (acc ++ [y])))) (hd : ∀ H, Pv xs.length H → Qd H) :
    ∃ W : Nat → Nat → Hp → Prop, (∃ m, W 0 m (upd H1 L (.lst []))) ∧ ∀ k m H, W k m H →
      ((Itl K a).stop k H ∧ Qd H) ∨ ((Itl K a).go k H ∧ ∃ Nx : Hp → Prop, (∀ H', Nx H' → ∃ m', m' < m ∧ W (k + 1) m' H') ∧ ∀ x H', (Itl K a).yld k H x H' → gName i x (wipe σ vs) H' fun σ2 H2 => wipe σ2 vs = wipe σ vs ∧ tYes σ2 H2 fun b H3 =>
        if b = true then te σ2 H3 fun y H4 => ∃ acc, H4 L = some (.lst acc) ∧ acc.length < sizeLine ∧ Nx (upd H4 L (.lst (acc ++ [y]))) else Nx H3) :=
  lc_list Pv h0 (fun k H _ p => hl _ H p) (fun k x H hx p => ⟨hw x, hs _ x H hx p⟩) hd
end
theorem take_snoc {α : Type} {xs : List α} {i : Nat} {x : α} (h : xs[i]? = some x) : xs.take (i + 1) = xs.take i ++ [x] := (take_pre h).2
theorem ff {A : Prop} (h : false = true) : A := nomatch h
theorem tt {A : Prop} (h : true = false) : A := nomatch h
/-! ### the same with the written part K said (within a comprehension the reading must not name its context) -/
section
variable {X : Cx} (K : PySem.W.Frag) {a b e o : Expr} {es : List Expr} {ta tb te to : TE} {t : TA} {pos : Pos} {tg : Expr}
theorem ix_k (h : X.K = K := by rfl) : IxR X (yIx K) := h ▸ ix_y
theorem cr_lenK (h : X.K = K := by rfl) : CallR X (.builtin "len") (yLen K) := h ▸ cr_len
theorem op_eqK (hu : X.A.units + 64 < cLine) (h : X.K = K := by rfl) : OpR X (compareOp .Eq) (yEq K) := h ▸ op_eqY hu
theorem op_neK (hu : X.A.units + 64 < cLine) (h : X.K = K := by rfl) : OpR X (compareOp .NotEq) (yNe K) := h ▸ op_neY hu
theorem xt_truK (ha : PE X a ta) (h : X.K = K := by rfl) (he : ∀ whole, isTrue a X.env whole = (do let v ← whole; standAt a.pos; holding [v] (truthy v)) := by intro _; rfl) : PT X a (xTru K ta) := h ▸ xt_tru ha he
theorem call_isK (h : X.K = K := by rfl) : CallR X (.builtin "isinstance") (rIsi K) := h ▸ call_isi
def yList (K : PySem.W.Frag) : List V → Hp → VK → Prop := fun xs H Q => ∃ p ys, xs = [.ref p] ∧ (SqL K H p ys ∨ SqT K H p ys) ∧ ∀ l, H l = none → Q (.ref l) (upd H l (.lst ys))
theorem call_listK (h : X.K = K := by rfl) : CallR X (.type "list") (yList K) := h ▸ call_list_of
def yTup (K : PySem.W.Frag) : List V → Hp → VK → Prop := fun xs H Q => ∃ p ys, xs = [.ref p] ∧ ((SqL K H p ys ∧ ∀ l, H l = none → Q (.ref l) (upd H l (.tup ys))) ∨ (SqT K H p ys ∧ Q (.ref p) H))
theorem call_tupleK (h : X.K = K := by rfl) : CallR X (.type "tuple") (yTup K) := h ▸ call_tuple_of
theorem cr_sumK (hc : X.calm = true) (h : X.K = K := by rfl) : CallR X (.builtin "sum") (rSum K) := h ▸ cr_sum hc
theorem sl_listK (h : X.K = K := by rfl) : SlR X (rSlL K) := h ▸ sl_list
theorem pi_listK (ha : PE X a ta) (h : X.K = K := by rfl) : PI X tg a (iList K ta) := h ▸ pi_list ha
theorem pi_tupK (ha : PE X a ta) (h : X.K = K := by rfl) : PI X tg a (iTup K ta) := h ▸ pi_tup ha
theorem pe_bmK {T id : String} {name : Str} {apos cpos : Pos} {r : V → List V → Hp → VK → Prop} (pa : PlainAttrs T) (slot : Slot T name id) (hty : typeOf (.builtin id) = pure (.type "method_descriptor")) (hm : MtR X id r) (ho : PE X o to) (ha : PA X (e :: es) t) (hK : X.K = K := by rfl)
    (hbase : attributeBase o name X.env (eval o X.env) = eval o X.env := by rfl)
    (hfew : ((backTo cpos (starEach (e :: es) X.env)).all (fun x => !x.1) && (backToKw cpos (keywordEach [] X.env)).all (fun x => x.1.isSome)
      && decide ((e :: es).length + ([] : List Keyword).length + (if ([] : List Keyword).isEmpty then 0 else 1) < 30)) = true := by rfl)
    (hline : (apos.endLine == cpos.line) = true := by rfl) (hs : starEach (e :: es) X.env = (false, eval e X.env) :: starEach es X.env := by rfl) (hplain : (backTo cpos (starEach es X.env)).any (·.1) = false := by rfl) :
    PE X (.Call (.Attribute o name apos) (e :: es) [] cpos) (tBM K T r to t) := hK ▸ pe_bm pa slot hty hm ho ha hbase hfew hline hs hplain
end
section
variable {X : Cx} {a b c o : Expr} {ta tb tc : TE} {pos : Pos}
/-- a op1 b op2 c, b asked once -/
def xChain (r r' : R2) (ta tb tc : TE) : TE := fun σ H Q => ta σ H fun x H1 => tb σ H1 fun y H2 => r x y H2 fun z H3 => match z with
  | .bl k => (k = true → tc σ H3 fun w' H4 => r' y w' H4 Q) ∧ (k = false → Q (.bl false) H3)
  | _ => False
theorem xe_chain {op op' : CmpOp} {r r' : R2} (ho : OpR X (compareOp op) r) (ho' : OpR X (compareOp op') r') (ha : PE X a ta) (hb : PE X b tb) (hc : PE X c tc)
    (hm : lastMarks [op, op'] [b, c] = false := by with_unfolding_all rfl) : PE X (.Compare a [op, op'] [b, c] pos) (xChain r r' ta tb tc) := by
  refine ⟨fun pins s0 σ H Q J h => ?_⟩
  refine Compare_chain (thn (ha.run pins s0 σ H _ J h) fun v s1 ⟨x, H1, J1, r1, q1⟩ => chain_link (thn (hb.run pins s1 σ H1 _ J1 q1) fun u s2 ⟨y, H2, J2, r2, q2⟩ =>
    thn (ho pins s2 σ H2 x y v u _ J2 r1 r2 q2) fun d s3 ⟨z, H3, J3, r3, q3⟩ => ?_)) hm
  cases z with
  | bl k =>
    cases r3
    refine wpAny_truthy_bool ?_
    cases k with
    | false => exact ite_ff ⟨.bl false, H3, J3, rfl, q3.2 rfl⟩
    | true => exact ite_tt (chain_last (thn (hc.run pins s3 σ H3 _ J3 (q3.1 rfl)) fun w' s4 ⟨z', H4, J4, r4, q4⟩ => ho' pins s4 σ H4 y z' u w' Q J4 r2 r4 q4))
  | _ => exact False.elim q3
theorem xt_chain {op op' : CmpOp} {r r' : R2} (ho : OpR X (compareOp op) r) (ho' : OpR X (compareOp op') r') (ha : PE X a ta) (hb : PE X b tb) (hc : PE X c tc)
    (hm : lastMarks [op, op'] [b, c] = false := by with_unfolding_all rfl) : PT X (.Compare a [op, op'] [b, c] pos) (xB (xChain r r' ta tb tc)) := by
  refine ⟨fun pins s0 σ H Q J h => ?_⟩
  refine isTrue_chain (thn (ha.run pins s0 σ H _ J h) fun v s1 ⟨x, H1, J1, r1, q1⟩ => test_link (thn (hb.run pins s1 σ H1 _ J1 q1) fun u s2 ⟨y, H2, J2, r2, q2⟩ =>
    thn (ho pins s2 σ H2 x y v u _ J2 r1 r2 q2) fun d s3 ⟨z, H3, J3, r3, q3⟩ => ?_)) hm
  cases z with
  | bl k =>
    cases r3
    refine wpAny_truthy_bool ?_
    cases k with
    | false => exact ite_ff ⟨H3, J3, q3.2 rfl⟩
    | true =>
      refine ite_tt (test_last (thn (hc.run pins s3 σ H3 _ J3 (q3.1 rfl)) fun w' s4 ⟨z', H4, J4, r4, q4⟩ => thn (ho' pins s4 σ H4 y z' u w' _ J4 r2 r4 q4) fun d' s5 ⟨z2, H5, J5, r5, q5⟩ => ?_))
      cases z2 with
      | bl k2 =>
        cases r5
        exact wpAny_truthy_bool ⟨H5, J5, q5⟩
      | _ => exact False.elim q5
  | _ => exact False.elim q3
/-- while: a word with its measure -/
def xWhile (c : TT) (tb : TS) : TS := fun D σ H => ∃ W : Nat → L2.St → Hp → Prop, (∃ m, W m σ H) ∧ ∀ m σ H, W m σ H → c σ H fun b H1 =>
  (b = true → tb { D with nx := fun σ' H' => ∃ m', m' < m ∧ W m' σ' H', ct := fun σ' H' => ∃ m', m' < m ∧ W m' σ' H', bk := D.nx } σ H1) ∧ (b = false → D.nx σ H1)
theorem xs_while {c : Expr} {body : List Stmt} {tc : TT} {tb : TS} (hp : PassesOwn (model X.prog X.w) X.A X.env X.xe) (hc : PT X c tc) (hb : PSs X body tb) : PS X (.While c body [] pos) (xWhile tc tb) := by
  refine ⟨fun pins s0 σ H D J h => ?_⟩
  obtain ⟨W, ⟨m0, w0⟩, turn⟩ := h
  refine wpAny_While (codeAny_whileLoop (fun n s' => ∃ σ' H', L2.Inv X pins σ' H' s' ∧ W n σ' H') ?_ m0 ⟨σ, H, J, w0⟩)
  rintro n s1 ⟨σ1, H1, J1, w1⟩
  refine wpAny_passesOwn hp (thn (hc.run pins s1 σ1 H1 _ J1 (turn n σ1 H1 w1)) fun k s2 ⟨H2, J2, q2⟩ => ?_)
  cases k with
  | true =>
    rw [if_pos rfl]
    refine wpAny_passesOwn hp (thn (hb.run pins s2 σ1 H2 _ J2 (q2.1 rfl)) fun f s3 q3 => ?_)
    cases f with
    | next =>
      obtain ⟨σ3, H3, J3, m', hm, w3⟩ := q3
      exact ⟨m', hm, σ3, H3, J3, w3⟩
    | cont =>
      obtain ⟨σ3, H3, J3, m', hm, w3⟩ := q3
      exact ⟨m', hm, σ3, H3, J3, w3⟩
    | brk => exact q3
    | ret v => exact q3
  | false =>
    rw [if_neg Bool.false_ne_true]
    exact wpAny_execs_nil ⟨σ1, H2, J2, q2.2 rfl⟩
/-- a comparison by an own method (__le__ ..) of two instances of C -/
def yOwn (C : Addr) (sp : Sp) (E : XK) : R2 := fun x y H Q => ∃ a b dx dy fs gs, x = .ref a ∧ y = .ref b ∧ H a = some (.ins C dx fs) ∧ H b = some (.ins C dy gs) ∧ sp [.ref a, .ref b] H Q E
theorem op_own {CX : CXT} {C f : Addr} {fd : FuncData} {ps : List Str} {sp : Sp} {E : XK} {op : CmpOp} {n : Nat} (hop : compareOp op = richCompare op) (F : FnOk X.prog X.w X.K X.mg X.base CX n f fd ps sp)
    (hs : PySem.W.findIn X.K (.ref C) (cmpInfo op).2.1 = some (some (.ref f))) (hf : PySem.W.isFn X.K (.ref f) = true) (hb : Binds X.K fd ps []) (hx : Passes CX X E) (hr : Room n X.A) : OpR X (compareOp op) (yOwn C sp E) := by
  intro pins s σ H x y u v Q I rx ry h
  obtain ⟨a, b, dx, dy, fs, gs, rfl, rfl, ha, hb', hsp⟩ := h
  cases rx
  cases ry
  rw [hop]
  obtain ⟨mA, J1, _⟩ := ins_get I.hok ha
  obtain ⟨mB, J2, _⟩ := ins_get I.hok hb'
  obtain ⟨od, J1, _⟩ := J1.look
  obtain ⟨od', J2, _⟩ := J2.look
  obtain ⟨m, hF⟩ := I.fr
  refine PySem.W.cmp_K (op := op) (tb := .ref C) hr.units0 hF I.ok.mod.kin J1 J2.type (by simp [PySem.W.notFirst]) hs hf ?_
  have hl := F.len _ _ _ _ hsp
  refine wpAny_mono (run_fn (us := [.ref a, .ref b]) (vs := [.ref a, .ref b]) (dvs := []) F hr hb .nil hx I (.cons rfl (.cons rfl .nil)) hsp) (fun v s' q => ?_) fun _ _ e => e
  obtain ⟨z, H', I', rz, q⟩ := q
  have fin : EP X pins σ Q v s' := ⟨z, H', I', rz, q⟩
  cases v <;> first | exact fin | (cases z <;> first | exact absurd (show _ = _ from rz) (by intro e; cases e) | (obtain ⟨_, e⟩ := rz; cases e))
variable (K : PySem.W.Frag)
theorem pe_fldK {f : Str} (ha : PE X a ta) (hb : attributeBase a f X.env (eval a X.env) = eval a X.env := by rfl) (h : X.K = K := by rfl) : PE X (.Attribute a f pos) (tFld K ta f) := h ▸ pe_fld ha hb
theorem in_seqK (h : X.K = K := by rfl) : OpR X (compareOp .In) (rIn K false) := h ▸ op_in_seq
theorem notin_seqK (h : X.K = K := by rfl) : OpR X (compareOp .NotIn) (rIn K true) := h ▸ op_notIn_seq
theorem mt_countK (h : X.K = K := by rfl) : MtR X "list.count" (rCntI K) := h ▸ mt_lcount
theorem cr_allK (hc : X.calm = true) (h : X.K = K := by rfl) : CallR X (.builtin "all") (rAll K) := h ▸ cr_all hc
theorem cr_anyK (hc : X.calm = true) (h : X.K = K := by rfl) : CallR X (.builtin "any") (rAny K) := h ▸ cr_any hc
end
theorem xe_glob {X : Cx} {x z : Str} {pos : Pos} (hg : Gl X x) (hm : ∃ t, X.mg x = some (.str z t)) (hd : (x == ("__debug__" : Str)) = false := by decide) : PE X (.Name x pos) (tC (.str z)) := by
  obtain ⟨t, hm⟩ := hm
  exact pe_glob hg hm ⟨_, rfl⟩ hd
theorem xe_globI {X : Cx} {x : Str} {z : Int} {pos : Pos} (hg : Gl X x) (hm : ∃ t, X.mg x = some (.int z t)) (hd : (x == ("__debug__" : Str)) = false := by decide) : PE X (.Name x pos) (tC (.int z)) := by
  obtain ⟨t, hm⟩ := hm
  exact pe_glob hg hm ⟨_, rfl⟩ hd
theorem prd_unsnoc {α β : Type} {F : α → β → Prop} {x : α} : ∀ {xs : List α} {ys : List β}, Paired F (xs ++ [x]) ys → ∃ ys' y, ys = ys' ++ [y] ∧ Paired F xs ys' ∧ F x y
  | [], _, .cons r .nil => ⟨[], _, rfl, .nil, r⟩
  | _ :: xs, _, .cons (b := b) r t => by
    obtain ⟨ys', y, rfl, h1, h2⟩ := prd_unsnoc (xs := xs) t
    exact ⟨b :: ys', y, rfl, .cons r h1, h2⟩
theorem nil_or_snoc {α : Type} (xs : List α) : xs = [] ∨ ∃ ys y, xs = ys ++ [y] := by
  rcases List.eq_nil_or_concat xs with h | ⟨ys, y, h⟩
  · exact .inl h
  · exact .inr ⟨ys, y, by simpa using h⟩
theorem pg_tupK {X : Cx} (K : PySem.W.Frag) (n : Nat) {es : List Expr} {k : Nat} {pos : Pos} {t : TGs} (h : PGs X es t) (hc : X.calm = true := by rfl) (hK : X.K = K := by rfl)
    (hn : (assignEach es X.env).length = n := by rfl) (hst : (assignEach es X.env).findIdx? (·.1) = none := by rfl) : PG X (.Tuple es k pos) (gTup K n t) := hK ▸ pg_tup hc h hn hst
theorem perm_erase {α : Type} : ∀ {xs : List α} {i : Nat} {x : α}, xs[i]? = some x → (x :: xs.eraseIdx i).Perm xs
  | [], _, _, h => by simp at h
  | y :: r, 0, x, h => by
    simp at h
    subst h
    exact List.Perm.refl _
  | y :: r, i + 1, x, h => by
    rw [List.getElem?_cons_succ] at h
    exact (List.Perm.swap _ _ _).trans (List.Perm.cons _ (perm_erase h))
theorem Sep.new2 {G H : Hp} {M : List (Addr × HO)} {x dx : Addr} {o u : HO} (S : Sep G M H) (h1 : H x = Option.none) (h2 : H dx = Option.none) (ne : dx ≠ x) : Sep G ((x, o) :: (dx, u) :: M) (upd (upd H dx u) x o) :=
  (S.new h2).new (by rw [upd_ne (Ne.symm ne)]; exact h1)
end XL
set_option Elab.async false
set_option linter.all false
set_option maxRecDepth 100000
set_option maxHeartbeats 4000000
/-! XIter: enumerate of a tuple. -/
namespace XL
open PySem PySem.Spec PyProof.Rows L2
theorem meets_enum1 {v : Value} {o : Obj} {Hq : Heap → Prop} (B : Begins v o Hq) :
    Meets (Builtin.«enumerate.__new__» ⟨[.type "enumerate", v], []⟩) (fun _ R s => Hq s.heap ∧
      R (.ok (.ret (.ref (s.heap.push o).objs.size))) { s with heap := (s.heap.push o).push { cls := .type "enumerate", data := .fields #[.none, .bool false, .ref s.heap.objs.size, rawInt 0, .none, .none] } }) :=
  .of_wp fun prog w A R s z => by
    obtain ⟨hp, g, d, tk, os⟩ := s
    obtain ⟨z1, z2⟩ := z
    have hsub := sub_enumerate
    have begin1 : ∀ {A' : Around} {E : Value → Shared → Prop} {Q : Value → Shared → Prop}, Q (.ref hp.objs.size) ⟨hp.push o, g, d, tk, os⟩ → wpAny (model prog w) A' (pyIter v) Q E ⟨hp, g, d, tk, os⟩ := fun q => B.iter prog w _ _ ⟨hp, g, d, tk, os⟩ _ z1 q
    wp_walk using begin1
    refine wpAny_stack_any fun st => wpAny_pure ?_
    split
    · rename_i c _ _ _ _ _
      cases (c == Value.type "enumerate") <;> (wp_walk using begin1; exact ⟨_, rfl, z2⟩)
    · wp_walk using begin1
      exact ⟨_, rfl, z2⟩
theorem call_enum1 {prog : Program} {w : World} {A : Around} {E : Value → Shared → Prop} {s : Shared} {v : Value} {o : Obj} {Hq : Heap → Prop} {Q : Value → Shared → Prop} (B : Begins v o Hq) (h1 : Hq s.heap)
    (k : ∀ h', IsEnum h' (s.heap.objs.size + 1) s.heap.objs.size 0 .none → h'.get? s.heap.objs.size = some o → (∀ b o, s.heap.get? b = some o → h'.get? b = some o) → Q (.ref (s.heap.objs.size + 1)) { s with heap := h' }) :
    wpAny (model prog w) A (call (.type "enumerate") [v]) Q E s := by
  refine callType_new F.called_enumerate (by decide) (F.typeCall_enumerate_1 _) (F.newCall_enumerate_1 _) (fun ob => F.args_object_init_2 ob _) F.entry_enumerate_new (meets_enum1 B) ⟨h1, ?_⟩
  have hz : (s.heap.push o).objs.size = s.heap.objs.size + 1 := Heap.size_push ..
  show _ ∧ _
  rw [hz]
  have he : IsEnum ((s.heap.push o).push { cls := .type "enumerate", data := .fields #[.none, .bool false, .ref s.heap.objs.size, rawInt 0, .none, .none] }) (s.heap.objs.size + 1) s.heap.objs.size 0 .none := by
    have z := Heap.get?_push_size (s.heap.push o) (o := { cls := .type "enumerate", data := .fields #[.none, .bool false, .ref s.heap.objs.size, rawInt 0, .none, .none] }) rfl
    rw [hz] at z
    exact z
  exact ⟨⟨_, he, rfl⟩, k _ he (Heap.get?_push_of_some _ (Heap.get?_push_size _ B.free)) fun b o x => Heap.get?_push_of_some _ (Heap.get?_push_of_some _ x)⟩
/-- the tuple at a, each item in a new pair -/
def IteT (K : PySem.W.Frag) (a : Addr) : It :=
  ⟨fun i H => ∃ (xs : List V) (x : V), SqT K H a xs ∧ xs[i]? = some x, fun i H v H' => ∃ T x, v = .ref T ∧ H T = none ∧ H' = upd H T (.tup [.int (i : Nat), x]) ∧ ∀ xs, SqT K H a xs → xs[i]? = some x, fun i H => ∃ xs : List V, SqT K H a xs ∧ xs.length ≤ i⟩
theorem turn_enumT {P : Program} {w : World} {K : PySem.W.Frag} {elts : List Expr} {kk : Nat} {tpos : Pos} (a e it : Addr) (hai : a ≠ it) (hae : a ≠ e) :
    Turn P w K (.Tuple elts kk tpos) (IteT K a) [e, it] e (fun i h => (∃ old, IsEnum h e it ((i : Nat) : Int) old) ∧ h.IsTupleIter it a i ∧ e ≠ it) where
  mem := by simp
  obj := fun i h st b hb => by
    obtain ⟨⟨old, he⟩, ⟨o, ho, hc, hd⟩, _⟩ := st
    have q : b = e ∨ b = it := by simpa using hb
    rcases q with z | z
    · rw [z]; exact ⟨_, he, fun v q => nomatch q⟩
    · rw [z]; exact ⟨o, ho, fun v q => by rw [hd] at q; cases q⟩
  keep := fun i h h' st k => let ⟨⟨old, he⟩, hi, hne⟩ := st; ⟨⟨old, k e (by simp) _ he⟩, hi.at fun o q => k it (by simp) o q, hne⟩
  item := by
    intro X hP hw hK hc i pins s σ H E I hf st hg
    subst hP hw hK
    obtain ⟨⟨old, he⟩, hit, hne⟩ := st
    obtain ⟨xs, x, hq, hx⟩ := hg
    obtain ⟨its, rv, p, hz⟩ := I.tuple hq
    obtain ⟨u, hu, ru⟩ := rv.get hx
    have hel : e < s.heap.objs.size := Heap.lt_size he
    have hil : it < s.heap.objs.size := by obtain ⟨_, q, _⟩ := hit; exact Heap.lt_size q
    have hlen : i < its.toArray.size := by
      have z := (List.getElem?_eq_some_iff.mp hu).1
      simpa using z
    refine wpAny_pyNext_enum_itemC (c := ((i : Nat) : Int)) (Draws.tuple (A := X.A.in1) (I.ok.hd hc) it a hai its.toArray) he ⟨hit, p⟩ hlen hne (by simp; exact ⟨hne, fun z => hae z.symm⟩) fun y h' tk hy ho st' hT hsz hk => ?_
    have ey : y = u := by
      have z : its[i]? = some y := by simpa using hy
      rw [hu] at z
      exact (Option.some.inj z).symm
    subst ey
    refine ⟨_, rfl, wpAny_letOwnedTupleGo_enum (s := { s with heap := h', toks := tk + 1 }) ho fun h'' he' sb => ?_⟩
    have hT2 : h''.get? s.heap.objs.size = some { cls := .type "tuple", data := .seq #[.int i tk, y] } := (sb.2 _ (Nat.ne_of_gt hel)).trans hT
    have new : ObjOk X.prog X.w (upd H s.heap.objs.size (.tup [.int (i : Nat), x])) h'' s.heap.objs.size (.tup [.int (i : Nat), x]) :=
      ⟨by show 2 ≤ sizeLine; decide, [.int i tk, y], .cons ⟨_, rfl⟩ (.cons ru .nil), ⟨_, hT2, rfl, _, rfl⟩⟩
    have I1 : L2.Inv X pins σ (upd H s.heap.objs.size (.tup [.int (i : Nat), x])) { s with heap := h'', toks := tk + 1 } :=
      I.turnedNew (ch := [e, it]) (fun b ob hb q => (sb.2 b (fun z => hb (by simp [z]))).trans (hk b ob (fun z => hb (by simp [z])) (fun z => hb (by simp [z])) q)) hf (Nat.le_refl _) new
    refine ⟨.ref s.heap.objs.size, _, I1, rfl, ⟨_, x, rfl, I.hok.fresh (Nat.le_refl _), rfl, fun ys hy => by rw [I.tuple_inj hy hq]; exact hx⟩, ⟨⟨y, ?_⟩, st'.1.at fun o q => (sb.2 it (Ne.symm hne)).trans q, hne⟩, fun b hb => ?_⟩
    · have e1 : ((i + 1 : Nat) : Int) = (i : Int) + 1 := by omega
      rw [e1]; exact he'
    · have hb2 : b < s.heap.objs.size := by
        have q : b = e ∨ b = it := by simpa using hb
        rcases q with z | z
        · rw [z]; exact hel
        · rw [z]; exact hil
      rw [upd_ne (Nat.ne_of_lt hb2)]
      exact (hf b hb).1
  done := by
    intro X hP hw hK hc i pins s σ H E I hf st hg
    subst hP hw hK
    obtain ⟨⟨old, he⟩, hit, hne⟩ := st
    obtain ⟨xs, hq, hx⟩ := hg
    obtain ⟨its, rv, p, hz⟩ := I.tuple hq
    obtain ⟨f0, f1, f2, f3, f4, f5⟩ := hf it (by simp)
    have hl := rv.length
    have D := Draws.tuple (prog := X.prog) (w := X.w) (A := X.A.in1) (I.ok.hd hc) it a hai its.toArray
    by_cases hi : i = its.toArray.size
    · subst hi
      exact wpAny_pyNext_enum_endD D he ⟨hit, p⟩ fun h' eb => ⟨rfl, I.turned (t' := s.toks) (fun b o hb q => eb b o hb q) f0 f1 f3 f4 f5⟩
    · have D2 : Draws X.prog X.w X.A.in1 it [it, a] i (fun _ _ => False) (fun j h => (j = i ∨ False) ∧ h.IsTupleIter it a i ∧ h.IsTuple a its.toArray) := {
        live := fun _ _ st => let ⟨o, ho, _⟩ := st.2.1; ⟨o, ho⟩
        frame := fun _ _ _ st hk => ⟨st.1, st.2.1.at fun o e => hk it (by simp) o e, st.2.2.at fun o e => hk a (by simp) o e⟩
        item := fun j s Q E hj st hQ => by
          rcases st.1 with z | z
          · omega
          · exact z.elim
        done := fun s Q E st hE => wpAny_nextOf_tuple_end (I.ok.hd hc) st.2.1 st.2.2 (by
          simp only [List.getElem?_toArray]
          exact List.getElem?_eq_none_iff.mpr (by omega)) hE }
      exact wpAny_pyNext_enum_endD D2 he ⟨.inl rfl, hit, p⟩ fun h' eb => ⟨rfl, I.turned (t' := s.toks) (fun b o hb q => eb b o hb q) f0 f1 f3 f4 f5⟩
  self := fun A i s Q E st h => let ⟨⟨_, he⟩, _⟩ := st; wpAny_pyIter_enum he h
def iEnumT (K : PySem.W.Frag) (ta : TA) : TI := fun σ H R => ta σ H fun vs H1 => ∃ a xs, vs = [.ref a] ∧ SqT K H1 a xs ∧ R (IteT K a) H1
theorem pi_enumT {X : Cx} {e : Expr} {ta : TA} {p pos tpos : Pos} {elts : List Expr} {kk : Nat} (hg : Gl X "enumerate") (hm : X.mg "enumerate" = none) (ha : PA X [e] ta) (hs : starEach [e] X.env = [(false, eval e X.env)] := by rfl) :
    PI X (.Tuple elts kk tpos) (.Call (.Name "enumerate" p) [e] [] pos) (iEnumT X.K ta) := by
  refine ⟨fun pins s σ H R I h => ?_⟩
  refine Call_ (ld_blt I hg hm boot_enumerate (PyProof.Rows.callWith_type1 (thn (ha.run pos pins s σ H _ I h) fun us s1 ⟨vs, H1, I1, r1, q1⟩ => ?_) hs rfl))
  obtain ⟨a, xs, ex, hq, q⟩ := q1
  subst ex
  cases r1 with
  | cons r rr =>
    cases rr
    cases r
    obtain ⟨its, rv, p', hz⟩ := I1.tuple hq
    have hal : a < s1.heap.objs.size := by obtain ⟨o, ho, _⟩ := p'; exact Heap.lt_size ho
    refine call_enum1 (begins_tuple a its.toArray) p' fun h' he hit hk => wpAny_pyIter_enum he ?_
    have I2 : L2.Inv X pins σ H1 { s1 with heap := h' } := I1.kept (t' := s1.toks) hk
    refine ⟨s1.heap.objs.size + 1, [s1.heap.objs.size + 1, s1.heap.objs.size], _, _, H1, rfl, I2, turn_enumT a (s1.heap.objs.size + 1) s1.heap.objs.size (Nat.ne_of_lt hal) (Nat.ne_of_lt (Nat.lt_succ_of_lt hal)), ⟨⟨.none, he⟩, ⟨_, hit, rfl, rfl⟩, Nat.succ_ne_self _⟩, fun b hb => ?_, q⟩
    have q' : b = s1.heap.objs.size + 1 ∨ b = s1.heap.objs.size := by simpa using hb
    have hle : s1.heap.objs.size ≤ b := by
      rcases q' with z | z
      · rw [z]; exact Nat.le_add_right _ _
      · rw [z]; exact Nat.le_refl _
    exact I1.fpOk hle (I1.hok.fresh hle)
theorem for_enumT {K : PySem.W.Frag} {a : Addr} {xs : List V} {tb : TS} {D : Ends} {σ : L2.St} {H : Hp} {i j : Nat} (Pv : Nat → L2.St → Hp → Prop) (h0 : Pv 0 σ H) (hl : ∀ k σ H, Pv k σ H → SqT K H a xs)
    (hs : ∀ k x σ H T, xs[k]? = some x → Pv k σ H → H T = none →
      tb { D with nx := Pv (k + 1), ct := Pv (k + 1), bk := D.nx } ((σ.set i (some (.int (k : Nat)))).set j (some x)) (upd H T (.tup [.int (k : Nat), x]))) (hd : ∀ σ H, Pv xs.length σ H → D.nx σ H) :
    ∃ W : Nat → Nat → L2.St → Hp → Prop, (∃ m, W 0 m σ H) ∧ ∀ k m σ H, W k m σ H →
      ((IteT K a).stop k H ∧ D.nx σ H) ∨ ((IteT K a).go k H ∧ ∃ N : L2.St → Hp → Prop, (∀ σ' H', N σ' H' → ∃ m', m' < m ∧ W (k + 1) m' σ' H') ∧ ∀ x H', (IteT K a).yld k H x H' →
        (gTup K 2 (gCons (gName i) (gCons (gName j) gNil))) x σ H' fun σ2 H2 => tb { D with nx := N, ct := N, bk := D.nx } σ2 H2) := by
  refine ⟨fun k m σ H => m = xs.length - k ∧ k ≤ xs.length ∧ Pv k σ H, ⟨xs.length, by simp, Nat.zero_le _, h0⟩, ?_⟩
  rintro k m σ H ⟨rfl, hk, p⟩
  have q := hl _ σ H p
  by_cases hlt : k < xs.length
  · refine .inr ⟨⟨xs, xs[k], q, by simp [hlt]⟩, Pv (k + 1), fun σ' H' p' => ⟨xs.length - (k + 1), by omega, rfl, hlt, p'⟩, fun v H' y => ?_⟩
    obtain ⟨T, x, rfl, nT, rfl, hx⟩ := y
    refine ⟨T, _, rfl, SqT.of upd_same, rfl, _, _, rfl, _, _, rfl, rfl, ?_⟩
    exact hs k x σ H T (hx xs q) p nT
  · have e : k = xs.length := by omega
    subst e
    exact .inl ⟨⟨xs, q, Nat.le_refl _⟩, hd σ H p⟩
end XL
set_option Elab.async false
set_option linter.all false
set_option maxRecDepth 100000
set_option maxHeartbeats 4000000
/-! XDeep: x in t, t.index(x), items data of any depth, t a list or a tuple. -/
namespace XL
open PySem PySem.Spec PyProof.Rows L2
section
variable {X : Cx} (K : PySem.W.Frag)
def rInX (K : PySem.W.Frag) (neg : Bool) : R2 := fun x y H Q => ∃ d ds, Dp K H x d ∧ (Dp K H y (.list ds) ∨ Dp K H y (.tuple ds)) ∧ SeqAt.shaped d = true ∧ PyData.canLayAll0 ds = true ∧ Q (.bl (if neg then !(ds.any fun z => PyData.eqv z d) else ds.any fun z => PyData.eqv z d)) H
theorem in_deepK (hu : X.A.units + 65 < cLine) (h : X.K = K := by rfl) : OpR X (compareOp .In) (rInX K false) := by
  subst h
  intro pins s σ H x y v u Q I rx ry h
  obtain ⟨d, ds, hd, he, sd, se, q⟩ := h
  obtain ⟨as, r1⟩ := Dp.reads I d x v hd rx
  rcases he with he | he
  · obtain ⟨bs, r2⟩ := Dp.reads I (.list ds) y u he ry
    exact SeqAt.in_list_reads r2 r1 se (SeqAt.canLay_of_shaped sd) (room_in_shaped sd hu) ⟨.bl _, H, I, rfl, q⟩
  · obtain ⟨bs, r2⟩ := Dp.reads I (.tuple ds) y u he ry
    exact SeqAt.in_tuple_reads r2 r1 se (SeqAt.canLay_of_shaped sd) (room_in_shaped sd hu) ⟨.bl _, H, I, rfl, q⟩
theorem notin_deepK (hu : X.A.units + 65 < cLine) (h : X.K = K := by rfl) : OpR X (compareOp .NotIn) (rInX K true) := by
  subst h
  intro pins s σ H x y v u Q I rx ry h
  obtain ⟨d, ds, hd, he, sd, se, q⟩ := h
  obtain ⟨as, r1⟩ := Dp.reads I d x v hd rx
  rcases he with he | he
  · obtain ⟨bs, r2⟩ := Dp.reads I (.list ds) y u he ry
    exact SeqAt.notIn_list_reads r2 r1 se (SeqAt.canLay_of_shaped sd) (room_in_shaped sd hu) ⟨.bl _, H, I, rfl, q⟩
  · obtain ⟨bs, r2⟩ := Dp.reads I (.tuple ds) y u he ry
    exact SeqAt.notIn_tuple_reads r2 r1 se (SeqAt.canLay_of_shaped sd) (room_in_shaped sd hu) ⟨.bl _, H, I, rfl, q⟩
/-- t.index(x), t a tuple: the first place of an equal one -/
def rIndexT (K : PySem.W.Frag) : V → List V → Hp → VK → Prop := fun x xs H Q => ∃ (a : Addr) (y : V) (d : PyData) (ds : List PyData) (j : Nat) (z : PyData), x = V.ref a ∧ xs = [y] ∧ Dp K H (V.ref a) (.tuple ds) ∧ Dp K H y d ∧
  PyData.canLayAll0 ds = true ∧ SeqAt.shaped d = true ∧ ds[j]? = some z ∧ PyData.eqv z d = true ∧ (∀ (m : Nat) (z' : PyData), m < j → ds[m]? = some z' → PyData.eqv z' d = false) ∧ Q (.int (j : Nat)) H
theorem mt_tindexK (hu : X.A.units + 65 < cLine) (h : X.K = K := by rfl) : MtR X "tuple.index" (rIndexT K) := by
  subst h
  intro pins s σ H x xs v us Q I rx rxs h
  obtain ⟨a, y, d, ds, j, z, rfl, rfl, hl, hy, hxs, sd, hz, hzj, hno, q⟩ := h
  cases rx
  cases rxs with
  | cons ry rt =>
    rename_i uy ut
    cases rt
    obtain ⟨bs, r1⟩ := Dp.reads I d y uy hy ry
    have hroom : X.A.units + 1 + min (PyData.depthAll ds) d.depth < cLine := room_in_shaped sd hu
    cases hl with
    | tup hs ha =>
      obtain ⟨its, rv, ⟨⟨cls, dd, data, sls⟩, ho, hc, n, hdt⟩, hlen⟩ := I.tuple hs
      simp only at hc hdt
      subst hc hdt
      obtain ⟨as, h4⟩ := Dp.readsAll I ds _ its ha rv
      have hn : its.length = ds.length := SeqAt.ReadsAll.length ds its as h4
      have hmap : its.map (SeqAt.readOf s.heap) = ds := SeqAt.readsAll_map ds its as hxs h4
      have hvl := rv.length
      obtain ⟨hjd, _⟩ := List.getElem?_eq_some_iff.mp hz
      have hjl : j < its.length := by omega
      have hj : j < its.toArray.size := by simpa using hjl
      have at_ : ∀ (m : Nat) (hm : m < its.toArray.size) (z' : PyData), ds[m]? = some z' → SeqAt.readOf s.heap its.toArray[m] = z' := by
        intro m hm z' hz'
        have hml : m < its.length := by simpa using hm
        rw [← hmap, List.getElem?_map, List.getElem?_eq_getElem hml] at hz'
        have e1 : SeqAt.readOf s.heap its[m] = z' := Option.some.inj (show some (SeqAt.readOf s.heap its[m]) = some z' from hz')
        simpa using e1
      refine call_meets PySem.F.slot_tuple_index ⟨_, ho, rfl⟩ PySem.F.entry_tuple_index (PySem.F.args_tuple_index_2 _ _)
        (TI.tuple_indexAt a its.toArray n dd sls uy (fun u => PyData.eqv (SeqAt.readOf s.heap u) d) j hj ?_ ?_) ⟨ho, SeqAt.items_eqAt (vs := its.toArray) (show ReadsAll s.heap its.toArray.toList ds as from h4) r1 hxs (SeqAt.canLay_of_shaped sd) hroom, ?_⟩
      · show PyData.eqv (SeqAt.readOf s.heap its.toArray[j]) d = true
        rw [at_ j hj z hz]
        exact hzj
      · intro m hm hmj
        have hmd : m < ds.length := by omega
        have hz' : ds[m]? = some ds[m] := List.getElem?_eq_getElem hmd
        show PyData.eqv (SeqAt.readOf s.heap its.toArray[m]) d = false
        rw [at_ m hm _ hz']
        exact hno m _ hmj hz'
      · exact ⟨.int (j : Nat), H, I.tok _, ⟨_, rfl⟩, q⟩
end
theorem u65 {k : Nat} {A : Around} (r : Room k A) : A.units + 65 < cLine := by have := r.un; omega
/-- xs[::-1] of a list -/
def tRev (K : PySem.W.Frag) (te : TE) : TE := fun σ H Q => te σ H fun x H1 => ∃ a xs, x = .ref a ∧ SqL K H1 a xs ∧ ∀ p, H1 p = none → Q (.ref p) (upd H1 p (.lst xs.reverse))
theorem pe_rev {X : Cx} {e m : Expr} {te : TE} {p2 pos : Pos} (he : PE X e te) (hm : PE X m (tC (.int (-1)))) : PE X (.Subscript e (.Slice none none (some m) p2) pos) (tRev X.K te) := by
  refine ⟨fun pins s σ H Q I h => ?_⟩
  refine Subscript_ (thn (he.run pins s σ H _ I h) fun v s1 ⟨x, H1, I1, r1, q1⟩ => ?_)
  refine wpAny_Slice (wpAny_evalPart_none (wpAny_evalPart_none (wpAny_evalPart_some (thn (hm.run pins s1 σ H1 (fun y H2 => y = .int (-1) ∧ H2 = H1) I1 ⟨rfl, rfl⟩) fun vm s3 ⟨y, H3, I3, r3, ey, eH⟩ => ?_))))
  subst ey eH
  obtain ⟨t, rfl⟩ := r3
  obtain ⟨a, xs, rfl, hx, q⟩ := q1
  cases r1
  have I4 : L2.Inv X pins σ H3 { s3 with heap := s3.heap.push { cls := .type "slice", data := .fields #[.none, .none, .int (-1) t] } } := I3.kept (t' := s3.toks) fun b ob q => Heap.get?_push_of_some _ q
  obtain ⟨its, r, ht, hz⟩ := I4.list hx
  have hlen := r.length
  show wpAny (model X.prog X.w) X.A (subscriptTail e (.Slice none none (some m) p2) (.ref a) (.ref s3.heap.objs.size)) (EP X pins σ Q) X.xe { s3 with heap := s3.heap.push { cls := .type "slice", data := .fields #[.none, .none, .int (-1) t] } }
  refine tail_any (ops := [.ref a, .ref s3.heap.objs.size]) ht.isList.typeIs slot_list_getitem.lookup ?_ (by with_unfolding_all rfl)
  refine wpAny_getItem_list_slice ht.isList (Heap.IsSliceOf.new ..) .none .none (.int (-1) t) (by decide) ?_ (by rw [List.size_toArray] <;> omega)
  rw [PySem.W.krv_pick]
  refine ⟨.ref _, _, I4.laid (t' := s3.toks) (o := .lst xs.reverse) (fun b ob q => Heap.get?_push_of_some _ q) (Nat.le_refl _) ?_, rfl, q _ (I4.hok.fresh (Nat.le_refl _))⟩
  exact ⟨by rw [List.length_reverse]; exact hz, _, 0, r.reverse, Heap.get?_push_size _ rfl⟩
theorem pe_revK {X : Cx} {e m : Expr} {te : TE} {p2 pos : Pos} (K : PySem.W.Frag) (he : PE X e te) (hm : PE X m (tC (.int (-1)))) (h : X.K = K := by rfl) : PE X (.Subscript e (.Slice none none (some m) p2) pos) (tRev K te) := h ▸ pe_rev he hm
theorem tst {b : Bool} {A B : Prop} (h1 : b = true → A) (h0 : b = false → B) : if b = true then A else B := by
  cases b
  · exact h0 rfl
  · exact h1 rfl
theorem sl_tupAK {X : Cx} (K : PySem.W.Frag) (h : X.K = K := by rfl) : SlR X (rSlA K) := h ▸ sl_tupA
/-! ### tuples whose object has no dict (so that their methods are reached) -/
def TupF (G : Hp) (a : Addr) (xs : List V) : Prop := ∃ o : Obj, o.dict = none ∧ G a = some (.frz o (.tup xs))
def Tu (G : Hp) (a : Addr) (xs : List V) : Prop := G a = some (.tup xs) ∨ TupF G a xs
theorem TupF.same {G G' : Hp} {a : Addr} {xs : List V} (e : Same G G') (h : TupF G a xs) : TupF G' a xs := let ⟨o, h1, h2⟩ := h; ⟨o, h1, e _ _ h2⟩
theorem Tu.same {G G' : Hp} {a : Addr} {xs : List V} (e : Same G G') (h : Tu G a xs) : Tu G' a xs := by
  rcases h with h | h
  · exact .inl (e _ _ h)
  · exact .inr (h.same e)
theorem Tu.sq {K : PySem.W.Frag} {H : Hp} {a : Addr} {xs : List V} (h : Tu H a xs) : SqT K H a xs := by
  rcases h with h | ⟨o, _, h⟩
  · exact .inl (.inl h)
  · exact .inl (.inr ⟨o, h⟩)
theorem Tu.ty {K : PySem.W.Frag} {H : Hp} {a : Addr} {xs : List V} (h : Tu H a xs) : TyX K H (.ref a) (.type "tuple") := by
  rcases h with h | ⟨o, _, h⟩
  · exact .base (.tup h)
  · exact .fTuple h
theorem TupF.tu {G : Hp} {a : Addr} {xs : List V} (h : TupF G a xs) : Tu G a xs := .inr h
section
variable {X : Cx} (K : PySem.W.Frag)
/-- tuple(xs) -/
def yTupF (K : PySem.W.Frag) : List V → Hp → VK → Prop := fun xs H Q => ∃ p ys, xs = [.ref p] ∧ ((SqL K H p ys ∧ ∀ l o, H l = none → o.dict = none → Q (.ref l) (upd H l (.frz o (.tup ys)))) ∨ (SqT K H p ys ∧ Q (.ref p) H))
theorem call_tupleFK (h : X.K = K := by rfl) : CallR X (.type "tuple") (yTupF K) := by
  subst h
  intro pins s σ H xs us Q I r h
  obtain ⟨p, ys, rfl, h⟩ := h
  obtain ⟨u, rfl, rx⟩ := vals1 r
  cases rx
  rcases h with ⟨hq, q⟩ | ⟨hq, q⟩
  · obtain ⟨its, r', pl, hz⟩ := I.list hq
    have hlen := r'.length
    refine call_tuple_list pl.isList (fun h' kp => ?_) (by simp only [List.size_toArray] <;> omega)
    have I1 : L2.Inv X pins σ H { s with heap := h' } := I.kept (t' := s.toks) kp
    have I2 : L2.Inv X pins σ (upd H h'.objs.size (.frz { cls := .type "tuple", data := .seq its.toArray } (.tup ys))) { s with heap := h'.push { cls := .type "tuple", data := .seq its.toArray } } :=
      I1.laid (t' := s.toks) (fun b o e => Heap.get?_push_of_some _ e) (Nat.le_refl _) (show ObjOk X.prog X.w _ _ _ (.frz { cls := .type "tuple", data := .seq its.toArray } (.tup ys)) from ⟨Heap.get?_push_size _ rfl, hz, its, r', IsTup.new _ _⟩)
    exact ⟨.ref h'.objs.size, _, I2, rfl, q _ _ (I1.hok.fresh (Nat.le_refl _)) rfl⟩
  · obtain ⟨its, r', pl, hz⟩ := I.tuple hq
    exact call_tuple_same pl ⟨.ref p, H, I, rfl, q⟩
/-- t.m(e, ..), t a tuple -/
def tTM (r : V → List V → Hp → VK → Prop) (to : TE) (t : TA) : TE := fun σ H Q => to σ H fun x H1 => (∃ a xs, x = .ref a ∧ TupF H1 a xs) ∧ t σ H1 fun vs H2 => r x vs H2 Q
theorem pe_tm {o e : Expr} {es : List Expr} {to : TE} {t : TA} {id : String} {name : Str} {apos cpos : Pos} {r : V → List V → Hp → VK → Prop} (slot : Slot "tuple" name id) (hty : typeOf (.builtin id) = pure (.type "method_descriptor")) (hm : MtR X id r) (ho : PE X o to) (ha : PA X (e :: es) t)
    (hbase : attributeBase o name X.env (eval o X.env) = eval o X.env := by rfl)
    (hfew : ((backTo cpos (starEach (e :: es) X.env)).all (fun x => !x.1) && (backToKw cpos (keywordEach [] X.env)).all (fun x => x.1.isSome)
      && decide ((e :: es).length + ([] : List Keyword).length + (if ([] : List Keyword).isEmpty then 0 else 1) < 30)) = true := by rfl)
    (hline : (apos.endLine == cpos.line) = true := by rfl) (hs : starEach (e :: es) X.env = (false, eval e X.env) :: starEach es X.env := by rfl) (hplain : (backTo cpos (starEach es X.env)).any (·.1) = false := by rfl) :
    PE X (.Call (.Attribute o name apos) (e :: es) [] cpos) (tTM r to t) := by
  refine ⟨fun pins s σ H Q I h => ?_⟩
  refine wpAny_Call_method_late hbase hfew hline rfl (thn (ho.run pins s σ H _ I h) fun v s1 ⟨x, H1, I1, r1, ty, q1⟩ => ?_)
  obtain ⟨a, xs, rfl, ob, hd, ha'⟩ := ty
  cases r1
  obtain ⟨h1, _, _, _, h2⟩ := I1.hok _ _ ha'
  refine ⟨"tuple", id, PySem.F.plainAttrs_tuple, slot, hty, ⟨ob, h1, ?_⟩, fun b e => ?_, ?_⟩
  · obtain ⟨ob', e1, e2, _⟩ := h2
    rw [h1] at e1
    rw [Option.some.inj e1]
    exact e2
  · cases e
    exact ⟨ob, h1, hd⟩
  have hA := ha.run cpos pins s1 σ H1 _ I1 q1
  rw [hs] at hA ⊢
  refine Calls.callWith_builtin (by show (false || (backTo cpos (starEach es X.env)).any (·.1)) = false; rw [hplain] <;> rfl) (Calls.evalArgs_plain ?_)
  exact thn hA fun us s2 ⟨vs, H2, I2, r2, q2⟩ => hm pins s2 σ H2 (V.ref a) vs (.ref a) us Q I2 rfl r2 q2
end
/-- t[lo:hi]: the whole of it is t itself -/
def rSlF (K : PySem.W.Frag) : V → Option Int → Option Int → Hp → VK → Prop := fun x lo hi H Q => ∃ a xs, x = .ref a ∧ SqT K H a xs ∧
  (HT.sIx xs.length 0 lo = 0 ∧ HT.sIx xs.length xs.length hi = xs.length → Q (.ref a) H) ∧ (¬ (HT.sIx xs.length 0 lo = 0 ∧ HT.sIx xs.length xs.length hi = xs.length) → ∀ p ob, H p = none → ob.dict = none → Q (.ref p) (upd H p (.frz ob (.tup (cutV xs lo hi)))))
theorem sl_tupFK {X : Cx} (K : PySem.W.Frag) (h : X.K = K := by rfl) : SlR X (rSlF K) := by
  subst h
  intro pins s σ H x v vl vu lo hi sl Q I rx hs pl pu h
  obtain ⟨a, xs, rfl, hx, q1, q2⟩ := h
  by_cases hw : HT.sIx xs.length 0 lo = 0 ∧ HT.sIx xs.length xs.length hi = xs.length
  · exact sl_tupA pins s σ H _ v vl vu lo hi sl Q I rx hs pl pu ⟨a, xs, rfl, hx, q1, fun z => absurd hw z⟩
  · cases rx
    obtain ⟨its, r, ht, hz⟩ := I.tuple hx
    have hlen : its.toArray.size = xs.length := by rw [List.size_toArray]; exact r.length.symm
    refine ⟨"tuple", _, PyProof.Rows.slot_tuple_getitem.lookup, ht.typeIs, ?_⟩
    refine HT.getItem_tuple_cut ht hs pl pu (by rw [hlen]; exact hw) ?_ (by rw [hlen]; exact hz)
    rw [hlen]
    refine ⟨.ref s.heap.objs.size, _, I.laid (t' := s.toks) (o := .frz { cls := .type "tuple", data := .seq (List.take (HT.sIx xs.length xs.length hi - HT.sIx xs.length 0 lo) (List.drop (HT.sIx xs.length 0 lo) its.toArray.toList)).toArray } (.tup (cutV xs lo hi))) (fun b ob q => Heap.get?_push_of_some _ q) (Nat.le_refl _) ?_, rfl, q2 hw _ _ (I.hok.fresh (Nat.le_refl _)) ?_⟩
    · exact ⟨Heap.get?_push_size _ rfl, Nat.le_trans (cutV_length xs lo hi) hz, _, (r.drop (HT.sIx xs.length 0 lo)).take (HT.sIx xs.length xs.length hi - HT.sIx xs.length 0 lo), IsTup.new _ _⟩
    · rfl
theorem Sep.sub {G H : Hp} {M M' : List (Addr × HO)} (S : Sep G M H) (h : M'.Sublist M) : Sep G M' H := ⟨S.1, fun p hp => S.2.1 p (h.subset hp), List.Nodup.sublist (h.map _) S.2.2⟩
theorem Sep.rot2 {G H : Hp} {a b c d : Addr × HO} {M : List (Addr × HO)} (S : Sep G (a :: b :: c :: d :: M) H) : Sep G (c :: d :: a :: b :: M) H := S.perm (List.perm_append_comm_assoc [a, b] [c, d] M)
theorem Sep.no3 {G H : Hp} {a b c : Addr × HO} {M : List (Addr × HO)} (S : Sep G (a :: b :: c :: M) H) : Sep G (a :: b :: M) H := S.sub ((List.sublist_cons_self c M).cons₂ b |>.cons₂ a)
/-! ### lists of ints, of pairs of ints, as data -/
def prd (p : Int × Int) : PyData := .tuple [.int p.1, .int p.2]
theorem prd_can (p : Int × Int) : (prd p).canLay0 = true := by simp [prd, PyData.canLay0, PyData.canLayAll0]
theorem prd_shaped (p : Int × Int) : SeqAt.shaped (prd p) = true := by
  unfold SeqAt.shaped
  rw [prd_can]
  simp [prd, PyData.depth, PyData.depthAll]
theorem prds_can : ∀ ps : List (Int × Int), PyData.canLayAll0 (ps.map prd) = true
  | [] => by simp [PyData.canLayAll0]
  | p :: r => by simp [PyData.canLayAll0, prd_can p, prds_can r]
theorem ints_can : ∀ ns : List Int, PyData.canLayAll0 (ns.map PyData.int) = true
  | [] => by simp [PyData.canLayAll0]
  | n :: r => by simp [PyData.canLayAll0, PyData.canLay0, ints_can r]
theorem prd_eqv (p q : Int × Int) : PyData.eqv (prd p) (prd q) = decide (p = q) := by
  obtain ⟨a, b⟩ := p
  obtain ⟨c, d⟩ := q
  simp only [prd, PyData.eqv, PyData.eqvAll, Bool.and_true]
  by_cases h1 : a = c <;> by_cases h2 : b = d <;> simp [h1, h2]
theorem int_shaped (n : Int) : SeqAt.shaped (.int n) = true := by simp [SeqAt.shaped, PyData.canLay0, PyData.depth]
theorem ints_dp {K : PySem.W.Frag} {H : Hp} : ∀ ns : List Int, DpAll K H (ns.map V.int) (ns.map PyData.int)
  | [] => .nil
  | n :: r => .cons (.int n) (ints_dp r)
theorem any_ints (n : Int) (ns : List Int) : ((ns.map PyData.int).any fun z => PyData.eqv z (.int n)) = decide (n ∈ ns) := by
  induction ns with
  | nil => rfl
  | cons m r ih =>
    rw [List.map_cons, List.any_cons, ih]
    show ((m == n) || decide (n ∈ r)) = decide (n ∈ m :: r)
    by_cases e : n = m
    · subst e; simp
    · have e2 : ¬ m = n := fun q => e q.symm
      simp [e, e2]
theorem any_prds (p : Int × Int) (ps : List (Int × Int)) : ((ps.map prd).any fun z => PyData.eqv z (prd p)) = decide (p ∈ ps) := by
  induction ps with
  | nil => rfl
  | cons q r ih =>
    rw [List.map_cons, List.any_cons, ih, prd_eqv]
    by_cases e : p = q
    · subst e; simp
    · have e2 : ¬ q = p := fun h => e h.symm
      simp [e, e2]
end XL
set_option Elab.async false
set_option linter.all false
set_option maxRecDepth 100000
set_option maxHeartbeats 4000000
/-! XOwn: o[i], o[i] = v by own methods. -/
namespace XL
open PySem PySem.Spec PyProof.Rows L2
section
variable {X : Cx} {CX : CXT} {C f : Addr} {fd : FuncData} {ps : List Str} {sp : Sp} {E : XK} {n : Nat} {o i : Expr} {to ti : TE} {pos : Pos}
def yIxO (C : Addr) (sp : Sp) (E : XK) : R2 := fun x y H Q => ∃ a dx fs, x = .ref a ∧ H a = some (.ins C dx fs) ∧ sp [.ref a, y] H Q E
theorem pe_ixO (ho : PE X o to) (hi : PE X i ti) (F : FnOk X.prog X.w X.K X.mg X.base CX n f fd ps sp) (hs : PySem.W.findIn X.K (.ref C) "__getitem__" = some (some (.ref f))) (hf : PySem.W.fnIn X.K f = true) (hfn : PySem.W.isFn X.K (.ref f) = true)
    (hb : Binds X.K fd ps []) (hx : Passes CX X E) (hr : Room (n + 1) X.A) (hsl : ∀ x v, subscripted i true (.ref x) v = runValue (.builtin "lifetime.subscript" ⟨[.ref x, v], []⟩) := by intro _ _; with_unfolding_all rfl) :
    PE X (.Subscript o i pos) (tOp (yIxO C sp E) to ti) := by
  refine ⟨fun pins s σ H Q I h => ?_⟩
  refine Subscript_ (thn (ho.run pins s σ H _ I h) fun v s1 ⟨x, H1, I1, r1, q1⟩ => thn (hi.run pins s1 σ H1 _ I1 q1) fun u s2 ⟨y, H2, I2, r2, q2⟩ => ?_)
  obtain ⟨a, dx, fs, rfl, ha, hsp⟩ := q2
  cases r1
  obtain ⟨mA, J, _⟩ := ins_get I2.hok ha
  obtain ⟨od, J, _⟩ := J.look
  obtain ⟨m, hF⟩ := I2.fr
  refine PySem.W.sub_K hF I2.ok.mod.kin J hs hf hfn ?_ (hsl _ _)
  have hl : ([Value.ref a, u] ++ []).length = ps.length := F.len _ _ _ _ hsp
  refine wpAny_call (codeAny_mono (F.run X.A.in1 X.stack s2 H2 ⟨[.ref a, u], []⟩ [.ref a, u] [.ref a, y] Q E hr.in1 I2.env0.in1 (hb s2 [.ref a, u] I2.kIn hl) (.cons rfl (.cons r2 .nil)) hsp) fun r s' hq => ?_)
  cases r with
  | error e => exact hx pins σ H2 s2 e s' I2 hq
  | ok fl =>
    cases fl with
    | ret u => exact I2.after hq
    | next => exact False.elim hq
    | brk => exact False.elim hq
    | cont => exact False.elim hq
def yStO (C : Addr) (sp : Sp) (E : XK) : TSet := fun x y v H Q => ∃ a dx fs, x = .ref a ∧ H a = some (.ins C dx fs) ∧ sp [.ref a, y, v] H (fun _ H' => Q H') E
theorem set_own (F : FnOk X.prog X.w X.K X.mg X.base CX n f fd ps sp) (hq : PySem.W.noSeq X.K C = true) (hs : PySem.W.findIn X.K (.ref C) "__setitem__" = some (some (.ref f))) (hfn : PySem.W.isFn X.K (.ref f) = true)
    (hb : Binds X.K fd ps []) (hx : Passes CX X E) (hr : Room n X.A) : PSet X (yStO C sp E) := by
  intro pins s σ H x y v xv yv vv Q I rx ry rv h
  obtain ⟨a, dx, fs, rfl, ha, hsp⟩ := h
  cases rx
  obtain ⟨mA, J, _⟩ := ins_get I.hok ha
  obtain ⟨od, J, _⟩ := J.look
  obtain ⟨m, hF⟩ := I.fr
  refine PySem.W.ksp_setItem hF I.ok.mod.kin J hq hs hfn ?_
  refine wpAny_mono (run_fn (us := [.ref a, yv, vv]) (vs := [.ref a, y, v]) (dvs := []) F hr hb .nil hx I (.cons rfl (.cons ry (.cons rv .nil))) hsp) (fun r s' q => ?_) fun _ _ e => e
  obtain ⟨z, H', I', rz, q⟩ := q
  exact ⟨H', I', q⟩
end
end XL
set_option Elab.async false
set_option linter.all false
set_option maxRecDepth 100000
set_option maxHeartbeats 4000000
/-! XTup: tuples made by a display or by +, as objects without a dict. -/
namespace XL
open PySem PySem.Spec PyProof.Rows L2
section
variable {X : Cx} {es : List Expr} {t : TA} {pos : Pos}
def tTupF (t : TA) : TE := fun σ H Q => t σ H fun xs H1 => xs.length ≤ sizeLine ∧ ∀ p ob, H1 p = none → ob.dict = none → Q (.ref p) (upd H1 p (.frz ob (.tup xs)))
theorem pe_tupF {x1} (h : PA X es t) : PE X (.Tuple es x1 pos) (tTupF t) := by
  refine ⟨fun pins s σ H Q I hq => ?_⟩
  refine wpAny_Tuple_spliced (thn (h.run pos pins s σ H _ I hq) fun us s1 ⟨xs, H1, I1, r, z, q⟩ => ⟨by rw [← r.length]; exact z, ?_⟩)
  have hf : H1 s1.heap.objs.size = none := I1.hok.fresh (Nat.le_refl _)
  refine ⟨.ref s1.heap.objs.size, _, I1.laid (t' := s1.toks) (o := .frz { cls := .type "tuple", data := .seq us.toArray } (.tup xs)) (fun b u e => Heap.get?_push_of_some _ e) (Nat.le_refl _) ?_, rfl, q _ _ hf rfl⟩
  exact ⟨Heap.get?_push_size _ rfl, z, us, r, ⟨_, Heap.get?_push_size _ rfl, rfl, _, rfl⟩⟩
def rCatF (K : PySem.W.Frag) : R2 := fun x y H Q => ∃ a b xs ys, x = .ref a ∧ y = .ref b ∧ SqT K H a xs ∧ SqT K H b ys ∧ xs.length + ys.length ≤ sizeLine ∧
  (xs = [] → Q (.ref b) H) ∧ (xs ≠ [] → ys = [] → Q (.ref a) H) ∧ (xs ≠ [] → ys ≠ [] → ∀ p ob, H p = none → ob.dict = none → Q (.ref p) (upd H p (.frz ob (.tup (xs ++ ys)))))
theorem op_catFK (K : PySem.W.Frag) (h : X.K = K := by rfl) : OpR X (binaryOp .Add) (rCatF K) := by
  subst h
  intro pins s σ H x y v u Q I rx ry h
  obtain ⟨a, b, xs, ys, rfl, rfl, ha, hb, hz, q0, q1, q2⟩ := h
  by_cases hx : xs = []
  · exact op_catA pins s σ H _ _ v u Q I rx ry ⟨a, b, xs, ys, rfl, rfl, ha, hb, hz, q0, fun z => absurd hx z, fun z => absurd hx z⟩
  · cases rx
    cases ry
    obtain ⟨its, r1, p1, _⟩ := I.tuple ha
    obtain ⟨its2, r2, p2, _⟩ := I.tuple hb
    refine HT.cat_tup p1 p2 (fun z => hx (r1.nil_iff.mp z)) (fun z => ⟨.ref a, H, I, rfl, q1 hx (r2.nil_iff.mp z)⟩) (fun z => ?_) (by rw [← r1.length, ← r2.length]; exact hz)
    refine ⟨.ref s.heap.objs.size, _, I.laid (t' := s.toks) (o := .frz { cls := .type "tuple", data := .seq (its ++ its2).toArray } (.tup (xs ++ ys))) (fun b ob q => Heap.get?_push_of_some _ q) (Nat.le_refl _) ?_, rfl, q2 hx (fun w => z (r2.nil_iff.mpr w)) _ _ (I.hok.fresh (Nat.le_refl _)) rfl⟩
    exact ⟨Heap.get?_push_size _ rfl, by rw [List.length_append]; exact hz, _, r1.append r2, IsTup.new _ _⟩
end
section
variable {K : PySem.W.Frag} {a : Addr} {xs : List V} {Qd : Hp → Prop} {B : V → Hp → (Hp → Prop) → Prop} {H0 : Hp}
/-- a clause of a comprehension over a list -/
theorem loopL (Pv : Nat → Hp → Prop) (h0 : Pv 0 H0) (hl : ∀ k H, Pv k H → SqL K H a xs) (hs : ∀ k x H, xs[k]? = some x → Pv k H → B x H (Pv (k + 1))) (hd : ∀ H, Pv xs.length H → Qd H) :
    ∃ W : Nat → Nat → Hp → Prop, (∃ m, W 0 m H0) ∧ ∀ i m H, W i m H → ((Itl K a).stop i H ∧ Qd H) ∨ ((Itl K a).go i H ∧ ∃ Nx : Hp → Prop, (∀ H', Nx H' → ∃ m', m' < m ∧ W (i + 1) m' H') ∧ ∀ x H', (Itl K a).yld i H x H' → B x H' Nx) := by
  refine ⟨fun i m H => m = xs.length - i ∧ i ≤ xs.length ∧ Pv i H, ⟨xs.length, by simp, Nat.zero_le _, h0⟩, ?_⟩
  rintro i m H ⟨rfl, hi, p⟩
  have q := hl i H p
  by_cases hlt : i < xs.length
  · refine .inr ⟨⟨xs, xs[i], q, by simp [hlt]⟩, Pv (i + 1), fun H' p' => ⟨xs.length - (i + 1), by omega, rfl, hlt, p'⟩, fun x H' y => ?_⟩
    obtain ⟨e, y⟩ := y
    subst e
    exact hs i x _ (y xs q) p
  · have e : i = xs.length := by omega
    subst e
    exact .inl ⟨⟨xs, q, Nat.le_refl _⟩, hd H p⟩
/-- a clause of a comprehension over a range -/
theorem loopR {lo : Int} {n : Nat} (Pv : Nat → Hp → Prop) (h0 : Pv 0 H0) (hs : ∀ k H, k < n → Pv k H → B (.int (lo + k)) H (Pv (k + 1))) (hd : ∀ H, Pv n H → Qd H) :
    ∃ W : Nat → Nat → Hp → Prop, (∃ m, W 0 m H0) ∧ ∀ i m H, W i m H → ((Itr lo n).stop i H ∧ Qd H) ∨ ((Itr lo n).go i H ∧ ∃ Nx : Hp → Prop, (∀ H', Nx H' → ∃ m', m' < m ∧ W (i + 1) m' H') ∧ ∀ x H', (Itr lo n).yld i H x H' → B x H' Nx) := by
  refine ⟨fun i m H => m = n - i ∧ i ≤ n ∧ Pv i H, ⟨n, by simp, Nat.zero_le _, h0⟩, ?_⟩
  rintro i m H ⟨rfl, hi, p⟩
  by_cases hlt : i < n
  · refine .inr ⟨hlt, Pv (i + 1), fun H' p' => ⟨n - (i + 1), by omega, rfl, hlt, p'⟩, fun x H' y => ?_⟩
    obtain ⟨e, y⟩ := y
    subst e y
    exact hs i _ hlt p
  · have e : i = n := by omega
    subst e
    exact .inl ⟨Nat.le_refl _, hd H p⟩
/-- row + (item,) -/
theorem cat_one {G H : Hp} {M : List (Addr × HO)} {r : Addr} {n : List Int} {i : Int} {Q : VK} (S : Sep G M H) (hr : TupF G r (n.map V.int)) (hl : n.length ≤ 1000)
    (q : ∀ (p : Addr) (G' H' : Hp), Same G G' → Sep G' M H' → TupF G' p ((n ++ [i]).map V.int) → Q (.ref p) H') :
    [V.int i].length ≤ sizeLine ∧ ∀ p ob, H p = none → ob.dict = none → rCatF K (.ref r) (.ref p) (upd H p (.frz ob (.tup [.int i]))) Q := by
  refine ⟨sz, fun p ob np hob => ?_⟩
  have S1 := S.newG (o := .frz ob (.tup [.int i])) np
  have s1 := S.grow (o := .frz ob (.tup [.int i])) np
  have h1 : TupF (upd G p (.frz ob (.tup [.int i]))) p [.int i] := ⟨ob, hob, upd_same⟩
  refine ⟨r, p, n.map V.int, [.int i], rfl, rfl, ((hr.same s1).same S1.1).tu.sq, (h1.same S1.1).tu.sq, small (by rw [List.length_map]; simp; omega), fun e => ?_, fun _ e => (nomatch e), fun _ _ p2 ob2 np2 hob2 => ?_⟩
  · have e2 : n = [] := List.map_eq_nil_iff.mp e
    subst e2
    exact q p _ _ s1 S1 h1
  · have e3 : n.map V.int ++ [V.int i] = (n ++ [i]).map V.int := by rw [List.map_append]; rfl
    rw [e3]
    exact q p2 _ _ (s1.trans (S1.grow np2)) (S1.newG np2) ⟨ob2, hob2, upd_same⟩
end
end XL
set_option Elab.async false
set_option linter.all false
set_option maxRecDepth 100000
set_option maxHeartbeats 4000000
namespace K28
open PySem PySem.Spec PyProof.Rows L2 XL
def topS (i : Nat) : Stmt := PySem.Challenge.pw_drawnanew_k28_whole_least_pair.main.body.getD i (.Pass ⟨0, 0, 0, 0⟩)
abbrev s_is_name : Stmt := topS 8
theorem sc_is_name : FnScope ["thing", "sign"] ["thing"] (defScope s_is_name) := ⟨rfl, rfl, rfl, by decide +kernel, rfl, by decide +kernel, by decide +kernel⟩
abbrev s_is_number : Stmt := topS 9
theorem sc_is_number : FnScope ["thing", "low", "high"] ["thing", "low", "high"] (defScope s_is_number) := ⟨rfl, rfl, rfl, by decide +kernel, rfl, by decide +kernel, by decide +kernel⟩
abbrev s_is_part : Stmt := topS 13
theorem sc_is_part : FnScope ["part"] ["part"] (defScope s_is_part) := ⟨rfl, rfl, rfl, by decide +kernel, rfl, by decide +kernel, by decide +kernel⟩
abbrev s_check_form : Stmt := topS 14
theorem sc_check_form : FnScope ["parts", "waiting", "deepest", "part", "level", "at"] ["parts"] (defScope s_check_form) := ⟨rfl, rfl, rfl, by decide +kernel, rfl, by decide +kernel, by decide +kernel⟩
abbrev s_value_of : Stmt := topS 15
theorem sc_value_of : FnScope ["parts", "values", "first", "second"] ["parts", "values"] (defScope s_value_of) := ⟨rfl, rfl, rfl, by decide +kernel, rfl, by decide +kernel, by decide +kernel⟩
abbrev s_names_of : Stmt := topS 16
theorem sc_names_of : FnScope ["parts", "found", "piece", "told"] ["parts"] (defScope s_names_of) := ⟨rfl, rfl, rfl, by decide +kernel, rfl, by decide +kernel, by decide +kernel⟩
abbrev s_check_row : Stmt := topS 19
theorem sc_check_row : FnScope ["row", "seen", "item"] ["row"] (defScope s_check_row) := ⟨rfl, rfl, rfl, by decide +kernel, rfl, by decide +kernel, by decide +kernel⟩
abbrev s_idents_of : Stmt := topS 20
theorem sc_idents_of : FnScope ["parts", "row", "values", "idents", "place", "value"] ["parts", "row"] (defScope s_idents_of) := ⟨rfl, rfl, rfl, by decide +kernel, rfl, by decide +kernel, by decide +kernel⟩
abbrev s_at_most : Stmt := topS 21
theorem sc_at_most : FnScope ["first", "second", "found", "item", "place", "value", "mine"] ["first", "second"] (defScope s_at_most) := ⟨rfl, rfl, rfl, by decide +kernel, rfl, by decide +kernel, by decide +kernel⟩
abbrev s_Key_init : Stmt := inClass (topS 22) 0
theorem sc_Key_init : FnScope ["self", "form", "name"] ["self", "form"] (defScope s_Key_init) := ⟨rfl, rfl, rfl, by decide +kernel, rfl, by decide +kernel, by decide +kernel⟩
abbrev s_Key_parts : Stmt := inClass (topS 22) 1
theorem sc_Key_parts : FnScope ["self"] ["self"] (defScope s_Key_parts) := ⟨rfl, rfl, rfl, by decide +kernel, rfl, by decide +kernel, by decide +kernel⟩
abbrev s_Key_call : Stmt := inClass (topS 22) 2
theorem sc_Key_call : FnScope ["self", "item", "at"] ["self", "item", "at"] (defScope s_Key_call) := ⟨rfl, rfl, rfl, by decide +kernel, rfl, by decide +kernel, by decide +kernel⟩
abbrev s_Key_le : Stmt := inClass (topS 22) 3
theorem sc_Key_le : FnScope ["self", "other"] ["self", "other"] (defScope s_Key_le) := ⟨rfl, rfl, rfl, by decide +kernel, rfl, by decide +kernel, by decide +kernel⟩
abbrev s_Key_idents : Stmt := inClass (topS 22) 4
theorem sc_Key_idents : FnScope ["self", "row"] ["self", "row"] (defScope s_Key_idents) := ⟨rfl, rfl, rfl, by decide +kernel, rfl, by decide +kernel, by decide +kernel⟩
abbrev s_goes_wrong : Stmt := topS 23
theorem sc_goes_wrong : FnScope ["old", "before", "new", "behind", "place"] ["old", "before", "new", "behind"] (defScope s_goes_wrong) := ⟨rfl, rfl, rfl, by decide +kernel, rfl, by decide +kernel, by decide +kernel⟩
abbrev s_first_going_wrong : Stmt := topS 24
theorem sc_first_going_wrong : FnScope ["olds", "news", "old", "before", "new", "behind"] ["olds", "news"] (defScope s_first_going_wrong) := ⟨rfl, rfl, rfl, by decide +kernel, rfl, by decide +kernel, by decide +kernel⟩
abbrev s_faithful : Stmt := topS 25
theorem sc_faithful : FnScope ["key", "menu", "listed", "row"] ["key", "menu"] (defScope s_faithful) := ⟨rfl, rfl, rfl, by decide +kernel, rfl, by decide +kernel, by decide +kernel⟩
abbrev s_rows_of : Stmt := topS 26
theorem sc_rows_of : FnScope ["size", "length", "rows", "count", "row", "item"] ["size", "length"] (defScope s_rows_of) := ⟨rfl, rfl, rfl, by decide +kernel, rfl, by decide +kernel, by decide +kernel⟩
abbrev s_least_pair : Stmt := topS 27
theorem sc_least_pair : FnScope ["key", "size", "places", "listed", "length", "total", "pair", "row"] ["key", "size", "places"] (defScope s_least_pair) := ⟨rfl, rfl, rfl, by decide +kernel, rfl, by decide +kernel, by decide +kernel⟩
abbrev s_Known_init : Stmt := inClass (topS 29) 0
theorem sc_Known_init : FnScope ["self", "key", "row", "ident"] ["self", "key", "row"] (defScope s_Known_init) := ⟨rfl, rfl, rfl, by decide +kernel, rfl, by decide +kernel, by decide +kernel⟩
abbrev s_Known_getitem : Stmt := inClass (topS 29) 2
theorem sc_Known_getitem : FnScope ["self", "item"] ["self", "item"] (defScope s_Known_getitem) := ⟨rfl, rfl, rfl, by decide +kernel, rfl, by decide +kernel, by decide +kernel⟩
abbrev s_Known_setitem : Stmt := inClass (topS 29) 3
theorem sc_Known_setitem : FnScope ["self", "item", "number"] ["self", "item", "number"] (defScope s_Known_setitem) := ⟨rfl, rfl, rfl, by decide +kernel, rfl, by decide +kernel, by decide +kernel⟩
abbrev s_Known_show : Stmt := inClass (topS 29) 4
theorem sc_Known_show : FnScope ["self", "row", "idents", "numbers", "ident"] ["self", "row"] (defScope s_Known_show) := ⟨rfl, rfl, rfl, by decide +kernel, rfl, by decide +kernel, by decide +kernel⟩
abbrev s_Things_init : Stmt := inClass (topS 30) 0
theorem sc_Things_init : FnScope ["self", "row", "item"] ["self", "row"] (defScope s_Things_init) := ⟨rfl, rfl, rfl, by decide +kernel, rfl, by decide +kernel, by decide +kernel⟩
abbrev s_Things_getitem : Stmt := inClass (topS 30) 2
theorem sc_Things_getitem : FnScope ["self", "item"] ["self", "item"] (defScope s_Things_getitem) := ⟨rfl, rfl, rfl, by decide +kernel, rfl, by decide +kernel, by decide +kernel⟩
abbrev s_Things_setitem : Stmt := inClass (topS 30) 3
theorem sc_Things_setitem : FnScope ["self", "item", "number"] ["self", "item", "number"] (defScope s_Things_setitem) := ⟨rfl, rfl, rfl, by decide +kernel, rfl, by decide +kernel, by decide +kernel⟩
abbrev s_Things_show : Stmt := inClass (topS 30) 4
theorem sc_Things_show : FnScope ["self", "row", "numbers", "item"] ["self", "row"] (defScope s_Things_show) := ⟨rfl, rfl, rfl, by decide +kernel, rfl, by decide +kernel, by decide +kernel⟩
abbrev s_is_parting : Stmt := topS 31
theorem sc_is_parting : FnScope ["key", "old", "item", "new", "known", "things", "one"] ["key", "old", "item", "new"] (defScope s_is_parting) := ⟨rfl, rfl, rfl, by decide +kernel, rfl, by decide +kernel, by decide +kernel⟩
abbrev s_least_parting : Stmt := topS 32
theorem sc_least_parting : FnScope ["key", "menu", "old", "new", "item"] ["key", "menu"] (defScope s_least_parting) := ⟨rfl, rfl, rfl, by decide +kernel, rfl, by decide +kernel, by decide +kernel⟩
abbrev s_mixed : Stmt := topS 34
theorem sc_mixed : FnScope ["_law_number_here", "_law_turn", "_law_first", "_law_second"] ["_law_number_here", "_law_turn"] (defScope s_mixed) := ⟨rfl, rfl, rfl, by decide +kernel, rfl, by decide +kernel, by decide +kernel⟩
abbrev s_bag : Stmt := topS 35
theorem sc_bag : FnScope ["_law_script", "_law_cell", "_law_numbers", "_law_seed", "_law_at"] ["_law_script"] (defScope s_bag) := ⟨rfl, rfl, rfl, by decide +kernel, rfl, by decide +kernel, by decide +kernel⟩
abbrev s_pick : Stmt := topS 36
theorem sc_pick : FnScope ["_law_bag_here", "_law_many", "_law_turn", "_law_cell", "_law_worth"] ["_law_bag_here", "_law_many"] (defScope s_pick) := ⟨rfl, rfl, rfl, by decide +kernel, rfl, by decide +kernel, by decide +kernel⟩
abbrev s_choice : Stmt := topS 37
theorem sc_choice : FnScope ["_law_bag_here", "_law_things"] ["_law_bag_here", "_law_things"] (defScope s_choice) := ⟨rfl, rfl, rfl, by decide +kernel, rfl, by decide +kernel, by decide +kernel⟩
abbrev s_number : Stmt := topS 38
theorem sc_number : FnScope ["_law_thing"] ["_law_thing"] (defScope s_number) := ⟨rfl, rfl, rfl, by decide +kernel, rfl, by decide +kernel, by decide +kernel⟩
abbrev s_form : Stmt := topS 39
theorem sc_form : FnScope ["_law_bag_here", "_law_readable", "_law_levels", "_law_way", "_law_first", "_law_second"] ["_law_bag_here", "_law_readable", "_law_levels"] (defScope s_form) := ⟨rfl, rfl, rfl, by decide +kernel, rfl, by decide +kernel, by decide +kernel⟩
abbrev s_value : Stmt := topS 40
theorem sc_value : FnScope ["_law_form_here", "_law_worths", "_law_word", "_law_first", "_law_second"] ["_law_form_here", "_law_worths"] (defScope s_value) := ⟨rfl, rfl, rfl, by decide +kernel, rfl, by decide +kernel, by decide +kernel⟩
abbrev s_idents : Stmt := topS 41
theorem sc_idents : FnScope ["_law_key", "_law_row", "_law_out", "_law_at", "_law_item", "_law_worth", "_law_told"] ["_law_key", "_law_row"] (defScope s_idents) := ⟨rfl, rfl, rfl, by decide +kernel, rfl, by decide +kernel, by decide +kernel⟩
abbrev s_any_key : Stmt := topS 42
theorem sc_any_key : FnScope ["_law_bag_here", "_law_way", "_law_worth", "_law_spot", "_law_item"] ["_law_bag_here"] (defScope s_any_key) := ⟨rfl, rfl, rfl, by decide +kernel, rfl, by decide +kernel, by decide +kernel⟩
abbrev s_told_items : Stmt := topS 43
theorem sc_told_items : FnScope ["_law_told", "_law_due", "_law_at"] ["_law_told", "_law_due"] (defScope s_told_items) := ⟨rfl, rfl, rfl, by decide +kernel, rfl, by decide +kernel, by decide +kernel⟩
abbrev s_all_rows : Stmt := topS 44
theorem sc_all_rows : FnScope ["_law_size", "_law_places", "_law_lists", "_law_length", "_law_longer", "_law_row", "_law_item"] ["_law_size", "_law_places"] (defScope s_all_rows) := ⟨rfl, rfl, rfl, by decide +kernel, rfl, by decide +kernel, by decide +kernel⟩
abbrev s_unlike_rows : Stmt := topS 45
theorem sc_unlike_rows : FnScope ["_law_old", "_law_before", "_law_new", "_law_behind", "_law_one", "_law_two"] ["_law_old", "_law_before", "_law_new", "_law_behind"] (defScope s_unlike_rows) := ⟨rfl, rfl, rfl, by decide +kernel, rfl, by decide +kernel, by decide +kernel⟩
abbrev s_first_of : Stmt := topS 46
theorem sc_first_of : FnScope ["_law_form_here", "_law_olds", "_law_news", "_law_marks", "_law_old", "_law_before", "_law_at", "_law_row"] ["_law_form_here", "_law_olds", "_law_news"] (defScope s_first_of) := ⟨rfl, rfl, rfl, by decide +kernel, rfl, by decide +kernel, by decide +kernel⟩
abbrev s_least : Stmt := topS 47
theorem sc_least : FnScope ["_law_form_here", "_law_size", "_law_places", "_law_lists", "_law_total", "_law_length", "_law_found"] ["_law_form_here", "_law_size", "_law_places"] (defScope s_least) := ⟨rfl, rfl, rfl, by decide +kernel, rfl, by decide +kernel, by decide +kernel⟩
abbrev s_plain : Stmt := topS 48
theorem sc_plain : FnScope ["_law_form_here", "_law_size", "_law_places", "_law_most", "_law_values", "_law_item", "_law_first", "_law_at"] ["_law_form_here", "_law_size", "_law_places"] (defScope s_plain) := ⟨rfl, rfl, rfl, by decide +kernel, rfl, by decide +kernel, by decide +kernel⟩
abbrev s_right : Stmt := topS 49
theorem sc_right : FnScope ["_law_key", "_law_form_here", "_law_size", "_law_places", "_law_menu", "_law_due", "_law_told", "_law_shown"] ["_law_key", "_law_form_here", "_law_size", "_law_places", "_law_menu"] (defScope s_right) := ⟨rfl, rfl, rfl, by decide +kernel, rfl, by decide +kernel, by decide +kernel⟩
abbrev s_menu_of : Stmt := topS 50
theorem sc_menu_of : FnScope ["_law_bag_here", "_law_size", "_law_places", "_law_rows", "_law_length", "_law_step"] ["_law_bag_here", "_law_size", "_law_places"] (defScope s_menu_of) := ⟨rfl, rfl, rfl, by decide +kernel, rfl, by decide +kernel, by decide +kernel⟩
abbrev s_law : Stmt := topS 51
theorem sc_law : FnScope ["_law_script", "_law_bag_here", "_law_forms", "_law_both", "_law_size", "_law_places", "_law_menu", "_law_less", "_law_fewer", "_law_other", "_law_form_here"] ["_law_script"] (defScope s_law) := ⟨rfl, rfl, rfl, by decide +kernel, rfl, by decide +kernel, by decide +kernel⟩
/-- what the top leaves -/
structure Top (K : PySem.W.Frag) (mg : Str → Option Value) (W : World) where
  m_NotImplemented : mg "NotImplemented" = none
  m_abs : mg "abs" = none
  m_all : mg "all" = none
  m_bool : mg "bool" = none
  m_enumerate : mg "enumerate" = none
  m_int : mg "int" = none
  m_isinstance : mg "isinstance" = none
  m_len : mg "len" = none
  m_range : mg "range" = none
  m_str : mg "str" = none
  m_tuple : mg "tuple" = none
  v_LETTERS : ∃ t, mg "LETTERS" = some (.str "abcdefghijklmnopqrstuvwxyz" t)
  v_MOST_LEVELS : ∃ t, mg "MOST_LEVELS" = some (.int 5 t)
  v_MOST_ITEMS : ∃ t, mg "MOST_ITEMS" = some (.int 5 t)
  a_is_name : Addr
  d_is_name : FuncData
  F_is_name : Fun K "is_name" "is_name" s_is_name a_is_name d_is_name
  b_is_name : Binds K d_is_name ["thing"] []
  g_is_name : mg "is_name" = some (.ref a_is_name)
  a_is_number : Addr
  d_is_number : FuncData
  F_is_number : Fun K "is_number" "is_number" s_is_number a_is_number d_is_number
  b_is_number : Binds K d_is_number ["thing", "low", "high"] []
  g_is_number : mg "is_number" = some (.ref a_is_number)
  a_is_part : Addr
  d_is_part : FuncData
  F_is_part : Fun K "is_part" "is_part" s_is_part a_is_part d_is_part
  b_is_part : Binds K d_is_part ["part"] []
  g_is_part : mg "is_part" = some (.ref a_is_part)
  a_check_form : Addr
  d_check_form : FuncData
  F_check_form : Fun K "check_form" "check_form" s_check_form a_check_form d_check_form
  b_check_form : Binds K d_check_form ["parts"] []
  g_check_form : mg "check_form" = some (.ref a_check_form)
  a_value_of : Addr
  d_value_of : FuncData
  F_value_of : Fun K "value_of" "value_of" s_value_of a_value_of d_value_of
  b_value_of : Binds K d_value_of ["parts", "values"] []
  g_value_of : mg "value_of" = some (.ref a_value_of)
  a_names_of : Addr
  d_names_of : FuncData
  F_names_of : Fun K "names_of" "names_of" s_names_of a_names_of d_names_of
  b_names_of : Binds K d_names_of ["parts"] []
  g_names_of : mg "names_of" = some (.ref a_names_of)
  a_check_row : Addr
  d_check_row : FuncData
  F_check_row : Fun K "check_row" "check_row" s_check_row a_check_row d_check_row
  b_check_row : Binds K d_check_row ["row"] []
  g_check_row : mg "check_row" = some (.ref a_check_row)
  a_idents_of : Addr
  d_idents_of : FuncData
  F_idents_of : Fun K "idents_of" "idents_of" s_idents_of a_idents_of d_idents_of
  b_idents_of : Binds K d_idents_of ["parts", "row"] []
  g_idents_of : mg "idents_of" = some (.ref a_idents_of)
  a_at_most : Addr
  d_at_most : FuncData
  F_at_most : Fun K "at_most" "at_most" s_at_most a_at_most d_at_most
  b_at_most : Binds K d_at_most ["first", "second"] []
  g_at_most : mg "at_most" = some (.ref a_at_most)
  a_Key_init : Addr
  d_Key_init : FuncData
  F_Key_init : Fun K "__init__" "Key.__init__" s_Key_init a_Key_init d_Key_init
  b_Key_init : Binds K d_Key_init ["self", "form"] []
  a_Key_parts : Addr
  d_Key_parts : FuncData
  F_Key_parts : Fun K "parts" "Key.parts" s_Key_parts a_Key_parts d_Key_parts
  b_Key_parts : Binds K d_Key_parts ["self"] []
  a_Key_call : Addr
  d_Key_call : FuncData
  F_Key_call : Fun K "__call__" "Key.__call__" s_Key_call a_Key_call d_Key_call
  b_Key_call : Binds K d_Key_call ["self", "item", "at"] []
  a_Key_le : Addr
  d_Key_le : FuncData
  F_Key_le : Fun K "__le__" "Key.__le__" s_Key_le a_Key_le d_Key_le
  b_Key_le : Binds K d_Key_le ["self", "other"] []
  a_Key_idents : Addr
  d_Key_idents : FuncData
  F_Key_idents : Fun K "idents" "Key.idents" s_Key_idents a_Key_idents d_Key_idents
  b_Key_idents : Binds K d_Key_idents ["self", "row"] []
  a_goes_wrong : Addr
  d_goes_wrong : FuncData
  F_goes_wrong : Fun K "goes_wrong" "goes_wrong" s_goes_wrong a_goes_wrong d_goes_wrong
  b_goes_wrong : Binds K d_goes_wrong ["old", "before", "new", "behind"] []
  g_goes_wrong : mg "goes_wrong" = some (.ref a_goes_wrong)
  a_first_going_wrong : Addr
  d_first_going_wrong : FuncData
  F_first_going_wrong : Fun K "first_going_wrong" "first_going_wrong" s_first_going_wrong a_first_going_wrong d_first_going_wrong
  b_first_going_wrong : Binds K d_first_going_wrong ["olds", "news"] []
  g_first_going_wrong : mg "first_going_wrong" = some (.ref a_first_going_wrong)
  a_faithful : Addr
  d_faithful : FuncData
  F_faithful : Fun K "faithful" "faithful" s_faithful a_faithful d_faithful
  b_faithful : Binds K d_faithful ["key", "menu"] []
  g_faithful : mg "faithful" = some (.ref a_faithful)
  a_rows_of : Addr
  d_rows_of : FuncData
  F_rows_of : Fun K "rows_of" "rows_of" s_rows_of a_rows_of d_rows_of
  b_rows_of : Binds K d_rows_of ["size", "length"] []
  g_rows_of : mg "rows_of" = some (.ref a_rows_of)
  a_least_pair : Addr
  d_least_pair : FuncData
  F_least_pair : Fun K "least_pair" "least_pair" s_least_pair a_least_pair d_least_pair
  b_least_pair : Binds K d_least_pair ["key", "size", "places"] []
  g_least_pair : mg "least_pair" = some (.ref a_least_pair)
  a_Known_init : Addr
  d_Known_init : FuncData
  F_Known_init : Fun K "__init__" "Known.__init__" s_Known_init a_Known_init d_Known_init
  b_Known_init : Binds K d_Known_init ["self", "key", "row"] []
  a_Known_getitem : Addr
  d_Known_getitem : FuncData
  F_Known_getitem : Fun K "__getitem__" "Known.__getitem__" s_Known_getitem a_Known_getitem d_Known_getitem
  b_Known_getitem : Binds K d_Known_getitem ["self", "item"] []
  a_Known_setitem : Addr
  d_Known_setitem : FuncData
  F_Known_setitem : Fun K "__setitem__" "Known.__setitem__" s_Known_setitem a_Known_setitem d_Known_setitem
  b_Known_setitem : Binds K d_Known_setitem ["self", "item", "number"] []
  a_Known_show : Addr
  d_Known_show : FuncData
  F_Known_show : Fun K "show" "Known.show" s_Known_show a_Known_show d_Known_show
  b_Known_show : Binds K d_Known_show ["self", "row"] []
  a_Things_init : Addr
  d_Things_init : FuncData
  F_Things_init : Fun K "__init__" "Things.__init__" s_Things_init a_Things_init d_Things_init
  b_Things_init : Binds K d_Things_init ["self", "row"] []
  a_Things_getitem : Addr
  d_Things_getitem : FuncData
  F_Things_getitem : Fun K "__getitem__" "Things.__getitem__" s_Things_getitem a_Things_getitem d_Things_getitem
  b_Things_getitem : Binds K d_Things_getitem ["self", "item"] []
  a_Things_setitem : Addr
  d_Things_setitem : FuncData
  F_Things_setitem : Fun K "__setitem__" "Things.__setitem__" s_Things_setitem a_Things_setitem d_Things_setitem
  b_Things_setitem : Binds K d_Things_setitem ["self", "item", "number"] []
  a_Things_show : Addr
  d_Things_show : FuncData
  F_Things_show : Fun K "show" "Things.show" s_Things_show a_Things_show d_Things_show
  b_Things_show : Binds K d_Things_show ["self", "row"] []
  a_is_parting : Addr
  d_is_parting : FuncData
  F_is_parting : Fun K "is_parting" "is_parting" s_is_parting a_is_parting d_is_parting
  b_is_parting : Binds K d_is_parting ["key", "old", "item", "new"] []
  g_is_parting : mg "is_parting" = some (.ref a_is_parting)
  a_least_parting : Addr
  d_least_parting : FuncData
  F_least_parting : Fun K "least_parting" "least_parting" s_least_parting a_least_parting d_least_parting
  b_least_parting : Binds K d_least_parting ["key", "menu"] []
  g_least_parting : mg "least_parting" = some (.ref a_least_parting)
  a_mixed : Addr
  d_mixed : FuncData
  F_mixed : Fun K "_law_mixed" "_law_mixed" s_mixed a_mixed d_mixed
  b_mixed : Binds K d_mixed ["_law_number_here", "_law_turn"] []
  g_mixed : mg "_law_mixed" = some (.ref a_mixed)
  a_bag : Addr
  d_bag : FuncData
  F_bag : Fun K "_law_bag" "_law_bag" s_bag a_bag d_bag
  b_bag : Binds K d_bag ["_law_script"] []
  g_bag : mg "_law_bag" = some (.ref a_bag)
  a_pick : Addr
  d_pick : FuncData
  F_pick : Fun K "_law_pick" "_law_pick" s_pick a_pick d_pick
  b_pick : Binds K d_pick ["_law_bag_here", "_law_many"] []
  g_pick : mg "_law_pick" = some (.ref a_pick)
  a_choice : Addr
  d_choice : FuncData
  F_choice : Fun K "_law_choice" "_law_choice" s_choice a_choice d_choice
  b_choice : Binds K d_choice ["_law_bag_here", "_law_things"] []
  g_choice : mg "_law_choice" = some (.ref a_choice)
  a_number : Addr
  d_number : FuncData
  F_number : Fun K "_law_number" "_law_number" s_number a_number d_number
  b_number : Binds K d_number ["_law_thing"] []
  g_number : mg "_law_number" = some (.ref a_number)
  a_form : Addr
  d_form : FuncData
  F_form : Fun K "_law_form" "_law_form" s_form a_form d_form
  b_form : Binds K d_form ["_law_bag_here", "_law_readable", "_law_levels"] []
  g_form : mg "_law_form" = some (.ref a_form)
  a_value : Addr
  d_value : FuncData
  F_value : Fun K "_law_value" "_law_value" s_value a_value d_value
  b_value : Binds K d_value ["_law_form_here", "_law_worths"] []
  g_value : mg "_law_value" = some (.ref a_value)
  a_idents : Addr
  d_idents : FuncData
  F_idents : Fun K "_law_idents" "_law_idents" s_idents a_idents d_idents
  b_idents : Binds K d_idents ["_law_key", "_law_row"] []
  g_idents : mg "_law_idents" = some (.ref a_idents)
  a_any_key : Addr
  d_any_key : FuncData
  F_any_key : Fun K "_law_any_key" "_law_any_key" s_any_key a_any_key d_any_key
  b_any_key : Binds K d_any_key ["_law_bag_here"] []
  g_any_key : mg "_law_any_key" = some (.ref a_any_key)
  a_told_items : Addr
  d_told_items : FuncData
  F_told_items : Fun K "_law_told_items" "_law_told_items" s_told_items a_told_items d_told_items
  b_told_items : Binds K d_told_items ["_law_told", "_law_due"] []
  g_told_items : mg "_law_told_items" = some (.ref a_told_items)
  a_all_rows : Addr
  d_all_rows : FuncData
  F_all_rows : Fun K "_law_all_rows" "_law_all_rows" s_all_rows a_all_rows d_all_rows
  b_all_rows : Binds K d_all_rows ["_law_size", "_law_places"] []
  g_all_rows : mg "_law_all_rows" = some (.ref a_all_rows)
  a_unlike_rows : Addr
  d_unlike_rows : FuncData
  F_unlike_rows : Fun K "_law_unlike_rows" "_law_unlike_rows" s_unlike_rows a_unlike_rows d_unlike_rows
  b_unlike_rows : Binds K d_unlike_rows ["_law_old", "_law_before", "_law_new", "_law_behind"] []
  g_unlike_rows : mg "_law_unlike_rows" = some (.ref a_unlike_rows)
  a_first_of : Addr
  d_first_of : FuncData
  F_first_of : Fun K "_law_first_of" "_law_first_of" s_first_of a_first_of d_first_of
  b_first_of : Binds K d_first_of ["_law_form_here", "_law_olds", "_law_news"] []
  g_first_of : mg "_law_first_of" = some (.ref a_first_of)
  a_least : Addr
  d_least : FuncData
  F_least : Fun K "_law_least" "_law_least" s_least a_least d_least
  b_least : Binds K d_least ["_law_form_here", "_law_size", "_law_places"] []
  g_least : mg "_law_least" = some (.ref a_least)
  a_plain : Addr
  d_plain : FuncData
  F_plain : Fun K "_law_plain" "_law_plain" s_plain a_plain d_plain
  b_plain : Binds K d_plain ["_law_form_here", "_law_size", "_law_places"] []
  g_plain : mg "_law_plain" = some (.ref a_plain)
  a_right : Addr
  d_right : FuncData
  F_right : Fun K "_law_right" "_law_right" s_right a_right d_right
  b_right : Binds K d_right ["_law_key", "_law_form_here", "_law_size", "_law_places", "_law_menu"] []
  g_right : mg "_law_right" = some (.ref a_right)
  a_menu_of : Addr
  d_menu_of : FuncData
  F_menu_of : Fun K "_law_menu_of" "_law_menu_of" s_menu_of a_menu_of d_menu_of
  b_menu_of : Binds K d_menu_of ["_law_bag_here", "_law_size", "_law_places"] []
  g_menu_of : mg "_law_menu_of" = some (.ref a_menu_of)
  a_law : Addr
  d_law : FuncData
  F_law : Fun K "law" "law" s_law a_law d_law
  b_law : Binds K d_law ["_law_script"] []
  g_law : mg "law" = some (.ref a_law)
  D_COUNTS : Addr
  e_COUNTS : Array DictEntry
  n_COUNTS : Nat
  g_COUNTS : mg "COUNTS" = some (.ref D_COUNTS)
  l_COUNTS : K.lookup D_COUNTS = some ⟨.type "dict", none, .dict e_COUNTS n_COUNTS, #[]⟩
  q_COUNTS : PySem.W.KeysLit W.params e_COUNTS.toList
  w_COUNTS : (D_COUNTS == sysModules) = false
  k_COUNTS_0 : ∃ t, PySem.W.nsIn K D_COUNTS "is" = some (some (.int 2 t))
  k_COUNTS_1 : ∃ t, PySem.W.nsIn K D_COUNTS "get" = some (some (.int 2 t))
  k_COUNTS_2 : ∃ t, PySem.W.nsIn K D_COUNTS "sum" = some (some (.int 3 t))
  k_COUNTS_3 : ∃ t, PySem.W.nsIn K D_COUNTS "same" = some (some (.int 3 t))
  k_COUNTS_4 : ∃ t, PySem.W.nsIn K D_COUNTS "pick" = some (some (.int 4 t))
  C_Key : Addr
  g_Key : mg "Key" = some (.ref C_Key)
  cl_Key : Cls K C_Key
  na_Key_form : NoAttr K C_Key "form"
  mk_Key : Mk K C_Key a_Key_init
  co_Key : StX.CallO K C_Key a_Key_call
  sp_Key_le : PySem.W.findIn K (.ref C_Key) "__le__" = some (some (.ref a_Key_le)) ∧ PySem.W.isFn K (.ref a_Key_le) = true
  me_Key_idents : Meth K C_Key "idents" a_Key_idents
  p_Key_parts : Addr
  pr_Key_parts : PropOf K C_Key "parts" p_Key_parts a_Key_parts
  ty_Key : PySem.W.findIn K (.ref C_Key) "__class__" = some (some (.builtin "object.__class__")) ∧ PySem.W.specialIn K (.builtin "object.__class__") "__get__" = some (some (.builtin "getset_descriptor.__get__")) ∧ PySem.W.takesIn K (.builtin "object.__class__") = some true ∧ PySem.W.mroIn K C_Key (.type "object") = some true ∧ PySem.W.kitOne K (.ref C_Key) (.ref C_Key) = some true
  C_Known : Addr
  g_Known : mg "Known" = some (.ref C_Known)
  cl_Known : Cls K C_Known
  na_Known_key : NoAttr K C_Known "key"
  na_Known_row : NoAttr K C_Known "row"
  na_Known_known_by : NoAttr K C_Known "known_by"
  na_Known_numbers : NoAttr K C_Known "numbers"
  mk_Known : Mk K C_Known a_Known_init
  sp_Known_getitem : PySem.W.findIn K (.ref C_Known) "__getitem__" = some (some (.ref a_Known_getitem)) ∧ PySem.W.isFn K (.ref a_Known_getitem) = true ∧ PySem.W.fnIn K a_Known_getitem = true
  sp_Known_setitem : PySem.W.findIn K (.ref C_Known) "__setitem__" = some (some (.ref a_Known_setitem)) ∧ PySem.W.isFn K (.ref a_Known_setitem) = true ∧ PySem.W.noSeq K C_Known = true
  me_Known_show : Meth K C_Known "show" a_Known_show
  C_Things : Addr
  g_Things : mg "Things" = some (.ref C_Things)
  cl_Things : Cls K C_Things
  na_Things_row : NoAttr K C_Things "row"
  na_Things_numbers : NoAttr K C_Things "numbers"
  mk_Things : Mk K C_Things a_Things_init
  sp_Things_getitem : PySem.W.findIn K (.ref C_Things) "__getitem__" = some (some (.ref a_Things_getitem)) ∧ PySem.W.isFn K (.ref a_Things_getitem) = true ∧ PySem.W.fnIn K a_Things_getitem = true
  sp_Things_setitem : PySem.W.findIn K (.ref C_Things) "__setitem__" = some (some (.ref a_Things_setitem)) ∧ PySem.W.isFn K (.ref a_Things_setitem) = true ∧ PySem.W.noSeq K C_Things = true
  me_Things_show : Meth K C_Things "show" a_Things_show
/-! ### the bag -/
structure Bag (G : Hp) (o : HO) : Prop where
  ex : ∃ (n : Addr) (ns : List Int) (i g t s : Int), o = .lst [.ref n, .int i, .int g, .int t, .int s] ∧ G n = some (.lst (ns.map V.int)) ∧ 0 ≤ i ∧ 0 ≤ g
theorem Bag.same {G G' : Hp} {o : HO} (e : Same G G') (b : Bag G o) : Bag G' o := by
  obtain ⟨n, ns, i, g, t, s, h1, h2, h3⟩ := b.ex
  exact ⟨n, ns, i, g, t, s, h1, e _ _ h2, h3⟩

section
variable {P : Program} {w : World} {K : PySem.W.Frag} {mg : Str → Option Value} {base : Heap}
def spMixed : Sp := fun vs H Q _ => ∃ n t : Int, vs = [.int n, .int t] ∧ ∀ r : Int, 0 ≤ r → r < 2147483587 → Q (.int r) H
theorem ok_mixed (T : Top K mg w) {k : Nat} : FnOk P w K mg base CX0 (k + 1) T.a_mixed T.d_mixed ["_law_number_here", "_law_turn"] spMixed := by
  refine T.F_mixed.ok sc_mixed (fun vs H Q E h => ?_) (fun cdv A outer s H vs Q E hr h => ?_)
  · obtain ⟨n, t, rfl, _⟩ := h
    rfl
  · obtain ⟨n, t, rfl, q⟩ := h
    refine ⟨_, (pss_cons (ps_set (i := 2) sc_mixed.nd rfl (.inl rfl) (pe_op op_modY (pe_callTy cr_int (by rfl) T.m_int (by decide +kernel) (pa_cons (pe_op op_addY (pe_op op_mulY (pe_op op_addY (xv 0) pe_int) pe_int) (pe_op op_mulY (pe_op op_addY (xv 1) pe_int) pe_int)) pa_nil)) pe_int))
      (pss_cons (ps_set (i := 3) sc_mixed.nd rfl (.inl rfl) (pe_op op_modY (pe_callTy cr_int (by rfl) T.m_int (by decide +kernel) (pa_cons (pe_op op_addY (pe_op op_addY (pe_op op_mulY (xv 2) (xv 2)) (pe_op op_mulY (xv 2) pe_int)) (pe_op op_mulY (pe_op op_addY (xv 1) pe_int) pe_int)) pa_nil)) pe_int))
      (pss_one (ps_ret (pe_op op_modY (pe_callTy cr_int (by rfl) T.m_int (by decide +kernel) (pa_cons (pe_op op_addY (pe_op op_addY (pe_op op_divY (xv 3) pe_int) (pe_op op_mulY (xv 3) pe_int)) (xv 1)) pa_nil)) pe_int))))), ?_⟩
    refine ⟨.inr ⟨by decide, by decide⟩, .inr ⟨by decide, by decide⟩, by decide, fun f _ f0 f1 => ?_⟩
    refine ⟨.inl ⟨by omega, by omega⟩, .inr ⟨by decide, by decide⟩, .inr ⟨by decide, by decide⟩, by decide, fun g _ g0 g1 => ?_⟩
    refine ⟨⟨by decide, by decide⟩, fun d _ _ => ⟨.inr ⟨by decide, by decide⟩, by decide, fun r _ r0 r1 => ?_⟩⟩
    exact q r r0 r1

def spPick : Sp := fun vs H Q _ => ∃ (G : Hp) (M : List (Addr × HO)) (b : Addr) (o : HO) (n : Int), vs = [.ref b, .int n] ∧ Sep G ((b, o) :: M) H ∧ Bag G o ∧ 0 < n ∧ n < 1073741824 ∧
  ∀ (r : Int) (o' : HO) (H' : Hp), 0 ≤ r → r < n → Bag G o' → Sep G ((b, o') :: M) H' → Q (.int r) H'
theorem ok_pick (T : Top K mg w) {k : Nat} (G_mixed : FnOk P w K mg base CX0 (k + 1) T.a_mixed T.d_mixed ["_law_number_here", "_law_turn"] spMixed) :
    FnOk P w K mg base CX0 (k + 2) T.a_pick T.d_pick ["_law_bag_here", "_law_many"] spPick := by
  refine T.F_pick.ok sc_pick (fun vs H Q E h => ?_) (fun cdv A outer s H vs Q E hr h => ?_)
  · obtain ⟨G, M, b, o, n, rfl, _⟩ := h
    rfl
  · obtain ⟨G, M, b, o, n, rfl, S, B, n0, n1, q⟩ := h
    obtain ⟨N, ns, i, g, t, z, rfl, hN, i0, g0⟩ := B.ex
    refine ⟨_, (pss_cons (ps_set (i := 2) sc_pick.nd rfl (.inl rfl) (pe_ix (ix_k K) (xv 0) pe_int (fun _ _ => rfl)))
      (pss_cons (ps_asg (pe_op op_addY (xv 2) pe_int) (pg_sub (xv 0) pe_int set_list))
      (xss_cut (xs_if (PW.pt (xw_and (xt_cmp (op_eqK K hr.units) (pe_ix (ix_k K) (xv 0) pe_int (fun _ _ => rfl)) pe_int (nomark _)) (pw_and1 (xt_cmp op_ltY (pe_ix (ix_k K) (xv 0) pe_int (fun _ _ => rfl)) (pe_callB (cr_lenK K) (by rfl) T.m_len (by decide +kernel) (pa_cons (pe_ix (ix_k K) (xv 0) pe_int (fun _ _ => rfl)) pa_nil)) (nomark _)))))
      (pss_cons (ps_set (i := 3) sc_pick.nd rfl (.inl rfl) (pe_ix (ix_k K) (pe_ix (ix_k K) (xv 0) pe_int (fun _ _ => rfl)) (pe_ix (ix_k K) (xv 0) pe_int (fun _ _ => rfl)) (fun _ _ => rfl)))
      (pss_cons (ps_asg (pe_op op_addY (pe_ix (ix_k K) (xv 0) pe_int (fun _ _ => rfl)) pe_int) (pg_sub (xv 0) pe_int set_list))
      (pss_cons (xs_if (xt_cmp op_ltY (pe_callB cr_abs (by rfl) T.m_abs (by decide +kernel) (pa_cons (xv 3) pa_nil)) (pe_op op_powY pe_int pe_int) (nomark _))
      (pss_one (ps_ret (pe_op op_modY (pe_callTy cr_int (by rfl) T.m_int (by decide +kernel) (pa_cons (pe_call G_mixed (hr.mono (by omega)) (by rfl) T.g_mixed T.F_mixed.kp T.b_mixed .nil pass0 (pa_cons (pe_op op_addY (pe_op op_mulY pe_int (pe_callB cr_abs (by rfl) T.m_abs (by decide +kernel) (pa_cons (xv 3) pa_nil))) (pe_cmpR op_ltY (xv 3) pe_int (nomark _))) (pa_cons (xv 2) pa_nil))) pa_nil)) (xv 1))))
      pss_nil)
      (pss_one (ps_asg (pe_callB cr_abs (by rfl) T.m_abs (by decide +kernel) (pa_cons (xv 3) pa_nil)) (pg_sub (xv 0) pe_int set_list))))))
      pss_nil)
      (pss_cons (xs_if (xt_cmp (op_eqK K hr.units) (pe_ix (ix_k K) (xv 0) pe_int (fun _ _ => rfl)) pe_int (nomark _))
      (pss_one (ps_ret (pe_op op_modY (pe_callTy cr_int (by rfl) T.m_int (by decide +kernel) (pa_cons (pe_call G_mixed (hr.mono (by omega)) (by rfl) T.g_mixed T.F_mixed.kp T.b_mixed .nil pass0 (pa_cons (pe_ix (ix_k K) (xv 0) pe_int (fun _ _ => rfl)) (pa_cons (xv 2) pa_nil))) pa_nil)) (xv 1))))
      pss_nil)
      (pss_cons (ps_set (i := 4) sc_pick.nd rfl (.inl rfl) (pe_op op_modY (pe_callTy cr_int (by rfl) T.m_int (by decide +kernel) (pa_cons (pe_ix (ix_k K) (xv 0) pe_int (fun _ _ => rfl)) pa_nil)) (xv 1)))
      (pss_cons (ps_asg (pe_op op_divY (pe_ix (ix_k K) (xv 0) pe_int (fun _ _ => rfl)) (xv 1)) (pg_sub (xv 0) pe_int set_list))
      (pss_one (ps_ret (xv 4))))))))), ?_⟩
    -- the turn
    refine ⟨_, _, .inl (SqL.of S.hd), rfl, b, _, _, 3, rfl, rfl, S.hd, rfl, ?_⟩
    have S1 := S.set (o' := .lst [.ref N, .int i, .int g, .int (t + 1), .int z])
    have fin : ∀ (j : Int) (g' : Int) (H2 : Hp), 0 ≤ j → 0 ≤ g' → Sep G ((b, .lst [.ref N, .int j, .int g', .int (t + 1), .int z]) :: M) H2 → (g' = 0 → ∀ r : Int, 0 ≤ r → r < n → Q (.int r) H2) ∧
        (∀ (r d : Int), 0 ≤ r → r < n → 0 ≤ d → Q (.int r) (upd H2 b (.lst [.ref N, .int j, .int d, .int (t + 1), .int z]))) := fun j g' H2 j0 h0 S2 =>
      ⟨fun _ r r0 r1 => q r _ _ r0 r1 ⟨N, ns, j, g', t + 1, z, rfl, hN, j0, h0⟩ S2, fun r d r0 r1 d0 => q r _ _ r0 r1 ⟨N, ns, j, d, t + 1, z, rfl, hN, j0, d0⟩ S2.set⟩
    -- the rest, from a bag on
    refine ⟨fun σ H2 => ∃ (y3 y4 : Option V) (j g' : Int), σ = [some (.ref b), some (.int n), some (.int t), y3, y4] ∧ 0 ≤ j ∧ 0 ≤ g' ∧ Sep G ((b, .lst [.ref N, .int j, .int g', .int (t + 1), .int z]) :: M) H2, ?_, fun σ H2 h => ?_⟩
    · have go : ∃ (y3 y4 : Option V) (j g' : Int), ([some (.ref b), some (.int n), some (.int t), none, none] : List (Option V)) = [some (.ref b), some (.int n), some (.int t), y3, y4] ∧ 0 ≤ j ∧ 0 ≤ g' ∧ Sep G ((b, .lst [.ref N, .int j, .int g', .int (t + 1), .int z]) :: M) _ := ⟨_, _, i, g, rfl, i0, g0, S1⟩
      refine ⟨_, _, .inl (SqL.of S1.hd), rfl, fun e => ⟨_, _, .inl (SqL.of S1.hd), rfl, _, _, .inl (SqL.of S1.hd), rfl, _, .inl (SqL.of (S1.st hN)), fun e => ?_, fun e => go⟩, fun e => ⟨ff, fun _ => go⟩⟩
      have hi : i < (ns.map V.int).length := of_decide_eq_true e
      obtain ⟨v, hv, hm⟩ := atI_in i0 hi
      obtain ⟨c, _, rfl⟩ := List.mem_map.mp hm
      refine ⟨_, _, .inl (SqL.of S1.hd), rfl, _, _, .inl (SqL.of S1.hd), rfl, _, _, .inl (SqL.of (S1.st hN)), hv, ?_⟩
      refine ⟨_, _, .inl (SqL.of S1.hd), rfl, b, _, _, 1, rfl, rfl, S1.hd, rfl, ?_⟩
      have S2 := S1.set (o' := .lst [.ref N, .int (i + 1), .int g, .int (t + 1), .int z])
      refine ⟨⟨by decide, by decide, by decide⟩, fun p _ => ⟨fun e => ?_, fun e => ?_⟩⟩
      · refine ⟨.inl ⟨by decide, by decide⟩, _, _, rfl, fun m _ _ => ⟨n0, fun r _ r0 r1 => ?_⟩⟩
        exact q r _ _ r0 r1 ⟨N, ns, i + 1, g, t + 1, z, rfl, hN, by omega, g0⟩ S2
      · refine ⟨b, _, _, 2, rfl, rfl, S2.hd, rfl, ?_⟩
        exact ⟨_, _, i + 1, c.natAbs, rfl, by omega, by omega, S2.set⟩
    · obtain ⟨y3, y4, j, g', rfl, j0, h0, S2⟩ := h
      obtain ⟨f1, f2⟩ := fin j g' H2 j0 h0 S2
      refine ⟨_, _, .inl (SqL.of S2.hd), rfl, fun e => ?_, fun e => ?_⟩
      · refine ⟨_, _, .inl (SqL.of S2.hd), rfl, _, _, rfl, fun m _ _ => ⟨n0, fun r _ r0 r1 => ?_⟩⟩
        exact f1 (of_decide_eq_true e) r r0 r1
      · refine ⟨_, _, .inl (SqL.of S2.hd), rfl, n0, fun r _ r0 r1 => ?_⟩
        refine ⟨_, _, .inl (SqL.of S2.hd), rfl, ⟨n0, n1⟩, fun d _ d0 => ⟨b, _, _, 2, rfl, rfl, S2.hd, rfl, ?_⟩⟩
        exact f2 r d r0 r1 (d0 h0)

def spBag (K : PySem.W.Frag) : Sp := fun vs H Q _ => ∃ (G : Hp) (M : List (Addr × HO)) (a : Addr) (ns : List Int), vs = [.ref a] ∧ Sep G M H ∧ SqL K G a (ns.map V.int) ∧ ns.length ≤ 63 ∧
  ∀ (b : Addr) (o : HO) (G' H' : Hp), Same G G' → Bag G' o → Sep G' ((b, o) :: M) H' → Q (.ref b) H'
theorem ok_bag (T : Top K mg w) {k : Nat} : FnOk P w K mg base CX0 (k + 1) T.a_bag T.d_bag ["_law_script"] (spBag K) := by
  refine T.F_bag.ok sc_bag (fun vs H Q E h => ?_) (fun cdv A outer s H vs Q E hr h => ?_)
  · obtain ⟨G, M, a, ns, rfl, _⟩ := h
    rfl
  · obtain ⟨G, M, a, ns, rfl, S, hA, hl, q⟩ := h
    refine ⟨_, (pss_cons (ps_setLc (i := 2) (own := [("_law_cell", 1)]) (by rfl) sc_bag.nd rfl rfl (sw_true rfl rfl rfl (by decide +kernel)) (pi_listK K (xv 0)) (blkOk_by (N := ["_law_script", "_law_cell", "_law_numbers", "_law_seed", "_law_at"]) (sc := defScope s_bag) (by decide +kernel)) (fun _ _ _ _ _ => (pg_name (i := 1) sc_bag.nd rfl (.inl rfl))) (fun _ _ _ _ _ => pts_nil) (fun _ _ _ _ _ => (pe_callTy cr_int (by rfl) T.m_int (by decide +kernel) (pa_cons (xv 1) pa_nil))))
      (pss_cons (ps_set (i := 3) sc_bag.nd rfl (.inl rfl) (pe_callB (cr_lenK K) (by rfl) T.m_len (by decide +kernel) (pa_cons (xv 2) pa_nil)))
      (pss_cons (ps_for PassesOwn.never rfl (pi_enum (by rfl) T.m_enumerate (pa_cons (pe_slice (sl_listK K) (xv 2) po_none (po_some pe_int)) pa_nil)) (pg_tupK K 2 (pgs_cons (pg_name (i := 4) sc_bag.nd rfl (.inl rfl)) (pgs_cons (pg_name (i := 1) sc_bag.nd rfl (.inl rfl)) pgs_nil)))
      (pss_one (ps_set (i := 3) sc_bag.nd rfl (.inl rfl) (pe_op op_modY (pe_callTy cr_int (by rfl) T.m_int (by decide +kernel) (pa_cons (pe_op op_addY (pe_op op_addY (pe_op op_mulY (xv 3) pe_int) (pe_op op_modY (pe_callTy cr_int (by rfl) T.m_int (by decide +kernel) (pa_cons (pe_callB cr_abs (by rfl) T.m_abs (by decide +kernel) (pa_cons (xv 1) pa_nil)) pa_nil)) pe_int)) (pe_op op_mulY (pe_op op_addY (xv 4) pe_int) (pe_cmpR op_ltY (xv 1) pe_int (nomark _)))) pa_nil)) pe_int))))
      (pss_one (ps_ret (pe_lst (pa_cons (xv 2) (pa_cons pe_int (pa_cons pe_int (pa_cons pe_int (pa_cons (xv 3) pa_nil))))))))))), ?_⟩
    refine ⟨a, rfl, ⟨_, S.l hA⟩, fun L nL => lc_pre (xs := ns.map V.int) (fun pre H' => Sep G ((L, .lst pre) :: M) H') (S.new nL) (fun pre H' p => p.l hA) (fun _ => rfl) (fun pre x post H' e p => ?_) (fun H' S1 => ?_)⟩
    · obtain ⟨c, _, rfl⟩ := List.mem_map.mp (show x ∈ ns.map V.int by rw [e]; simp)
      have hz : pre.length ≤ 63 := by
        have z := congrArg List.length e
        rw [List.length_map, List.length_append] at z
        omega
      exact ⟨_, p.hd, smallL (by omega), p.set⟩
    · -- the seed
      have S2 := S1.frz
      have hN : upd G L (.lst (ns.map V.int)) L = some (.lst (ns.map V.int)) := upd_same
      refine ⟨_, .inl (SqL.of (S2.st hN)), ?_⟩
      refine ⟨63, rfl, L, _, rfl, SqL.of (S2.st hN), fun c nc => ?_⟩
      have S3 := S2.newG (o := .lst (cutV (ns.map V.int) none (some 63))) nc
      have s3 := S2.grow (o := .lst (cutV (ns.map V.int) none (some 63))) nc
      refine ⟨c, _, rfl, SqL.of (S3.st upd_same), for_enum (xs := cutV (ns.map V.int) none (some 63)) (fun pre σ H' => ∃ (y1 y4 : Option V) (z : Int) (G' : Hp), σ = [some (.ref a), y1, some (.ref L), some (.int z), y4] ∧
        Same (upd (upd G L (.lst (ns.map V.int))) c (.lst (cutV (ns.map V.int) none (some 63)))) G' ∧ Sep G' M H') ⟨_, _, _, _, rfl, Same.refl _, S3⟩ (fun pre σ H' h => ?_) (fun pre x post σ H' W e h nW => ?_) (fun σ H' h => ?_)⟩
      · obtain ⟨_, _, _, G', _, s4, S4⟩ := h
        exact SqL.of (S4.st (s4 _ _ upd_same))
      · obtain ⟨y1, y4, z, G', rfl, s4, S4⟩ := h
        have hx : x ∈ ns.map V.int := by
          have hm : x ∈ cutV (ns.map V.int) none (some 63) := by rw [e]; simp
          exact List.mem_of_mem_drop (List.mem_of_mem_take hm)
        obtain ⟨v, _, rfl⟩ := List.mem_map.mp hx
        have S5 := S4.newG (o := .tup [.int (pre.length : Nat), .int v]) nW
        refine ⟨.inr ⟨by decide, by decide⟩, by decide, fun r _ r0 r1 => ⟨by decide, fun u _ u0 u1 => ?_⟩⟩
        exact ⟨_, _, _, _, rfl, s4.trans (S4.grow nW), S5⟩
      · obtain ⟨y1, y4, z, G', rfl, s4, S4⟩ := h
        refine ⟨sz, fun b nb => ?_⟩
        exact q b _ G' _ ((S1.frzS).trans (s3.trans s4)) ⟨L, ns, 0, 0, 0, z, rfl, s4 _ _ (s3 _ _ hN), by decide, by decide⟩ (S4.new nb)

def spChoice (K : PySem.W.Frag) : Sp := fun vs H Q _ => ∃ (G : Hp) (M : List (Addr × HO)) (b : Addr) (o : HO) (l : Addr) (xs : List V), vs = [.ref b, .ref l] ∧ Sep G ((b, o) :: M) H ∧ Bag G o ∧ SqL K G l xs ∧ 0 < xs.length ∧ xs.length < 100000 ∧
  ∀ (v : V) (o' : HO) (H' : Hp), v ∈ xs → Bag G o' → Sep G ((b, o') :: M) H' → Q v H'
theorem ok_choice (T : Top K mg w) {k : Nat} (G_pick : FnOk P w K mg base CX0 k T.a_pick T.d_pick ["_law_bag_here", "_law_many"] spPick) : FnOk P w K mg base CX0 (k + 1) T.a_choice T.d_choice ["_law_bag_here", "_law_things"] (spChoice K) := by
  refine T.F_choice.ok sc_choice (fun vs H Q E h => ?_) (fun cdv A outer s H vs Q E hr h => ?_)
  · obtain ⟨G, M, b, o, l, xs, rfl, _⟩ := h
    rfl
  · obtain ⟨G, M, b, o, l, xs, rfl, S, B, hl, x0, x1, q⟩ := h
    refine ⟨_, (pss_one (ps_ret (pe_ix (ix_k K) (xv 1) (pe_call G_pick (hr.mono (by omega)) (by rfl) T.g_pick T.F_pick.kp T.b_pick .nil pass0 (pa_cons (xv 0) (pa_cons (pe_callB (cr_lenK K) (by rfl) T.m_len (by decide +kernel) (pa_cons (xv 1) pa_nil)) pa_nil))) (fun _ _ => rfl)))), ?_⟩
    refine ⟨_, .inl (S.l hl), G, M, b, o, _, rfl, S, B, by omega, by omega, fun r o' H' r0 r1 B' S' => ?_⟩
    obtain ⟨v, hv, hm⟩ := atI_in r0 r1
    exact ⟨_, v, .inl (S'.l hl), hv, q v o' H' hm B' S'⟩

def spNumber : Sp := fun vs H Q _ => ∃ i : Int, vs = [.int i] ∧ Q (.bl true) H
theorem ok_number (T : Top K mg w) {k : Nat} : FnOk P w K mg base CX0 (k + 1) T.a_number T.d_number ["_law_thing"] spNumber := by
  refine T.F_number.ok sc_number (fun vs H Q E h => ?_) (fun cdv A outer s H vs Q E hr h => ?_)
  · obtain ⟨i, rfl, _⟩ := h
    rfl
  · obtain ⟨i, rfl, q⟩ := h
    refine ⟨_, (pss_one (ps_ret (xe_and (pe_callB (call_isK K) (by rfl) T.m_isinstance (by decide +kernel) (pa_cons (xv 0) (pa_cons (pe_bltn (v := .ty "int") (by rfl) T.m_int (by decide +kernel) rfl) pa_nil))) (pe_one (xe_not (pe_callB (call_isK K) (by rfl) T.m_isinstance (by decide +kernel) (pa_cons (xv 0) (pa_cons (pe_bltn (v := .ty "bool") (by rfl) T.m_bool (by decide +kernel) rfl) pa_nil)))))))), ?_⟩
    refine ⟨_, _, _, _, true, rfl, .ty _, .base (.int _), kit_ty (by decide +kernel), fun _ => ⟨_, _, _, _, false, rfl, .ty _, .base (.int _), kit_ty (by decide +kernel), ?_⟩, fun e => nomatch e⟩
    exact q

end
end K28
set_option Elab.async false
set_option linter.all false
set_option maxRecDepth 100000
set_option maxHeartbeats 4000000
namespace K28
open PySem PySem.Spec PyProof.Rows L2 XL
/-! ### forms -/
inductive Fm where
  | is (n : Int)
  | get (x : Str)
  | sum (a b : Fm)
  | same (a b : Fm)
  | pick (a b c : Fm)
def Fm.dep : Fm → Nat
  | .is _ => 1
  | .get _ => 1
  | .sum a b => max a.dep b.dep + 1
  | .same a b => max a.dep b.dep + 1
  | .pick a b c => max a.dep (max b.dep c.dep) + 1
def Fm.size : Fm → Nat
  | .is _ => 1
  | .get _ => 1
  | .sum a b => a.size + b.size + 1
  | .same a b => a.size + b.size + 1
  | .pick a b c => a.size + b.size + c.size + 1
def Fm.val (i j : Int) : Fm → Int
  | .is n => n
  | .get x => if x = "item" then i else j
  | .sum a b => (a.val i j + b.val i j) % 10
  | .same a b => if a.val i j = b.val i j then 1 else 0
  | .pick a b c => if a.val i j = 0 then c.val i j else b.val i j
def Fm.ok : Fm → Prop
  | .is n => 0 ≤ n ∧ n ≤ 9
  | .get x => x = "item" ∨ x = "at"
  | .sum a b => a.ok ∧ b.ok
  | .same a b => a.ok ∧ b.ok
  | .pick a b c => a.ok ∧ b.ok ∧ c.ok
inductive FmAt (G : Hp) : V → Fm → Prop
  | is {p : Addr} {n : Int} : G p = some (.tup [.str "is", .int n]) → FmAt G (.ref p) (.is n)
  | get {p : Addr} {x : Str} : G p = some (.tup [.str "get", .str x]) → FmAt G (.ref p) (.get x)
  | sum {p : Addr} {v1 v2 : V} {a b : Fm} : G p = some (.tup [.str "sum", v1, v2]) → FmAt G v1 a → FmAt G v2 b → FmAt G (.ref p) (.sum a b)
  | same {p : Addr} {v1 v2 : V} {a b : Fm} : G p = some (.tup [.str "same", v1, v2]) → FmAt G v1 a → FmAt G v2 b → FmAt G (.ref p) (.same a b)
  | pick {p : Addr} {v1 v2 v3 : V} {a b c : Fm} : G p = some (.tup [.str "pick", v1, v2, v3]) → FmAt G v1 a → FmAt G v2 b → FmAt G v3 c → FmAt G (.ref p) (.pick a b c)
theorem FmAt.same' {G G' : Hp} (e : Same G G') {v : V} {f : Fm} (h : FmAt G v f) : FmAt G' v f := by
  induction h with
  | is h => exact .is (e _ _ h)
  | get h => exact .get (e _ _ h)
  | sum h _ _ i1 i2 => exact .sum (e _ _ h) i1 i2
  | same h _ _ i1 i2 => exact .same (e _ _ h) i1 i2
  | pick h _ _ _ i1 i2 i3 => exact .pick (e _ _ h) i1 i2 i3
theorem Fm.dep_pos (f : Fm) : 0 < f.dep := by cases f <;> simp [Fm.dep]
theorem Fm.size_pos (f : Fm) : 0 < f.size := by cases f <;> simp [Fm.size]
/-- a form's data -/
def Fm.dat : Fm → PyData
  | .is n => .tuple [.str "is", .int n]
  | .get x => .tuple [.str "get", .str x]
  | .sum a b => .tuple [.str "sum", a.dat, b.dat]
  | .same a b => .tuple [.str "same", a.dat, b.dat]
  | .pick a b c => .tuple [.str "pick", a.dat, b.dat, c.dat]
theorem FmAt.dp {K : PySem.W.Frag} {G H : Hp} (e : Same G H) {v : V} {f : Fm} (h : FmAt G v f) : Dp K H v f.dat := by
  induction h with
  | is h => exact .tup (SqT.of (e _ _ h)) (.cons (.str _) (.cons (.int _) .nil))
  | get h => exact .tup (SqT.of (e _ _ h)) (.cons (.str _) (.cons (.str _) .nil))
  | sum h _ _ i1 i2 => exact .tup (SqT.of (e _ _ h)) (.cons (.str _) (.cons i1 (.cons i2 .nil)))
  | same h _ _ i1 i2 => exact .tup (SqT.of (e _ _ h)) (.cons (.str _) (.cons i1 (.cons i2 .nil)))
  | pick h _ _ _ i1 i2 i3 => exact .tup (SqT.of (e _ _ h)) (.cons (.str _) (.cons i1 (.cons i2 (.cons i3 .nil))))
/-- the dict of item and at -/
abbrev env2 (i j : Int) : List (Key × V) := [(.inr "item", .int i), (.inr "at", .int j)]
theorem env_get (i j : Int) {x : Str} (h : x = "item" ∨ x = "at") : valV (env2 i j) (.inr x : Key) = some (.int (if x = "item" then i else j)) := by
  rcases h with rfl | rfl
  · rw [if_pos rfl]
    exact valV_pos rfl
  · rw [if_neg (by decide +kernel), valV_neg (by intro z; injection z with z; exact absurd z (by decide +kernel)), valV_pos rfl]
theorem env_merge (i j : Int) : mergeK [] [((.inr "item" : Key), V.int i), ((.inr "at" : Key), V.int j)] = env2 i j := by
  unfold mergeK
  rw [List.foldl_cons, List.foldl_cons, List.foldl_nil]
  have e1 : putK ([] : List (Key × V)) (.inr "item") (V.int i) = [(.inr "item", .int i)] := rfl
  rw [e1]
  unfold putK
  rw [if_neg]
  · rfl
  · simp only [List.any_cons, List.any_nil, Bool.or_false, decide_eq_true_eq]
    intro z
    injection z with z
    exact absurd z (by decide +kernel)
/-- words that differ, that are one -/
theorem wd {a b : Str} {A : Prop} (h : decide (a = b) = true) (n : decide (a = b) = false := by decide +kernel) : A := by rw [n] at h; cases h
theorem we {a : Str} {A : Prop} (h : decide (a = a) = false) : A := by rw [decide_eq_true rfl] at h; cases h
theorem wn {a b : Str} {A : Prop} (h : (!decide (a = b)) = false) (n : decide (a = b) = false := by decide +kernel) : A := by rw [n] at h; cases h
theorem wm {a : Str} {A : Prop} (h : (!decide (a = a)) = true) : A := by rw [decide_eq_true rfl] at h; cases h
theorem at0 {x : V} {r : List V} : atI (x :: r) 0 = some x := atI_nat (j := 0) rfl

section
variable {P : Program} {w : World} {K : PySem.W.Frag} {mg : Str → Option Value} {base : Heap}
/-! ### the program's forms -/
def spNumberIn : Sp := fun vs H Q _ => ∃ i l h : Int, vs = [.int i, .int l, .int h] ∧ l ≤ i ∧ i ≤ h ∧ Q (.bl true) H
theorem ok_is_number (T : Top K mg w) {k : Nat} : FnOk P w K mg base CX0 (k + 1) T.a_is_number T.d_is_number ["thing", "low", "high"] spNumberIn := by
  refine T.F_is_number.ok sc_is_number (fun vs H Q E h => ?_) (fun cdv A outer s H vs Q E hr h => ?_)
  · obtain ⟨i, l, h', rfl, _⟩ := h
    rfl
  · obtain ⟨i, l, h', rfl, h1, h2, q⟩ := h
    refine ⟨_, (pss_one (ps_ret (xe_and (pe_callB (call_isK K) (by rfl) T.m_isinstance (by decide +kernel) (pa_cons (xv 0) (pa_cons (pe_bltn (v := .ty "int") (by rfl) T.m_int (by decide +kernel) rfl) pa_nil))) (xe_and (xe_not (pe_callB (call_isK K) (by rfl) T.m_isinstance (by decide +kernel) (pa_cons (xv 0) (pa_cons (pe_bltn (v := .ty "bool") (by rfl) T.m_bool (by decide +kernel) rfl) pa_nil)))) (pe_one (xe_chain op_leY op_leY (xv 1) (xv 0) (xv 2))))))), ?_⟩
    refine ⟨_, _, _, _, true, rfl, .ty _, .base (.int _), kit_ty (by decide +kernel), fun _ => ⟨_, _, _, _, false, rfl, .ty _, .base (.int _), kit_ty (by decide +kernel), fun _ => ?_, tt⟩, tt⟩
    refine ⟨fun _ => ?_, fun e => absurd h1 (of_decide_eq_false e)⟩
    have e : decide (i ≤ h') = true := decide_eq_true h2
    show Q (.bl (decide (i ≤ h'))) H
    rw [e]
    exact q
theorem signs_in (x : Str) (h : x = "item" ∨ x = "at") : ∀ c ∈ x.cps.toList, c ∈ ("abcdefghijklmnopqrstuvwxyz" : Str).cps.toList := by
  rcases h with rfl | rfl <;> decide +kernel
def spName : Sp := fun vs H Q _ => ∃ (G : Hp) (M : List (Addr × HO)) (x : Str), vs = [.str x] ∧ Sep G M H ∧ (x = "item" ∨ x = "at") ∧ ∀ G' H', Same G G' → Sep G' M H' → Q (.bl true) H'
theorem ok_is_name (T : Top K mg w) {k : Nat} : FnOk P w K mg base CX0 (k + 1) T.a_is_name T.d_is_name ["thing"] spName := by
  refine T.F_is_name.ok sc_is_name (fun vs H Q E h => ?_) (fun cdv A outer s H vs Q E hr h => ?_)
  · obtain ⟨G, M, x, rfl, _⟩ := h
    rfl
  · obtain ⟨G, M, x, rfl, S, hx, q⟩ := h
    refine ⟨_, (pss_cons (xs_if (PW.pt (xw_or (pt_not (xt_truK K (pe_callB (call_isK K) (by rfl) T.m_isinstance (by decide +kernel) (pa_cons (xv 0) (pa_cons (pe_bltn (v := .ty "str") (by rfl) T.m_str (by decide +kernel) rfl) pa_nil))))) (xw_or (xt_cmp op_ltY (pe_callB (cr_lenK K) (by rfl) T.m_len (by decide +kernel) (pa_cons (xv 0) pa_nil)) pe_int (nomark _)) (pw_or1 (xt_cmp op_gtY (pe_callB (cr_lenK K) (by rfl) T.m_len (by decide +kernel) (pa_cons (xv 0) pa_nil)) pe_int (nomark _))))))
      (pss_one (ps_ret pe_bl))
      pss_nil)
      (pss_one (ps_ret (pe_callB (cr_allK K rfl) (by rfl) T.m_all (by decide +kernel) (pa_cons (pe_lc (own := [("sign", 1)]) (by rfl) sc_is_name.nd (pi_str (xv 0)) (blkOk_by (N := ["thing", "sign"]) (sc := defScope s_is_name) (by decide +kernel)) (fun _ _ _ _ _ => (pg_name (i := 1) sc_is_name.nd rfl (.inl rfl))) (fun _ _ _ _ _ => pts_nil) (fun _ _ _ _ _ => (pe_cmpR op_in_sign (xv 1) (xe_glob (by rfl) T.v_LETTERS) (by rfl)))) pa_nil))))), ?_⟩
    have hl : x.length = 4 ∨ x.length = 2 := by
      rcases hx with rfl | rfl
      · exact .inl (by decide +kernel)
      · exact .inr (by decide +kernel)
    have hz : x.length ≤ sizeLine := small (by omega)
    refine ⟨_, _, _, _, true, rfl, .ty _, .base (.str _), kit_ty (by decide +kernel), ff, fun _ => ⟨hz, fun e => ?_, fun _ => ⟨hz, fun e => ?_, fun _ => ?_⟩⟩⟩
    · have z := of_decide_eq_true e
      omega
    · have z : (8 : Int) < x.length := of_decide_eq_true e
      omega
    · refine ⟨x, rfl, fun L nL => lc_it (walk_str (z := x)) (fun i H' => Sep G ((L, .lst (List.replicate i (V.bl true))) :: M) H') (S.new nL) (fun _ _ _ _ => trivial) (fun i v H1 H' hi p y => ?_) (fun H' S1 => ?_)⟩
      · obtain ⟨rfl, c, hc, rfl⟩ := y
        refine ⟨rfl, c, _, rfl, rfl, _, p.hd, ?_, ?_⟩
        · rw [List.length_replicate]
          exact smallL (by have z : x.cps.size = x.length := rfl; omega)
        · have hm : decide (c ∈ ("abcdefghijklmnopqrstuvwxyz" : Str).cps.toList) = true := decide_eq_true (signs_in x hx c (by
            rw [Array.mem_toList_iff]
            exact Array.mem_of_getElem? hc))
          rw [hm, List.replicate_succ']
          exact p.set
      · refine ⟨L, List.replicate x.cps.size true, rfl, ?_, ?_⟩
        · rw [List.map_replicate]
          exact SqL.of S1.hd
        · have e : (List.replicate x.cps.size true).all id = true := by simp
          rw [e]
          exact q _ _ S1.frzS S1.frz
def spPart (K : PySem.W.Frag) : Sp := fun vs H Q _ => ∃ (G : Hp) (M : List (Addr × HO)) (v : V) (f : Fm), vs = [v] ∧ Sep G M H ∧ FmAt G v f ∧ f.ok ∧ ∀ G' H', Same G G' → Sep G' M H' → Q (.bl true) H'
theorem ok_is_part (T : Top K mg w) {k : Nat} (G_is_number : FnOk P w K mg base CX0 (k + 1) T.a_is_number T.d_is_number ["thing", "low", "high"] spNumberIn) (G_is_name : FnOk P w K mg base CX0 (k + 1) T.a_is_name T.d_is_name ["thing"] spName) :
    FnOk P w K mg base CX0 (k + 2) T.a_is_part T.d_is_part ["part"] (spPart K) := by
  refine T.F_is_part.ok sc_is_part (fun vs H Q E h => ?_) (fun cdv A outer s H vs Q E hr h => ?_)
  · obtain ⟨G, M, v, f, rfl, _⟩ := h
    rfl
  · obtain ⟨G, M, v, f, rfl, S, hf, ok, q⟩ := h
    refine ⟨_, (pss_cons (xs_if (PW.pt (xw_or (pt_not (xt_truK K (pe_callB (call_isK K) (by rfl) T.m_isinstance (by decide +kernel) (pa_cons (xv 0) (pa_cons (pe_bltn (v := .ty "tuple") (by rfl) T.m_tuple (by decide +kernel) rfl) pa_nil))))) (pw_or1 (xt_cmp (op_eqK K hr.units) (pe_callB (cr_lenK K) (by rfl) T.m_len (by decide +kernel) (pa_cons (xv 0) pa_nil)) pe_int (nomark _)))))
      (pss_one (ps_ret pe_bl))
      pss_nil)
      (pss_cons (xs_if (PW.pt (xw_or (pt_not (xt_truK K (pe_callB (call_isK K) (by rfl) T.m_isinstance (by decide +kernel) (pa_cons (pe_ix (ix_k K) (xv 0) pe_int (fun _ _ => rfl)) (pa_cons (pe_bltn (v := .ty "str") (by rfl) T.m_str (by decide +kernel) rfl) pa_nil))))) (pw_or1 (xt_cmp (op_notIn_kd ⟨T.l_COUNTS, T.q_COUNTS, T.w_COUNTS⟩) (pe_ix (ix_k K) (xv 0) pe_int (fun _ _ => rfl)) (pe_glob (v := .ref T.D_COUNTS) (by rfl) T.g_COUNTS rfl) (by rfl)))))
      (pss_one (ps_ret pe_bl))
      pss_nil)
      (pss_cons (xs_if (xt_cmp (op_neK K hr.units) (pe_callB (cr_lenK K) (by rfl) T.m_len (by decide +kernel) (pa_cons (xv 0) pa_nil)) (pe_ix ix_kdict (pe_glob (v := .ref T.D_COUNTS) (by rfl) T.g_COUNTS rfl) (pe_ix (ix_k K) (xv 0) pe_int (fun _ _ => rfl)) (fun _ _ => rfl)) (nomark _))
      (pss_one (ps_ret pe_bl))
      pss_nil)
      (pss_cons (xs_if (xt_cmp (op_eqK K hr.units) (pe_ix (ix_k K) (xv 0) pe_int (fun _ _ => rfl)) pe_str (nomark _))
      (pss_one (ps_ret (pe_call G_is_number (hr.mono (by omega)) (by rfl) T.g_is_number T.F_is_number.kp T.b_is_number .nil pass0 (pa_cons (pe_ix (ix_k K) (xv 0) pe_int (fun _ _ => rfl)) (pa_cons pe_int (pa_cons pe_int pa_nil))))))
      pss_nil)
      (pss_cons (xs_if (xt_cmp (op_eqK K hr.units) (pe_ix (ix_k K) (xv 0) pe_int (fun _ _ => rfl)) pe_str (nomark _))
      (pss_one (ps_ret (pe_call G_is_name (hr.mono (by omega)) (by rfl) T.g_is_name T.F_is_name.kp T.b_is_name .nil pass0 (pa_cons (pe_ix (ix_k K) (xv 0) pe_int (fun _ _ => rfl)) pa_nil))))
      pss_nil)
      (pss_one (ps_ret pe_bl))))))), ?_⟩
    have sr := Same.refl G
    cases hf with
    | is hp =>
      have h1 := SqT.of (K := K) (S.st hp)
      obtain ⟨t0, k0⟩ := T.k_COUNTS_0
      refine ⟨_, _, _, _, true, rfl, .ty _, .base (.tup (S.st hp)), kit_ty (by decide +kernel), ff, fun _ => ⟨_, .inr h1, fun e => (nomatch e), fun _ => ?_⟩⟩
      refine ⟨_, _, .inr h1, rfl, _, _, _, _, true, rfl, .ty _, .base (.str _), kit_ty (by decide +kernel), ff, fun _ => ⟨_, _, .inr h1, rfl, _, _, rfl, rfl, k0, ff, fun _ => ?_⟩⟩
      refine ⟨_, .inr h1, _, _, .inr h1, rfl, _, _, .int 2, rfl, rfl, ⟨_, _, _, T.l_COUNTS, T.q_COUNTS, k0, ⟨_, rfl⟩⟩, fun e => (nomatch e), fun _ => ?_⟩
      refine ⟨_, _, .inr h1, rfl, fun _ => ⟨_, _, .inr h1, rfl, _, _, _, rfl, ok.1, ok.2, q G H sr S⟩, we⟩
    | get hp =>
      have h1 := SqT.of (K := K) (S.st hp)
      obtain ⟨t0, k0⟩ := T.k_COUNTS_1
      refine ⟨_, _, _, _, true, rfl, .ty _, .base (.tup (S.st hp)), kit_ty (by decide +kernel), ff, fun _ => ⟨_, .inr h1, fun e => (nomatch e), fun _ => ?_⟩⟩
      refine ⟨_, _, .inr h1, rfl, _, _, _, _, true, rfl, .ty _, .base (.str _), kit_ty (by decide +kernel), ff, fun _ => ⟨_, _, .inr h1, rfl, _, _, rfl, rfl, k0, ff, fun _ => ?_⟩⟩
      refine ⟨_, .inr h1, _, _, .inr h1, rfl, _, _, .int 2, rfl, rfl, ⟨_, _, _, T.l_COUNTS, T.q_COUNTS, k0, ⟨_, rfl⟩⟩, fun e => (nomatch e), fun _ => ?_⟩
      refine ⟨_, _, .inr h1, rfl, fun e => wd e, fun _ => ⟨_, _, .inr h1, rfl, fun _ => ⟨_, _, .inr h1, rfl, G, M, _, rfl, S, ok, q⟩, we⟩⟩
    | sum hp h2 h3 =>
      have h1 := SqT.of (K := K) (S.st hp)
      obtain ⟨t0, k0⟩ := T.k_COUNTS_2
      refine ⟨_, _, _, _, true, rfl, .ty _, .base (.tup (S.st hp)), kit_ty (by decide +kernel), ff, fun _ => ⟨_, .inr h1, fun e => (nomatch e), fun _ => ?_⟩⟩
      refine ⟨_, _, .inr h1, rfl, _, _, _, _, true, rfl, .ty _, .base (.str _), kit_ty (by decide +kernel), ff, fun _ => ⟨_, _, .inr h1, rfl, _, _, rfl, rfl, k0, ff, fun _ => ?_⟩⟩
      refine ⟨_, .inr h1, _, _, .inr h1, rfl, _, _, .int 3, rfl, rfl, ⟨_, _, _, T.l_COUNTS, T.q_COUNTS, k0, ⟨_, rfl⟩⟩, fun e => (nomatch e), fun _ => ?_⟩
      refine ⟨_, _, .inr h1, rfl, fun e => wd e, fun _ => ⟨_, _, .inr h1, rfl, fun e => wd e, fun _ => q G H sr S⟩⟩
    | same hp h2 h3 =>
      have h1 := SqT.of (K := K) (S.st hp)
      obtain ⟨t0, k0⟩ := T.k_COUNTS_3
      refine ⟨_, _, _, _, true, rfl, .ty _, .base (.tup (S.st hp)), kit_ty (by decide +kernel), ff, fun _ => ⟨_, .inr h1, fun e => (nomatch e), fun _ => ?_⟩⟩
      refine ⟨_, _, .inr h1, rfl, _, _, _, _, true, rfl, .ty _, .base (.str _), kit_ty (by decide +kernel), ff, fun _ => ⟨_, _, .inr h1, rfl, _, _, rfl, rfl, k0, ff, fun _ => ?_⟩⟩
      refine ⟨_, .inr h1, _, _, .inr h1, rfl, _, _, .int 3, rfl, rfl, ⟨_, _, _, T.l_COUNTS, T.q_COUNTS, k0, ⟨_, rfl⟩⟩, fun e => (nomatch e), fun _ => ?_⟩
      refine ⟨_, _, .inr h1, rfl, fun e => wd e, fun _ => ⟨_, _, .inr h1, rfl, fun e => wd e, fun _ => q G H sr S⟩⟩
    | pick hp h2 h3 h4 =>
      have h1 := SqT.of (K := K) (S.st hp)
      obtain ⟨t0, k0⟩ := T.k_COUNTS_4
      refine ⟨_, _, _, _, true, rfl, .ty _, .base (.tup (S.st hp)), kit_ty (by decide +kernel), ff, fun _ => ⟨_, .inr h1, fun e => (nomatch e), fun _ => ?_⟩⟩
      refine ⟨_, _, .inr h1, rfl, _, _, _, _, true, rfl, .ty _, .base (.str _), kit_ty (by decide +kernel), ff, fun _ => ⟨_, _, .inr h1, rfl, _, _, rfl, rfl, k0, ff, fun _ => ?_⟩⟩
      refine ⟨_, .inr h1, _, _, .inr h1, rfl, _, _, .int 4, rfl, rfl, ⟨_, _, _, T.l_COUNTS, T.q_COUNTS, k0, ⟨_, rfl⟩⟩, fun e => (nomatch e), fun _ => ?_⟩
      refine ⟨_, _, .inr h1, rfl, fun e => wd e, fun _ => ⟨_, _, .inr h1, rfl, fun e => wd e, fun _ => q G H sr S⟩⟩

end
end K28
set_option Elab.async false
set_option linter.all false
set_option maxRecDepth 100000
set_option maxHeartbeats 4000000
namespace K28
open PySem PySem.Spec PyProof.Rows L2 XL
section
variable {P : Program} {w : World} {K : PySem.W.Frag} {mg : Str → Option Value} {base : Heap}
/-- a promise that asks what cannot be -/
theorem fn_false {f : Addr} {fd : FuncData} {ps : List Str} {sp : Sp} {k : Nat} (h : ∀ vs H Q E, ¬ sp vs H Q E) : FnOk P w K mg base CX0 k f fd ps sp :=
  ⟨fun vs H Q E z => absurd z (h vs H Q E), fun A outer s H args us vs Q E _ _ _ _ z => absurd z (h vs H Q E)⟩
def spValue (d : Nat) : Sp := fun vs H Q _ => ∃ (G : Hp) (M : List (Addr × HO)) (v : V) (f : Fm) (e : Addr) (i j : Int), vs = [v, .ref e] ∧ Sep G M H ∧ FmAt G v f ∧ f.ok ∧ f.dep ≤ d ∧ H e = some (.dK (env2 i j)) ∧ Q (.int (f.val i j)) H
theorem ok_value_of (T : Top K mg w) : ∀ d : Nat, FnOk P w K mg base CX0 (d + 1) T.a_value_of T.d_value_of ["parts", "values"] (spValue d)
  | 0 => fn_false fun vs H Q E h => by
    obtain ⟨G, M, v, f, e, i, j, _, _, _, _, hd, _⟩ := h
    have := f.dep_pos
    omega
  | d + 1 => by
    have G_value_of := ok_value_of T d
    refine T.F_value_of.ok sc_value_of (fun vs H Q E h => ?_) (fun cdv A outer s H vs Q E hr h => ?_)
    · obtain ⟨G, M, v, f, e, i, j, rfl, _⟩ := h
      rfl
    · obtain ⟨G, M, v, f, e, i, j, rfl, S, hf, ok, hd, he, q⟩ := h
      refine ⟨_, (pss_cons (xs_if (xt_cmp (op_eqK K hr.units) (pe_ix (ix_k K) (xv 0) pe_int (fun _ _ => rfl)) pe_str (nomark _))
      (pss_one (ps_ret (pe_ix (ix_k K) (xv 0) pe_int (fun _ _ => rfl))))
      pss_nil)
      (pss_cons (xs_if (xt_cmp (op_eqK K hr.units) (pe_ix (ix_k K) (xv 0) pe_int (fun _ _ => rfl)) pe_str (nomark _))
      (pss_cons (xs_if (pt_cmp (pc_dnotin (hu_of hr) (pe_ix (ix_k K) (xv 0) pe_int (fun _ _ => rfl)) (xv 1)))
      (pss_one ps_never)
      pss_nil)
      (pss_one (ps_ret (pe_dget (hu_of hr) (xv 1) (pe_ix (ix_k K) (xv 0) pe_int (fun _ _ => rfl)) (fun _ _ => rfl)))))
      pss_nil)
      (pss_cons (xs_if (xt_cmp (op_eqK K hr.units) (pe_ix (ix_k K) (xv 0) pe_int (fun _ _ => rfl)) pe_str (nomark _))
      (pss_cons (xs_if (xt_cmp (op_neK K hr.units) (pe_call G_value_of (hr.mono (by omega)) (by rfl) T.g_value_of T.F_value_of.kp T.b_value_of .nil pass0 (pa_cons (pe_ix (ix_k K) (xv 0) pe_int (fun _ _ => rfl)) (pa_cons (xv 1) pa_nil))) pe_int (nomark _))
      (pss_one (ps_ret (pe_call G_value_of (hr.mono (by omega)) (by rfl) T.g_value_of T.F_value_of.kp T.b_value_of .nil pass0 (pa_cons (pe_ix (ix_k K) (xv 0) pe_int (fun _ _ => rfl)) (pa_cons (xv 1) pa_nil)))))
      pss_nil)
      (pss_one (ps_ret (pe_call G_value_of (hr.mono (by omega)) (by rfl) T.g_value_of T.F_value_of.kp T.b_value_of .nil pass0 (pa_cons (pe_ix (ix_k K) (xv 0) pe_int (fun _ _ => rfl)) (pa_cons (xv 1) pa_nil))))))
      pss_nil)
      (pss_cons (ps_set (i := 2) sc_value_of.nd rfl (.inl rfl) (pe_call G_value_of (hr.mono (by omega)) (by rfl) T.g_value_of T.F_value_of.kp T.b_value_of .nil pass0 (pa_cons (pe_ix (ix_k K) (xv 0) pe_int (fun _ _ => rfl)) (pa_cons (xv 1) pa_nil))))
      (pss_cons (ps_set (i := 3) sc_value_of.nd rfl (.inl rfl) (pe_call G_value_of (hr.mono (by omega)) (by rfl) T.g_value_of T.F_value_of.kp T.b_value_of .nil pass0 (pa_cons (pe_ix (ix_k K) (xv 0) pe_int (fun _ _ => rfl)) (pa_cons (xv 1) pa_nil))))
      (pss_cons (xs_if (xt_cmp (op_eqK K hr.units) (pe_ix (ix_k K) (xv 0) pe_int (fun _ _ => rfl)) pe_str (nomark _))
      (pss_one (ps_ret (pe_op op_modY (pe_op op_addY (xv 2) (xv 3)) pe_int)))
      pss_nil)
      (pss_cons (xs_if (xt_cmp (op_eqK K hr.units) (xv 2) (xv 3) (nomark _))
      (pss_one (ps_ret pe_int))
      pss_nil)
      (pss_one (ps_ret pe_int))))))))), ?_⟩
      cases hf with
      | is hp =>
        have h1 := SqT.of (K := K) (S.st hp)
        exact ⟨_, _, .inr h1, rfl, fun _ => ⟨_, _, .inr h1, rfl, q⟩, we⟩
      | @get p x hp =>
        have h1 := SqT.of (K := K) (S.st hp)
        have hg : DGet H e (.str x) (some (.int (if x = "item" then i else j))) := by
          rw [← env_get i j ok]
          exact DGet.k (k := Sum.inr x) he
        exact ⟨_, _, .inr h1, rfl, fun e => wd e, fun _ => ⟨_, _, .inr h1, rfl, fun _ => ⟨_, _, .inr h1, rfl, e, _, rfl, hg, false, rfl, ff, fun _ => ⟨_, _, .inr h1, rfl, e, _, rfl, hg, q⟩⟩, we⟩⟩
      | sum hp h2 h3 =>
        have h1 := SqT.of (K := K) (S.st hp)
        have e1 : (Fm.sum _ _).dep ≤ d + 1 := hd
        simp only [Fm.dep] at e1
        refine ⟨_, _, .inr h1, rfl, fun e => wd e, fun _ => ⟨_, _, .inr h1, rfl, fun e => wd e, fun _ => ⟨_, _, .inr h1, rfl, fun e => wd e, fun _ => ?_⟩⟩⟩
        refine ⟨_, _, .inr h1, rfl, G, M, _, _, e, i, j, rfl, S, h2, ok.1, by omega, he, ?_⟩
        refine ⟨_, _, .inr h1, rfl, G, M, _, _, e, i, j, rfl, S, h3, ok.2, by omega, he, ?_⟩
        exact ⟨_, _, .inr h1, rfl, fun _ => ⟨by decide, fun r hr _ _ => hr ▸ q⟩, we⟩
      | same hp h2 h3 =>
        have h1 := SqT.of (K := K) (S.st hp)
        have e1 : (Fm.same _ _).dep ≤ d + 1 := hd
        simp only [Fm.dep] at e1
        refine ⟨_, _, .inr h1, rfl, fun e => wd e, fun _ => ⟨_, _, .inr h1, rfl, fun e => wd e, fun _ => ⟨_, _, .inr h1, rfl, fun e => wd e, fun _ => ?_⟩⟩⟩
        refine ⟨_, _, .inr h1, rfl, G, M, _, _, e, i, j, rfl, S, h2, ok.1, by omega, he, ?_⟩
        refine ⟨_, _, .inr h1, rfl, G, M, _, _, e, i, j, rfl, S, h3, ok.2, by omega, he, ?_⟩
        refine ⟨_, _, .inr h1, rfl, fun e => wd e, fun _ => ⟨fun e => ?_, fun e => ?_⟩⟩
        · simp only [Fm.val] at q
          rw [if_pos (of_decide_eq_true e)] at q
          exact q
        · simp only [Fm.val] at q
          rw [if_neg (of_decide_eq_false e)] at q
          exact q
      | pick hp h2 h3 h4 =>
        have h1 := SqT.of (K := K) (S.st hp)
        have e1 : (Fm.pick _ _ _).dep ≤ d + 1 := hd
        simp only [Fm.dep] at e1
        refine ⟨_, _, .inr h1, rfl, fun e => wd e, fun _ => ⟨_, _, .inr h1, rfl, fun e => wd e, fun _ => ⟨_, _, .inr h1, rfl, fun _ => ?_, we⟩⟩⟩
        refine ⟨_, _, .inr h1, rfl, G, M, _, _, e, i, j, rfl, S, h2, ok.1, by omega, he, fun e2 => ?_, fun e2 => ?_⟩
        · refine ⟨_, _, .inr h1, rfl, G, M, _, _, e, i, j, rfl, S, h3, ok.2.1, by omega, he, ?_⟩
          simp only [Fm.val] at q
          rw [if_neg (by simpa using e2)] at q
          exact q
        · refine ⟨_, _, .inr h1, rfl, G, M, _, _, e, i, j, rfl, S, h4, ok.2.2, by omega, he, ?_⟩
          simp only [Fm.val] at q
          rw [if_pos (by simpa using e2)] at q
          exact q
/-- the children of a form that is no leaf -/
def Kid (G : Hp) (n : Nat) (v : V) (c : Fm) : Prop := FmAt G v c ∧ c.ok ∧ c.dep < n
def sizes : List Fm → Nat
  | [] => 0
  | c :: r => c.size + sizes r
theorem FmAt.kids {G : Hp} {v : V} {f : Fm} (h : FmAt G v f) (ok : f.ok) : (∃ p n, v = .ref p ∧ G p = some (.tup [.str "is", .int n]) ∧ f = .is n) ∨ (∃ p x, v = .ref p ∧ G p = some (.tup [.str "get", .str x]) ∧ f = .get x) ∨
    ∃ (p : Addr) (u : Str) (vs : List V) (cs : List Fm), v = .ref p ∧ G p = some (.tup (.str u :: vs)) ∧ Paired (Kid G f.dep) vs cs ∧ decide (u = "is") = false ∧ decide (u = "get") = false ∧ sizes cs + 1 = f.size ∧ 1 ≤ vs.length ∧ vs.length ≤ 3 := by
  cases h with
  | is h => exact .inl ⟨_, _, rfl, h, rfl⟩
  | get h => exact .inr (.inl ⟨_, _, rfl, h, rfl⟩)
  | @sum p v1 v2 a b h h1 h2 =>
    refine .inr (.inr ⟨p, "sum", [v1, v2], [a, b], rfl, h, .cons ⟨h1, ok.1, ?_⟩ (.cons ⟨h2, ok.2, ?_⟩ .nil), by decide +kernel, by decide +kernel, ?_, by simp, by simp⟩)
    · simp only [Fm.dep]; omega
    · simp only [Fm.dep]; omega
    · simp only [sizes, Fm.size]; omega
  | @same p v1 v2 a b h h1 h2 =>
    refine .inr (.inr ⟨p, "same", [v1, v2], [a, b], rfl, h, .cons ⟨h1, ok.1, ?_⟩ (.cons ⟨h2, ok.2, ?_⟩ .nil), by decide +kernel, by decide +kernel, ?_, by simp, by simp⟩)
    · simp only [Fm.dep]; omega
    · simp only [Fm.dep]; omega
    · simp only [sizes, Fm.size]; omega
  | @pick p v1 v2 v3 a b c h h1 h2 h3 =>
    refine .inr (.inr ⟨p, "pick", [v1, v2, v3], [a, b, c], rfl, h, .cons ⟨h1, ok.1, ?_⟩ (.cons ⟨h2, ok.2.1, ?_⟩ (.cons ⟨h3, ok.2.2, ?_⟩ .nil)), by decide +kernel, by decide +kernel, ?_, by simp, by simp⟩)
    · simp only [Fm.dep]; omega
    · simp only [Fm.dep]; omega
    · simp only [Fm.dep]; omega
    · simp only [sizes, Fm.size]; omega
theorem Kid.same {G G' : Hp} (e : Same G G') {n : Nat} {v : V} {c : Fm} (h : Kid G n v c) : Kid G' n v c := ⟨h.1.same' e, h.2⟩
theorem Fm.size_le (f : Fm) : f.size + 1 ≤ 3 ^ f.dep * 2 := by
  induction f with
  | is n => simp [Fm.size, Fm.dep]
  | get x => simp [Fm.size, Fm.dep]
  | sum a b ha hb =>
    simp only [Fm.size, Fm.dep]
    have h1 : 3 ^ a.dep ≤ 3 ^ max a.dep b.dep := Nat.pow_le_pow_right (by decide) (Nat.le_max_left _ _)
    have h2 : 3 ^ b.dep ≤ 3 ^ max a.dep b.dep := Nat.pow_le_pow_right (by decide) (Nat.le_max_right _ _)
    have h3 : 3 ^ (max a.dep b.dep + 1) = 3 ^ max a.dep b.dep * 3 := Nat.pow_succ ..
    omega
  | same a b ha hb =>
    simp only [Fm.size, Fm.dep]
    have h1 : 3 ^ a.dep ≤ 3 ^ max a.dep b.dep := Nat.pow_le_pow_right (by decide) (Nat.le_max_left _ _)
    have h2 : 3 ^ b.dep ≤ 3 ^ max a.dep b.dep := Nat.pow_le_pow_right (by decide) (Nat.le_max_right _ _)
    have h3 : 3 ^ (max a.dep b.dep + 1) = 3 ^ max a.dep b.dep * 3 := Nat.pow_succ ..
    omega
  | pick a b c ha hb hc =>
    simp only [Fm.size, Fm.dep]
    have h1 : 3 ^ a.dep ≤ 3 ^ max a.dep (max b.dep c.dep) := Nat.pow_le_pow_right (by decide) (Nat.le_max_left _ _)
    have h2 : 3 ^ b.dep ≤ 3 ^ max a.dep (max b.dep c.dep) := Nat.pow_le_pow_right (by decide) (by omega)
    have h2' : 3 ^ c.dep ≤ 3 ^ max a.dep (max b.dep c.dep) := Nat.pow_le_pow_right (by decide) (by omega)
    have h3 : 3 ^ (max a.dep (max b.dep c.dep) + 1) = 3 ^ max a.dep (max b.dep c.dep) * 3 := Nat.pow_succ ..
    omega
theorem Fm.size5 {f : Fm} (h : f.dep ≤ 5) : f.size ≤ 485 := by
  have h1 := f.size_le
  have h2 : 3 ^ f.dep ≤ 3 ^ 5 := Nat.pow_le_pow_right (by decide) h
  have h3 : 3 ^ 5 = 243 := rfl
  omega
/-! ### the names in a form -/
def Nms (xs : List V) : Prop := ∀ x ∈ xs, x = .str "item" ∨ x = .str "at"
theorem inV_str {x : Str} {xs : List V} (h : Nms xs) : inV (.str x) xs = decide (V.str x ∈ xs) := by
  unfold inV
  induction xs with
  | nil => rfl
  | cons y r ih =>
    rw [List.any_cons, ih fun z hz => h z (List.mem_cons_of_mem _ hz)]
    obtain ⟨z, rfl⟩ : ∃ z, y = .str z := by rcases h y List.mem_cons_self with h | h <;> exact ⟨_, h⟩
    show ((z == x) || decide (V.str x ∈ r)) = decide (V.str x ∈ V.str z :: r)
    by_cases e : x = z
    · subst e
      simp
    · have e2 : ¬ z = x := fun q => e q.symm
      simp [e, e2]
theorem nms_flat {xs : List V} (h : Nms xs) : xs.all flatV = true := by
  rw [List.all_eq_true]
  intro x hx
  rcases h x hx with rfl | rfl <;> rfl
theorem nms_len {xs : List V} (h : Nms xs) (nd : xs.Nodup) : xs.length ≤ 2 := by
  match xs, h, nd with
  | [], _, _ => simp
  | [_], _, _ => simp
  | [_, _], _, _ => simp
  | a :: b :: c :: r, h, nd =>
    exfalso
    simp only [List.nodup_cons, List.mem_cons, not_or] at nd
    obtain ⟨⟨h1, h2, _⟩, ⟨h3, _⟩, _⟩ := nd
    rcases h a (by simp) with rfl | rfl <;> rcases h b (by simp) with rfl | rfl <;> rcases h c (by simp) with rfl | rfl <;> first | exact h1 rfl | exact h2 rfl | exact h3 rfl
def spNames (d : Nat) : Sp := fun vs H Q _ => ∃ (G : Hp) (M : List (Addr × HO)) (v : V) (f : Fm), vs = [v] ∧ Sep G M H ∧ FmAt G v f ∧ f.ok ∧ f.dep ≤ d ∧
  ∀ (p : Addr) (xs : List V) (G' H' : Hp), Same G G' → Sep G' M H' → G' p = some (.tup xs) → Nms xs → xs.length ≤ 2 → Q (.ref p) H'
theorem cut_tl (x : V) (vs : List V) : cutV (x :: vs) (some 1) none = vs := by
  unfold cutV
  rw [show HT.sIx (x :: vs).length 0 (some 1) = min 1 (x :: vs).length from HT.sIx_nat _ 0 1, HT.sIx_none]
  rw [show min 1 (x :: vs).length = 1 by rw [List.length_cons]; omega]
  show (List.take ((x :: vs).length - 1) vs) = vs
  rw [List.length_cons, Nat.add_sub_cancel, List.take_length]
theorem ok_names_of (T : Top K mg w) : ∀ d : Nat, FnOk P w K mg base CX0 (d + 1) T.a_names_of T.d_names_of ["parts"] (spNames d)
  | 0 => fn_false fun vs H Q E h => by
    obtain ⟨G, M, v, f, _, _, _, _, hd, _⟩ := h
    have := f.dep_pos
    omega
  | d + 1 => by
    have G_names_of := ok_names_of T d
    refine T.F_names_of.ok sc_names_of (fun vs H Q E h => ?_) (fun cdv A outer s H vs Q E hr h => ?_)
    · obtain ⟨G, M, v, f, rfl, _⟩ := h
      rfl
    · obtain ⟨G, M, v, f, rfl, S, hf, ok, hd, q⟩ := h
      refine ⟨_, (pss_cons (xs_if (xt_cmp (op_eqK K hr.units) (pe_ix (ix_k K) (xv 0) pe_int (fun _ _ => rfl)) pe_str (nomark _))
      (pss_one (ps_ret (pe_tup pa_nil)))
      pss_nil)
      (pss_cons (xs_if (xt_cmp (op_eqK K hr.units) (pe_ix (ix_k K) (xv 0) pe_int (fun _ _ => rfl)) pe_str (nomark _))
      (pss_one (ps_ret (pe_tup (pa_cons (pe_ix (ix_k K) (xv 0) pe_int (fun _ _ => rfl)) pa_nil))))
      pss_nil)
      (pss_cons (ps_set (i := 1) sc_names_of.nd rfl (.inl rfl) (pe_lst pa_nil))
      (pss_cons (ps_for PassesOwn.never rfl (pi_tupK K (pe_slice sl_tup (xv 0) (po_some pe_int) po_none)) (pg_name (i := 2) sc_names_of.nd rfl (.inl rfl))
      (pss_one (ps_for PassesOwn.never rfl (pi_tupK K (pe_call G_names_of (hr.mono (by omega)) (by rfl) T.g_names_of T.F_names_of.kp T.b_names_of .nil pass0 (pa_cons (xv 2) pa_nil))) (pg_name (i := 3) sc_names_of.nd rfl (.inl rfl))
      (pss_one (xs_if (xt_cmp (notin_seqK K) (xv 3) (xv 1) (by rfl))
      (pss_one (ps_expr (pe_bmK K PySem.F.plainAttrs_list PySem.F.slot_list_append PySem.F.type_list_append mt_append (xv 1) (pa_cons (xv 3) pa_nil))))
      pss_nil)))))
      (pss_one (ps_ret (pe_callTy (call_tupleK K) (by rfl) T.m_tuple (by decide +kernel) (pa_cons (xv 1) pa_nil)))))))), ?_⟩
      rcases hf.kids ok with ⟨p, n, rfl, hp, rfl⟩ | ⟨p, x, rfl, hp, rfl⟩ | ⟨p, u, vs, cs, rfl, hp, hk, u1, u2, _, v1, v3⟩
      · have h1 := SqT.of (K := K) (S.st hp)
        exact ⟨_, _, .inr h1, rfl, fun _ => ⟨sz, fun t nt => q t [] _ _ (S.grow nt) (S.newG nt) upd_same (fun _ h => nomatch h) (by decide)⟩, we⟩
      · have h1 := SqT.of (K := K) (S.st hp)
        refine ⟨_, _, .inr h1, rfl, fun e => wd e, fun _ => ⟨_, _, .inr h1, rfl, fun _ => ⟨_, _, .inr h1, rfl, sz, fun t nt => q t [.str x] _ _ (S.grow nt) (S.newG nt) upd_same (fun y h => ?_) (by simp)⟩, we⟩⟩
        rw [List.mem_singleton.mp h]
        rcases ok with rfl | rfl
        · exact .inl rfl
        · exact .inr rfl
      · have h1 := SqT.of (K := K) (S.st hp)
        refine ⟨_, .str u, .inr h1, at0, fun e => wd e u1, fun _ => ⟨_, .str u, .inr h1, at0, fun e => wd e u2, fun _ => ?_⟩⟩
        refine ⟨sz, fun L nL => ?_⟩
        have S1 := S.new (o := .lst []) nL
        refine ⟨1, rfl, p, _, rfl, SqT.of (S1.st hp), ?_, fun t nt => ?_⟩
        · rintro ⟨z, _⟩
          rw [show HT.sIx (V.str u :: vs).length 0 (some 1) = min 1 (V.str u :: vs).length from HT.sIx_nat _ 0 1, List.length_cons] at z
          omega
        · rw [cut_tl] at *
          have S2 := S1.newG (o := .tup vs) nt
          have s2 := S1.grow (o := .tup vs) nt
          refine ⟨t, rfl, ⟨vs, SqT.of (S2.st upd_same)⟩, for_tup (xs := vs) (fun i σ H' => ∃ (y2 y3 : Option V) (G' : Hp) (xs : List V), σ = [some (.ref p), some (.ref L), y2, y3] ∧ Same (upd G t (.tup vs)) G' ∧ Sep G' ((L, .lst xs) :: M) H' ∧ Nms xs ∧ xs.Nodup)
            ⟨_, _, _, [], rfl, Same.refl _, S2, (fun _ h => nomatch h), List.nodup_nil⟩ (fun i σ H' _ h => ?_) (fun i x σ H' hx h => ?_) (fun σ H' h => ?_)⟩
          · obtain ⟨_, _, G', _, _, s3, S3, _⟩ := h
            exact SqT.of (S3.st (s3 _ _ upd_same))
          · obtain ⟨y2, y3, G', xs, rfl, s3, S3, nm, nd⟩ := h
            obtain ⟨c, _, hc, okc, dc⟩ := prd_get hk hx
            refine ⟨G', _, _, c, rfl, S3, hc.same' (s2.trans s3), okc, by omega, fun r ns G2 H2 s4 S4 hr nms nl => ?_⟩
            refine ⟨r, rfl, ⟨ns, SqT.of (S4.st hr)⟩, for_tup (xs := ns) (fun i σ H' => ∃ (y3 : Option V) (xs : List V), σ = [some (.ref p), some (.ref L), some x, y3] ∧ Sep G2 ((L, .lst xs) :: M) H' ∧ Nms xs ∧ xs.Nodup)
              ⟨_, xs, rfl, S4, nm, nd⟩ (fun i σ H' _ h => ?_) (fun i y σ H' hy h => ?_) (fun σ H' h => ?_)⟩
            · obtain ⟨_, _, _, S5, _⟩ := h
              exact SqT.of (S5.st hr)
            · obtain ⟨y3, xs, rfl, S5, nm, nd⟩ := h
              have hm : y = .str "item" ∨ y = .str "at" := nms y (List.mem_of_getElem? hy)
              obtain ⟨z, rfl⟩ : ∃ z, y = .str z := by rcases hm with h | h <;> exact ⟨_, h⟩
              have hz := nms_len nm nd
              refine ⟨L, xs, rfl, .inl (SqL.of S5.hd), rfl, nms_flat nm, fun e => ?_, fun e => ?_⟩
              · have hn : V.str z ∉ xs := by
                  have e2 : (!inV (.str z) xs) = true := e
                  rw [inV_str nm] at e2
                  simpa using e2
                refine ⟨.inl ⟨rfl, _, SqL.of S5.hd⟩, L, xs, _, rfl, rfl, S5.hd, smallL (by omega), ?_⟩
                refine ⟨_, xs ++ [.str z], rfl, S5.set, fun a ha => ?_, ?_⟩
                · rcases List.mem_append.mp ha with ha | ha
                  · exact nm a ha
                  · rw [List.mem_singleton.mp ha]
                    exact hm
                · rw [List.nodup_append]
                  refine ⟨nd, by simp, fun a ha b hb => ?_⟩
                  rw [List.mem_singleton.mp hb]
                  rintro rfl
                  exact hn ha
              · exact ⟨_, xs, rfl, S5, nm, nd⟩
            · obtain ⟨y3, xs, rfl, S5, nm, nd⟩ := h
              exact ⟨_, _, G2, xs, rfl, s3.trans s4, S5, nm, nd⟩
          · obtain ⟨y2, y3, G', xs, rfl, s3, S3, nm, nd⟩ := h
            have hz := nms_len nm nd
            refine ⟨L, xs, rfl, .inl ⟨SqL.of S3.hd, fun r nr => ?_⟩⟩
            have S4 := S3.frz
            exact q r xs _ _ ((s2.trans s3).trans (S3.frzS.trans (S4.grow nr))) (S4.newG nr) upd_same nm hz

end
end K28
set_option Elab.async false
set_option linter.all false
set_option maxRecDepth 100000
set_option maxHeartbeats 4000000
namespace K28
open PySem PySem.Spec PyProof.Rows L2 XL
section
variable {P : Program} {w : World} {K : PySem.W.Frag} {mg : Str → Option Value} {base : Heap}
/-! ### check_form -/
def Wt (G : Hp) (v : V) (c : Fm × Int) : Prop := ∃ (t : Addr) (u : V), v = .ref t ∧ G t = some (.tup [u, .int c.2]) ∧ FmAt G u c.1 ∧ c.1.ok ∧ c.2 + c.1.dep ≤ 6
theorem Wt.same {G G' : Hp} (e : Same G G') {v : V} {c : Fm × Int} (h : Wt G v c) : Wt G' v c := by
  obtain ⟨t, u, h1, h2, h3, h4⟩ := h
  exact ⟨t, u, h1, e _ _ h2, h3.same' e, h4⟩
def wsz : List (Fm × Int) → Nat
  | [] => 0
  | c :: r => c.1.size + wsz r
theorem wsz_app : ∀ (a b : List (Fm × Int)), wsz (a ++ b) = wsz a + wsz b
  | [], b => by simp [wsz]
  | c :: r, b => by simp only [List.cons_append, wsz, wsz_app r b]; omega
theorem wsz_len : ∀ (a : List (Fm × Int)), a.length ≤ wsz a
  | [] => by simp
  | c :: r => by
    have h1 := wsz_len r
    have h2 := c.1.size_pos
    simp only [List.length_cons, wsz]
    omega
theorem sizes_rev : ∀ (cs : List Fm) (l : Int), wsz (cs.reverse.map fun c => (c, l)) = sizes cs
  | [], _ => rfl
  | c :: r, l => by
    rw [List.reverse_cons, List.map_append, wsz_app, sizes_rev r l]
    simp only [List.map_cons, List.map_nil, wsz, sizes]
    omega
def spCheck : Sp := fun vs H Q _ => ∃ (G : Hp) (M : List (Addr × HO)) (v : V) (f : Fm), vs = [v] ∧ Sep G M H ∧ FmAt G v f ∧ f.ok ∧ f.dep ≤ 5 ∧ ∀ G' H', Same G G' → Sep G' M H' → Q .non H'
theorem ok_check_form (T : Top K mg w) {k : Nat} (G_is_part : FnOk P w K mg base CX0 k T.a_is_part T.d_is_part ["part"] (spPart K)) :
    FnOk P w K mg base CX0 (k + 1) T.a_check_form T.d_check_form ["parts"] spCheck := by
  refine T.F_check_form.ok sc_check_form (fun vs H Q E h => ?_) (fun cdv A outer s H vs Q E hr h => ?_)
  · obtain ⟨G, M, v, f, rfl, _⟩ := h
    rfl
  · obtain ⟨G, M, v, f, rfl, S, hf, ok, hd, q⟩ := h
    refine ⟨_, (pss_cons (ps_set (i := 1) sc_check_form.nd rfl (.inl rfl) (pe_lst (pa_cons (pe_tup (pa_cons (xv 0) (pa_cons pe_int pa_nil))) pa_nil)))
      (pss_cons (ps_set (i := 2) sc_check_form.nd rfl (.inl rfl) pe_int)
      (pss_cons (xs_while PassesOwn.never (xt_truK K (xv 1))
      (pss_cons (ps_asg (pe_bm0 PySem.F.plainAttrs_list PySem.F.slot_list_pop PySem.F.type_list_pop mt_pop (xv 1)) (pg_tupK K 2 (pgs_cons (pg_name (i := 3) sc_check_form.nd rfl (.inl rfl)) (pgs_cons (pg_name (i := 4) sc_check_form.nd rfl (.inl rfl)) pgs_nil))))
      (pss_cons (xs_if (pt_not (xt_truK K (pe_call G_is_part (hr.mono (by omega)) (by rfl) T.g_is_part T.F_is_part.kp T.b_is_part .nil pass0 (pa_cons (xv 3) pa_nil))))
      (pss_one ps_never)
      pss_nil)
      (xss_cut (xs_if (xt_cmp op_gtY (xv 4) (xv 2) (nomark _))
      (pss_one (ps_set (i := 2) sc_check_form.nd rfl (.inl rfl) (xv 4)))
      pss_nil)
      (pss_one (xs_if (PW.pt (xw_and (xt_cmp (op_neK K hr.units) (pe_ix (ix_k K) (xv 3) pe_int (fun _ _ => rfl)) pe_str (nomark _)) (pw_and1 (xt_cmp (op_neK K hr.units) (pe_ix (ix_k K) (xv 3) pe_int (fun _ _ => rfl)) pe_str (nomark _)))))
      (pss_one (ps_for PassesOwn.never rfl (pi_range3 (by rfl) T.m_range (pa_cons (pe_op op_subY (pe_callB (cr_lenK K) (by rfl) T.m_len (by decide +kernel) (pa_cons (xv 3) pa_nil)) pe_int) (pa_cons pe_int (pa_cons (pe_un un_neg pe_int) pa_nil)))) (pg_name (i := 5) sc_check_form.nd rfl (.inl rfl))
      (pss_one (ps_expr (pe_bmK K PySem.F.plainAttrs_list PySem.F.slot_list_append PySem.F.type_list_append mt_append (xv 1) (pa_cons (pe_tup (pa_cons (pe_ix (ix_k K) (xv 3) (xv 5) (fun _ _ => rfl)) (pa_cons (pe_op op_addY (xv 4) pe_int) pa_nil))) pa_nil))))))
      pss_nil))))))
      (pss_one (xs_if (xt_cmp op_gtY (xv 2) (xe_globI (by rfl) T.v_MOST_LEVELS) (nomark _))
      (pss_one ps_never)
      pss_nil))))), ?_⟩
    refine ⟨sz, fun t nt => ⟨sz, fun L nL => ?_⟩⟩
    have S1 := S.newG (o := .tup [v, .int 1]) nt
    have s1 := S.grow (o := .tup [v, .int 1]) nt
    have S2 := S1.new (o := .lst [.ref t]) nL
    refine ⟨fun m σ H' => ∃ (y3 y4 y5 : Option V) (ds : Int) (G' : Hp) (ws : List V) (cs : List (Fm × Int)), σ = [some v, some (.ref L), some (.int ds), y3, y4, y5] ∧ Same G G' ∧ Sep G' ((L, .lst ws) :: M) H' ∧ Paired (Wt G') ws cs ∧ ds ≤ 5 ∧ m = wsz cs ∧ m ≤ 485,
      ⟨f.size, _, _, _, 1, _, [.ref t], [(f, 1)], rfl, s1, S2, .cons ⟨t, v, rfl, upd_same, hf.same' s1, ok, by show (1 : Int) + f.dep ≤ 6; omega⟩ .nil, by decide, by simp [wsz], Fm.size5 hd⟩, fun m σ H' h => ?_⟩
    obtain ⟨y3, y4, y5, ds, G', ws, cs, rfl, s3, S3, hw, hds, rfl, hm⟩ := h
    refine ⟨!ws.isEmpty, .inl ⟨ws, SqL.of S3.hd, rfl⟩, fun e => ?_, fun e => ?_⟩
    · rcases nil_or_snoc ws with rfl | ⟨wp, x, rfl⟩
      · exact nomatch e
      obtain ⟨cp, c, rfl, hwp, t1, u, rfl, ht1, hu, oku, du⟩ := prd_unsnoc hw
      have S4 := S3.set (o' := .lst wp)
      -- part, level = waiting.pop()
      refine ⟨.inl ⟨rfl, _, SqL.of S3.hd⟩, L, wp ++ [.ref t1], .ref t1, rfl, rfl, S3.hd, by simp, ?_⟩
      rw [List.dropLast_concat]
      refine ⟨t1, _, rfl, SqT.of (S4.st ht1), rfl, _, _, rfl, _, _, rfl, rfl, ?_⟩
      refine ⟨G', _, u, c.1, rfl, S4, hu, oku, fun G5 H5 s5 S5 => ⟨ff, fun _ => ?_⟩⟩
      have hwp5 : Paired (Wt G5) wp cp := prd_imp (fun _ _ => Wt.same s5) hwp
      have hu5 := hu.same' s5
      have hdc := c.1.dep_pos
      have esz : wsz (cp ++ [c]) = wsz cp + c.1.size := by rw [wsz_app]; simp [wsz]
      have hcs := c.1.size_pos
      refine ⟨fun σ H6 => ∃ ds' : Int, ds' ≤ 5 ∧ σ = [some v, some (.ref L), some (.int ds'), some u, some (.int c.2), y5] ∧ H6 = H5, ⟨fun e => ⟨c.2, by omega, rfl, rfl⟩, fun e => ⟨ds, hds, rfl, rfl⟩⟩, fun σ H6 h => ?_⟩
      obtain ⟨ds', hds', rfl, rfl⟩ := h
      have stop : ∃ m', m' < wsz (cp ++ [c]) ∧ ∃ (y3 y4 y5' : Option V) (ds : Int) (G' : Hp) (ws : List V) (cs : List (Fm × Int)), ([some v, some (.ref L), some (.int ds'), some u, some (.int c.2), y5] : List (Option V)) = [some v, some (.ref L), some (.int ds), y3, y4, y5'] ∧
          Same G G' ∧ Sep G' ((L, .lst ws) :: M) H6 ∧ Paired (Wt G') ws cs ∧ ds ≤ 5 ∧ m' = wsz cs ∧ m' ≤ 485 := ⟨wsz cp, by omega, _, _, _, ds', G5, wp, cp, rfl, s3.trans s5, S5, hwp5, hds', rfl, by omega⟩
      rcases hu5.kids oku with ⟨p, n, rfl, hp, _⟩ | ⟨p, n, rfl, hp, _⟩ | ⟨p, n, vs, ks, rfl, hp, hk, u1, u2, hsz, v1, v3⟩
      · have h1 := SqT.of (K := K) (S5.st hp)
        exact ⟨_, _, .inr h1, rfl, fun e => wm e, fun _ => ⟨ff, fun _ => stop⟩⟩
      · have h1 := SqT.of (K := K) (S5.st hp)
        exact ⟨_, _, .inr h1, rfl, fun _ => ⟨_, _, .inr h1, rfl, fun e => wm e, fun _ => stop⟩, fun e => wn e⟩
      · have h1 := SqT.of (K := K) (S5.st hp)
        refine ⟨_, .str n, .inr h1, at0, fun _ => ⟨_, .str n, .inr h1, at0, fun _ => ?_, fun e => wn e u2⟩, fun e => wn e u1⟩
        refine ⟨_, .inr h1, 1, rfl, (vs.length : Int), 0, -1, vs.length, ?_, ?_, for_rangeC (lo := (vs.length : Int)) (c := -1) (n := vs.length) (fun i σ H' => ∃ (y5 : Option V) (G' : Hp) (ns : List V) (ms : List (Fm × Int)), σ = [some v, some (.ref L), some (.int ds'), some (.ref p), some (.int c.2), y5] ∧
          Same G5 G' ∧ Sep G' ((L, .lst (wp ++ ns)) :: M) H' ∧ Paired (Wt G') ns ms ∧ ms = (ks.reverse.map fun k => (k, c.2 + 1)).take i) ?_ (fun i σ H' hi h => ?_) (fun σ H' h => ?_)⟩
        · have e1 : (((V.str n :: vs).length : Nat) : Int) - 1 = vs.length := by rw [List.length_cons]; omega
          show [V.int ((((V.str n :: vs).length : Nat) : Int) - 1), V.int 0, V.int (-1)] = _
          rw [e1]
        · have z := RgC.neg (i := (vs.length : Int)) (j := 0) (by omega) (by omega) (by omega) (by omega)
          have e1 : ((vs.length : Int) - 0).toNat = vs.length := by omega
          rw [e1] at z
          exact z
        · exact ⟨_, G5, [], [], rfl, Same.refl _, by rw [List.append_nil]; exact S5, .nil, rfl⟩
        · obtain ⟨y5, G6, ns, ms, rfl, s6, S6, hn, rfl⟩ := h
          have hkl := prd_len hk
          have hj : vs.length - 1 - i < vs.length := by omega
          have hx : vs[vs.length - 1 - i]? = some vs[vs.length - 1 - i] := List.getElem?_eq_getElem hj
          obtain ⟨kc, hkc, hkk⟩ := prd_get hk hx
          have hat : atI (V.str n :: vs) ((vs.length : Int) + (i : Nat) * (-1)) = some vs[vs.length - 1 - i] := by
            have e1 : (vs.length : Int) + (i : Nat) * (-1) = ((vs.length - i : Nat) : Int) := by omega
            rw [e1]
            refine atI_nat ?_
            have e2 : vs.length - i = (vs.length - 1 - i) + 1 := by omega
            rw [e2, List.getElem?_cons_succ]
            exact hx
          have hnl := prd_len hn
          have hml : ((ks.reverse.map fun k => (k, c.2 + 1)).take i).length ≤ 3 := by
            rw [List.length_take]
            omega
          have hwl := prd_len hwp5
          have hcl := wsz_len cp
          refine ⟨.inl ⟨rfl, _, SqL.of S6.hd⟩, _, _, .inr (SqT.of (S6.st (s6 _ _ hp))), hat, sz, fun d nd => ?_⟩
          have S7 := S6.newG (o := .tup [vs[vs.length - 1 - i], .int (c.2 + 1)]) nd
          have s7 := S6.grow (o := .tup [vs[vs.length - 1 - i], .int (c.2 + 1)]) nd
          refine ⟨L, _, _, rfl, rfl, S7.hd, ?_, ?_⟩
          · rw [List.length_append]
            exact smallL (by omega)
          · refine ⟨_, _, ns ++ [.ref d], _, rfl, s6.trans s7, by rw [← List.append_assoc]; exact S7.set, (prd_imp (fun _ _ => Wt.same s7) hn).snoc (b := (kc, c.2 + 1)) ⟨d, _, rfl, upd_same, (hkk.1.same' s6).same' s7, hkk.2.1, ?_⟩, ?_⟩
            · have z := hkk.2.2
              show c.2 + 1 + kc.dep ≤ 6
              omega
            · refine (XL.take_snoc ?_).symm
              rw [List.getElem?_map, List.getElem?_reverse (by omega)]
              have e3 : ks.length - 1 - i = vs.length - 1 - i := by omega
              rw [e3, hkc]
              rfl
        · obtain ⟨y5, G6, ns, ms, rfl, s6, S6, hn, rfl⟩ := h
          have hkl := prd_len hk
          have e1 : (ks.reverse.map fun k => (k, c.2 + 1)).take vs.length = ks.reverse.map fun k => (k, c.2 + 1) := List.take_of_length_le (by simp; omega)
          rw [e1] at hn
          have e2 : wsz (cp ++ ks.reverse.map fun k => (k, c.2 + 1)) = wsz cp + sizes ks := by rw [wsz_app, sizes_rev]
          exact ⟨wsz (cp ++ ks.reverse.map fun k => (k, c.2 + 1)), by omega, _, _, _, ds', G6, _, _, rfl, (s3.trans s5).trans s6, S6, prd_app (prd_imp (fun _ _ => Wt.same s6) hwp5) hn, hds', rfl, by omega⟩
    · refine ⟨fun e => ?_, fun e => ?_⟩
      · have z : (5 : Int) < ds := of_decide_eq_true e
        omega
      · exact q _ _ (s3.trans S3.frzS) S3.frz
/-! ### rows -/
structure RowOk (ns : List Int) : Prop where
  len : ns.length ≤ 5
  nd : ns.Nodup
  lo : ∀ n ∈ ns, 0 ≤ n ∧ n ≤ 9
theorem inV_int {x : Int} (xs : List Int) : inV (.int x) (xs.map V.int) = decide (x ∈ xs) := by
  unfold inV
  induction xs with
  | nil => rfl
  | cons y r ih =>
    rw [List.map_cons, List.any_cons, ih]
    show ((y == x) || decide (x ∈ r)) = decide (x ∈ y :: r)
    by_cases e : x = y
    · subst e; simp
    · have e2 : ¬ y = x := fun q => e q.symm
      simp [e, e2]
theorem ints_flat (xs : List Int) : (xs.map V.int).all flatV = true := by
  rw [List.all_eq_true]
  intro x hx
  obtain ⟨n, _, rfl⟩ := List.mem_map.mp hx
  rfl
def spRow (K : PySem.W.Frag) : Sp := fun vs H Q _ => ∃ (G : Hp) (M : List (Addr × HO)) (r : Addr) (ns : List Int), vs = [.ref r] ∧ Sep G M H ∧ Tu G r (ns.map V.int) ∧ RowOk ns ∧ ∀ G' H', Same G G' → Sep G' M H' → Q .non H'
theorem ok_check_row (T : Top K mg w) {k : Nat} : FnOk P w K mg base CX0 (k + 1) T.a_check_row T.d_check_row ["row"] (spRow K) := by
  refine T.F_check_row.ok sc_check_row (fun vs H Q E h => ?_) (fun cdv A outer s H vs Q E hr h => ?_)
  · obtain ⟨G, M, r, ns, rfl, _⟩ := h
    rfl
  · obtain ⟨G, M, r, ns, rfl, S, hr', ro, q⟩ := h
    refine ⟨_, (pss_cons (xs_if (PW.pt (xw_or (pt_not (xt_truK K (pe_callB (call_isK K) (by rfl) T.m_isinstance (by decide +kernel) (pa_cons (xv 0) (pa_cons (pe_bltn (v := .ty "tuple") (by rfl) T.m_tuple (by decide +kernel) rfl) pa_nil))))) (pw_or1 (xt_cmp op_gtY (pe_callB (cr_lenK K) (by rfl) T.m_len (by decide +kernel) (pa_cons (xv 0) pa_nil)) (xe_globI (by rfl) T.v_MOST_ITEMS) (nomark _)))))
      (pss_one ps_never)
      pss_nil)
      (pss_cons (ps_set (i := 1) sc_check_row.nd rfl (.inl rfl) (pe_lst pa_nil))
      (pss_one (ps_for PassesOwn.never rfl (pi_tupK K (xv 0)) (pg_name (i := 2) sc_check_row.nd rfl (.inl rfl))
      (pss_cons (xs_if (PW.pt (xw_or (pt_not (xt_truK K (pe_callB (call_isK K) (by rfl) T.m_isinstance (by decide +kernel) (pa_cons (xv 2) (pa_cons (pe_bltn (v := .ty "int") (by rfl) T.m_int (by decide +kernel) rfl) pa_nil))))) (pw_or1 (xt_truK K (pe_callB (call_isK K) (by rfl) T.m_isinstance (by decide +kernel) (pa_cons (xv 2) (pa_cons (pe_bltn (v := .ty "bool") (by rfl) T.m_bool (by decide +kernel) rfl) pa_nil)))))))
      (pss_one ps_never)
      pss_nil)
      (pss_cons (xs_if (PW.pt (xw_or (xt_cmp op_ltY (xv 2) pe_int (nomark _)) (xw_or (xt_cmp op_gtY (xv 2) pe_int (nomark _)) (pw_or1 (xt_cmp (in_seqK K) (xv 2) (xv 1) (by rfl))))))
      (pss_one ps_never)
      pss_nil)
      (pss_one (ps_expr (pe_bmK K PySem.F.plainAttrs_list PySem.F.slot_list_append PySem.F.type_list_append mt_append (xv 1) (pa_cons (xv 2) pa_nil)))))))))), ?_⟩
    have h1 := (hr'.same S.1).sq (K := K)
    refine ⟨_, _, _, _, true, rfl, .ty _, (hr'.same S.1).ty, kit_ty (by decide +kernel), ff, fun _ => ⟨_, .inr h1, fun e => ?_, fun _ => ?_⟩⟩
    · have z : (5 : Int) < ((ns.map V.int).length : Nat) := of_decide_eq_true e
      rw [List.length_map] at z
      have := ro.len
      omega
    · refine ⟨sz, fun L nL => ?_⟩
      have S1 := S.new (o := .lst []) nL
      refine ⟨r, rfl, ⟨_, (hr'.same S1.1).sq⟩, for_tup (xs := ns.map V.int) (fun i σ H' => ∃ y2, σ = [some (.ref r), some (.ref L), y2] ∧ Sep G ((L, .lst ((ns.take i).map V.int)) :: M) H') ⟨_, rfl, S1⟩ (fun i σ H' _ h => ?_) (fun i x σ H' hx h => ?_) (fun σ H' h => ?_)⟩
      · obtain ⟨_, _, S2⟩ := h
        exact (hr'.same S2.1).sq
      · obtain ⟨y2, rfl, S2⟩ := h
        rw [List.getElem?_map] at hx
        obtain ⟨n, hn, rfl⟩ := Option.map_eq_some_iff.mp hx
        have hnm : n ∈ ns := List.mem_of_getElem? hn
        have hnl := ro.lo n hnm
        have hni : n ∉ ns.take i := by
          intro hm
          have nd := ro.nd
          rw [(take_pre hn).1, List.nodup_append] at nd
          exact nd.2.2 n hm n (by simp) rfl
        refine ⟨_, _, _, _, true, rfl, .ty _, .base (.int _), kit_ty (by decide +kernel), ff, fun _ => ⟨_, _, _, _, false, rfl, .ty _, .base (.int _), kit_ty (by decide +kernel), ff, fun _ => ?_⟩⟩
        refine ⟨fun e => absurd (of_decide_eq_true e) (by omega), fun _ => ⟨fun e => absurd (of_decide_eq_true e) (by omega), fun _ => ⟨L, _, rfl, .inl (SqL.of S2.hd), rfl, ints_flat _, fun e => ?_, fun _ => ?_⟩⟩⟩
        · have e2 : inV (.int n) ((ns.take i).map V.int) = true := e
          rw [inV_int] at e2
          exact absurd (of_decide_eq_true e2) hni
        · refine ⟨.inl ⟨rfl, _, SqL.of S2.hd⟩, L, _, _, rfl, rfl, S2.hd, ?_, ?_⟩
          · rw [List.length_map, List.length_take]
            have := ro.len
            exact smallL (by omega)
          · refine ⟨_, rfl, ?_⟩
            rw [take_snoc hn, List.map_append]
            exact S2.set
      · obtain ⟨y2, rfl, S2⟩ := h
        exact q _ _ S2.frzS S2.frz

end
end K28
set_option Elab.async false
set_option linter.all false
set_option maxRecDepth 100000
set_option maxHeartbeats 4000000
namespace K28
open PySem PySem.Spec PyProof.Rows L2 XL
section
variable {P : Program} {w : World} {K : PySem.W.Frag} {mg : Str → Option Value} {base : Heap}
/-! ### idents -/
def Pr (G : Hp) (v : V) (p : Int × Int) : Prop := ∃ a, v = .ref a ∧ G a = some (.tup [.int p.1, .int p.2])
theorem Pr.same {G G' : Hp} (e : Same G G') {v : V} {p : Int × Int} (h : Pr G v p) : Pr G' v p := by
  obtain ⟨a, h1, h2⟩ := h
  exact ⟨a, h1, e _ _ h2⟩
def gv (f : Fm) (ns : List Int) (k : Nat) : Int := f.val (ns.getD k 0) k
def idt (f : Fm) (ns : List Int) (k : Nat) : Int × Int := (gv f ns k, (((List.range k).map (gv f ns)).count (gv f ns k) : Nat))
def ids (f : Fm) (ns : List Int) : List (Int × Int) := (List.range ns.length).map (idt f ns)
def spIdents (K : PySem.W.Frag) : Sp := fun vs H Q _ => ∃ (G : Hp) (M : List (Addr × HO)) (v : V) (f : Fm) (r : Addr) (ns : List Int), vs = [v, .ref r] ∧ Sep G M H ∧ FmAt G v f ∧ f.ok ∧ f.dep ≤ 5 ∧ Tu G r (ns.map V.int) ∧ ns.length ≤ 5 ∧
  ∀ (p : Addr) (ws : List V) (G' H' : Hp), Same G G' → Sep G' M H' → TupF G' p ws → Paired (Pr G') ws (ids f ns) → Q (.ref p) H'
theorem at_int {ns : List Int} {i : Nat} (h : i < ns.length) : atI (ns.map V.int) (i : Int) = some (.int (ns.getD i 0)) := by
  refine atI_nat ?_
  rw [List.getElem?_map, List.getElem?_eq_getElem h, List.getD_eq_getElem?_getD, List.getElem?_eq_getElem h]
  rfl
theorem ok_idents_of (T : Top K mg w) (G_value_of : FnOk P w K mg base CX0 6 T.a_value_of T.d_value_of ["parts", "values"] (spValue 5)) : FnOk P w K mg base CX0 7 T.a_idents_of T.d_idents_of ["parts", "row"] (spIdents K) := by
  refine T.F_idents_of.ok sc_idents_of (fun vs H Q E h => ?_) (fun cdv A outer s H vs Q E hr h => ?_)
  · obtain ⟨G, M, v, f, r, ns, rfl, _⟩ := h
    rfl
  · obtain ⟨G, M, v, f, r, ns, rfl, S, hf, ok, hd, hr', hl, q⟩ := h
    refine ⟨_, (pss_cons (ps_set (i := 2) sc_idents_of.nd rfl (.inl rfl) (pe_lst pa_nil))
      (pss_cons (ps_set (i := 3) sc_idents_of.nd rfl (.inl rfl) (pe_lst pa_nil))
      (pss_cons (ps_for PassesOwn.never rfl (pi_range1 (by rfl) T.m_range (pa_cons (pe_callB (cr_lenK K) (by rfl) T.m_len (by decide +kernel) (pa_cons (xv 1) pa_nil)) pa_nil)) (pg_name (i := 4) sc_idents_of.nd rfl (.inl rfl))
      (pss_cons (ps_set (i := 5) sc_idents_of.nd rfl (.inl rfl) (pe_call G_value_of (hr.mono (by omega)) (by rfl) T.g_value_of T.F_value_of.kp T.b_value_of .nil pass0 (pa_cons (xv 0) (pa_cons (pe_disp (pps_cons pe_str (pe_ix (ix_k K) (xv 1) (xv 4) (fun _ _ => rfl)) (pps_cons pe_str (xv 4) pps_nil)) (by rfl) (by rfl) (fun z => by cases z) (by decide)) pa_nil))))
      (pss_cons (ps_expr (pe_bmK K PySem.F.plainAttrs_list PySem.F.slot_list_append PySem.F.type_list_append mt_append (xv 3) (pa_cons (pe_tup (pa_cons (xv 5) (pa_cons (pe_bmK K PySem.F.plainAttrs_list PySem.F.slot_list_count PySem.F.type_list_count (mt_countK K) (xv 2) (pa_cons (xv 5) pa_nil)) pa_nil))) pa_nil)))
      (pss_one (ps_expr (pe_bmK K PySem.F.plainAttrs_list PySem.F.slot_list_append PySem.F.type_list_append mt_append (xv 2) (pa_cons (xv 5) pa_nil)))))))
      (pss_one (ps_ret (pe_callTy (call_tupleFK K) (by rfl) T.m_tuple (by decide +kernel) (pa_cons (xv 3) pa_nil))))))), ?_⟩
    refine ⟨sz, fun VL nV => ⟨sz, fun IL nI => ?_⟩⟩
    have S1 := S.new (o := .lst []) nV
    have S2 := (S1.new (o := .lst []) nI).sw
    refine ⟨_, .inr (hr'.same S2.1).sq, _, rfl, by simp, by simp; omega, ?_⟩
    rw [show (((ns.map V.int).length : Nat) : Int).toNat = ns.length by simp]
    refine for_range (lo := 0) (n := ns.length) (fun i σ H' => ∃ (y4 y5 : Option V) (G' : Hp) (ws : List V), σ = [some v, some (.ref r), some (.ref VL), some (.ref IL), y4, y5] ∧ Same G G' ∧
      Sep G' ((VL, .lst (((List.range i).map (gv f ns)).map V.int)) :: (IL, .lst ws) :: M) H' ∧ Paired (Pr G') ws ((List.range i).map (idt f ns))) ⟨_, _, G, [], rfl, Same.refl _, S2, .nil⟩ (fun i σ H' hi h => ?_) (fun σ H' h => ?_)
    · obtain ⟨y4, y5, G', ws, rfl, s3, S3, hw⟩ := h
      have hwl := prd_len hw
      rw [List.length_map, List.length_range] at hwl
      rw [Int.zero_add]
      intro d nd
      have S4 := S3.new (o := .dK []) nd
      refine ⟨_, _, .inr ((hr'.same s3).same S4.1).sq, at_int hi, S4.hd, [(.inr "item", .int (ns.getD i 0)), (.inr "at", .int i)], rfl, by simp, ?_⟩
      rw [env_merge]
      have S5 := S4.set (o' := .dK (env2 (ns.getD i 0) i))
      refine ⟨G', _, v, f, d, ns.getD i 0, i, rfl, S5, hf.same' s3, ok, hd, S5.hd, ?_⟩
      have S6 := S5.drop
      have S7 := S6.sw
      refine ⟨.inl ⟨rfl, _, SqL.of S7.hd⟩, .inl ⟨rfl, _, SqL.of S6.hd⟩, VL, (List.range i).map (gv f ns), f.val (ns.getD i 0) i, rfl, rfl, SqL.of S6.hd, sz, fun t nt => ?_⟩
      have S8 := S7.newG (o := .tup [.int (f.val (ns.getD i 0) i), .int (((List.range i).map (gv f ns)).count (f.val (ns.getD i 0) i) : Nat)]) nt
      have s8 := S7.grow (o := .tup [.int (f.val (ns.getD i 0) i), .int (((List.range i).map (gv f ns)).count (f.val (ns.getD i 0) i) : Nat)]) nt
      refine ⟨IL, ws, _, rfl, rfl, S8.hd, smallL (by omega), ?_⟩
      have S9 := (S8.set (o' := .lst (ws ++ [.ref t]))).sw
      refine ⟨.inl ⟨rfl, _, SqL.of S9.hd⟩, VL, _, _, rfl, rfl, S9.hd, ?_, ?_⟩
      · rw [List.length_map, List.length_map, List.length_range]
        exact smallL (by omega)
      · refine ⟨_, _, _, ws ++ [.ref t], rfl, s3.trans s8, ?_, ?_⟩
        · rw [List.range_succ, List.map_append, List.map_append]
          exact S9.set
        · rw [List.range_succ, List.map_append]
          exact (prd_imp (fun _ _ => Pr.same s8) hw).snoc ⟨t, rfl, upd_same⟩
    · obtain ⟨y4, y5, G', ws, rfl, s3, S3, hw⟩ := h
      have S4 := S3.drop
      refine ⟨IL, ws, rfl, .inl ⟨SqL.of S4.hd, fun t ob nt hob => ?_⟩⟩
      have S5 := S4.frz
      have z := S4.frzS.trans (S5.grow (o := .frz ob (.tup ws)) nt)
      exact q t ws _ _ (s3.trans z) (S5.newG nt) ⟨ob, hob, upd_same⟩ (prd_imp (fun _ _ => Pr.same z) hw)
/-! ### at most -/
def Cons (xs : List (Int × Int)) : Prop := ∀ p ∈ xs, ∀ q ∈ xs, p.1 = q.1 → p.2 = q.2
def rowT (f s : Fm) (i j : Nat) : Int × Int := (s.val i j, f.val i j)
def tabTo (f s : Fm) (i j : Nat) : List (Int × Int) := ((List.range i).flatMap fun a => (List.range 5).map (rowT f s a)) ++ (List.range j).map (rowT f s i)
def tab (f s : Fm) : List (Int × Int) := tabTo f s 10 0
theorem tab_row (f s : Fm) (i : Nat) : tabTo f s i 5 = tabTo f s (i + 1) 0 := by
  unfold tabTo
  rw [List.range_succ (n := i), List.flatMap_append]
  simp
theorem tab_step (f s : Fm) (i j : Nat) : tabTo f s i (j + 1) = tabTo f s i j ++ [rowT f s i j] := by
  unfold tabTo
  rw [List.range_succ (n := j), List.map_append, ← List.append_assoc]
  rfl
structure DI (kvs : List (Key × V)) (xs : List (Int × Int)) : Prop where
  cons : Cons xs
  at_ : ∀ p ∈ xs, valV kvs (.inl p.1) = some (.int p.2)
  of : ∀ k v, valV kvs (.inl k) = some v → ∃ p ∈ xs, p.1 = k
  len : kvs.length ≤ xs.length
theorem DI.nil : DI [] [] := ⟨fun _ h => (nomatch h), fun _ h => (nomatch h), fun _ _ h => (nomatch h), Nat.le_refl _⟩
theorem DI.old {kvs : List (Key × V)} {xs : List (Int × Int)} (d : DI kvs xs) {p : Int × Int} (h : valV kvs (.inl p.1) = some (.int p.2)) : DI kvs (xs ++ [p]) := by
  obtain ⟨q, hq, eq⟩ := d.of _ _ h
  have e2 : q.2 = p.2 := by
    have z := d.at_ q hq
    rw [eq, h] at z
    injection z with z
    injection z with z
    exact z.symm
  have cs : ∀ a ∈ xs ++ [p], a.1 = p.1 → a.2 = p.2 := fun a ha e => by
    rcases List.mem_append.mp ha with ha | ha
    · rw [d.cons a ha q hq (e.trans eq.symm), e2]
    · rw [List.mem_singleton.mp ha]
  refine ⟨fun a ha b hb e => ?_, fun a ha => ?_, fun k v hv => ?_, ?_⟩
  · rcases List.mem_append.mp ha with h1 | h1
    · rcases List.mem_append.mp hb with h2 | h2
      · exact d.cons a h1 b h2 e
      · rw [List.mem_singleton.mp h2] at e ⊢
        exact cs a ha e
    · rw [List.mem_singleton.mp h1] at e ⊢
      exact (cs b hb e.symm).symm
  · rcases List.mem_append.mp ha with ha | ha
    · exact d.at_ a ha
    · rw [List.mem_singleton.mp ha]
      exact h
  · obtain ⟨b, hb, e⟩ := d.of k v hv
    exact ⟨b, List.mem_append_left _ hb, e⟩
  · rw [List.length_append]
    exact Nat.le_trans d.len (Nat.le_add_right _ _)
theorem DI.new {kvs : List (Key × V)} {xs : List (Int × Int)} (d : DI kvs xs) {p : Int × Int} (h : valV kvs (.inl p.1) = none) : DI (putK kvs (.inl p.1) (.int p.2)) (xs ++ [p]) := by
  have no : ∀ a ∈ xs, a.1 ≠ p.1 := fun a ha e => by
    have z := d.at_ a ha
    rw [e, h] at z
    cases z
  refine ⟨fun a ha b hb e => ?_, fun a ha => ?_, fun k v hv => ?_, ?_⟩
  · rcases List.mem_append.mp ha with h1 | h1
    · rcases List.mem_append.mp hb with h2 | h2
      · exact d.cons a h1 b h2 e
      · rw [List.mem_singleton.mp h2] at e
        exact absurd e (no a h1)
    · rcases List.mem_append.mp hb with h2 | h2
      · rw [List.mem_singleton.mp h1] at e
        exact absurd e.symm (no b h2)
      · rw [List.mem_singleton.mp h1, List.mem_singleton.mp h2]
  · rcases List.mem_append.mp ha with ha | ha
    · rw [valV_put, if_neg (fun z => no a ha (Sum.inl.inj z))]
      exact d.at_ a ha
    · rw [List.mem_singleton.mp ha]
      rw [valV_put, if_pos rfl]
  · by_cases e : k = p.1
    · exact ⟨p, by simp, e.symm⟩
    · rw [valV_put, if_neg (fun z => e (Sum.inl.inj z))] at hv
      obtain ⟨b, hb, e⟩ := d.of k v hv
      exact ⟨b, List.mem_append_left _ hb, e⟩
  · rw [putK_new _ h, List.length_append, List.length_append]
    have := d.len
    simp
    omega
def spAtMost (K : PySem.W.Frag) : Sp := fun vs H Q _ => ∃ (G : Hp) (M : List (Addr × HO)) (v u : V) (f s : Fm), vs = [v, u] ∧ Sep G M H ∧ FmAt G v f ∧ f.ok ∧ f.dep ≤ 5 ∧ FmAt G u s ∧ s.ok ∧ s.dep ≤ 5 ∧
  ∀ (b : Bool) (G' H' : Hp), (b = true ↔ Cons (tab f s)) → Same G G' → Sep G' M H' → Q (.bl b) H'
theorem mem_tab {f s : Fm} {i j : Nat} (hi : i < 10) (hj : j < 5) : rowT f s i j ∈ tab f s := by
  unfold tab tabTo
  rw [List.mem_append]
  left
  rw [List.mem_flatMap]
  exact ⟨i, List.mem_range.mpr hi, List.mem_map.mpr ⟨j, List.mem_range.mpr hj, rfl⟩⟩
theorem mem_tabTo {f s : Fm} {i j : Nat} {p : Int × Int} (h : p ∈ tabTo f s i j) : ∃ a b, (a < i ∧ b < 5 ∨ a = i ∧ b < j) ∧ p = rowT f s a b := by
  unfold tabTo at h
  rcases List.mem_append.mp h with h | h
  · obtain ⟨a, ha, h⟩ := List.mem_flatMap.mp h
    obtain ⟨b, hb, rfl⟩ := List.mem_map.mp h
    exact ⟨a, b, .inl ⟨List.mem_range.mp ha, List.mem_range.mp hb⟩, rfl⟩
  · obtain ⟨b, hb, rfl⟩ := List.mem_map.mp h
    exact ⟨i, b, .inr ⟨rfl, List.mem_range.mp hb⟩, rfl⟩
theorem tab_sub {f s : Fm} {i j : Nat} (hi : i < 10) (hj : j < 5) {p : Int × Int} (h : p ∈ tabTo f s i j) : p ∈ tab f s := by
  obtain ⟨a, b, h, rfl⟩ := mem_tabTo h
  exact mem_tab (by omega) (by omega)
theorem tabTo_len (f s : Fm) (i j : Nat) : (tabTo f s i j).length = i * 5 + j := by
  unfold tabTo
  rw [List.length_append, List.length_map, List.length_range]
  congr 1
  induction i with
  | zero => rfl
  | succ i ih =>
    rw [List.range_succ (n := i), List.flatMap_append, List.length_append, ih]
    simp
    omega
theorem ok_at_most (T : Top K mg w) (G_value_of : FnOk P w K mg base CX0 6 T.a_value_of T.d_value_of ["parts", "values"] (spValue 5)) : FnOk P w K mg base CX0 7 T.a_at_most T.d_at_most ["first", "second"] (spAtMost K) := by
  refine T.F_at_most.ok sc_at_most (fun vs H Q E h => ?_) (fun cdv A outer s H vs Q E hr h => ?_)
  · obtain ⟨G, M, v, u, f, s, rfl, _⟩ := h
    rfl
  · obtain ⟨G, M, v, u, f, s', rfl, S, hf, okf, hdf, hs, oks, hds, q⟩ := h
    refine ⟨_, (pss_cons (ps_set (i := 2) sc_at_most.nd rfl (.inl rfl) pe_dnewK)
      (pss_cons (ps_for PassesOwn.never rfl (pi_range1 (by rfl) T.m_range (pa_cons pe_int pa_nil)) (pg_name (i := 3) sc_at_most.nd rfl (.inl rfl))
      (pss_one (ps_for PassesOwn.never rfl (pi_range1 (by rfl) T.m_range (pa_cons (xe_globI (by rfl) T.v_MOST_ITEMS) pa_nil)) (pg_name (i := 4) sc_at_most.nd rfl (.inl rfl))
      (pss_cons (ps_set (i := 5) sc_at_most.nd rfl (.inl rfl) (pe_call G_value_of (hr.mono (by omega)) (by rfl) T.g_value_of T.F_value_of.kp T.b_value_of .nil pass0 (pa_cons (xv 1) (pa_cons (pe_disp (pps_cons pe_str (xv 3) (pps_cons pe_str (xv 4) pps_nil)) (by rfl) (by rfl) (fun z => by cases z) (by decide)) pa_nil))))
      (pss_cons (ps_set (i := 6) sc_at_most.nd rfl (.inl rfl) (pe_call G_value_of (hr.mono (by omega)) (by rfl) T.g_value_of T.F_value_of.kp T.b_value_of .nil pass0 (pa_cons (xv 0) (pa_cons (pe_disp (pps_cons pe_str (xv 3) (pps_cons pe_str (xv 4) pps_nil)) (by rfl) (by rfl) (fun z => by cases z) (by decide)) pa_nil))))
      (pss_one (xs_if (pt_cmp (pc_dnotin (hu_of hr) (xv 5) (xv 2)))
      (pss_one (ps_dput (hu_of hr) (xv 2) (xv 5) (xv 6) rfl))
      (pss_one (xs_if (xt_cmp (op_neK K hr.units) (pe_dget (hu_of hr) (xv 2) (xv 5) (fun _ _ => rfl)) (xv 6) (nomark _))
      (pss_one (ps_ret pe_bl))
      pss_nil)))))))))
      (pss_one (ps_ret pe_bl)))), ?_⟩
    intro F nF
    have S1 := S.new (o := .dK []) nF
    refine ⟨10, rfl, by decide, by decide, for_range (lo := 0) (n := 10) (fun i σ H' => ∃ (y3 y4 y5 y6 : Option V) (kvs : List (Key × V)), σ = [some v, some u, some (.ref F), y3, y4, y5, y6] ∧
      Sep G ((F, .dK kvs) :: M) H' ∧ DI kvs (tabTo f s' i 0)) ⟨_, _, _, _, [], rfl, S1, DI.nil⟩ (fun i σ H' hi h => ?_) (fun σ H' h => ?_)⟩
    · obtain ⟨y3, y4, y5, y6, kvs, rfl, S2, di⟩ := h
      refine ⟨5, rfl, by decide, by decide, for_range (lo := 0) (n := 5) (fun j σ H' => ∃ (y4 y5 y6 : Option V) (kvs : List (Key × V)), σ = [some v, some u, some (.ref F), some (.int (i : Nat)), y4, y5, y6] ∧
        Sep G ((F, .dK kvs) :: M) H' ∧ DI kvs (tabTo f s' i j)) ⟨_, _, _, kvs, by rw [Int.zero_add]; rfl, S2, di⟩ (fun j σ H' hj h => ?_) (fun σ H' h => ?_)⟩
      · obtain ⟨y4, y5, y6, kvs, rfl, S3, di⟩ := h
        rw [Int.zero_add]
        intro d nd
        have S4 := S3.new (o := .dK []) nd
        refine ⟨S4.hd, [(.inr "item", .int i), (.inr "at", .int j)], rfl, by simp, ?_⟩
        rw [env_merge]
        have S5 := S4.set (o' := .dK (env2 i j))
        refine ⟨G, _, u, s', d, i, j, rfl, S5, hs, oks, hds, S5.hd, ?_⟩
        have S6 := S5.drop
        intro d2 nd2
        have S7 := S6.new (o := .dK []) nd2
        refine ⟨S7.hd, [(.inr "item", .int i), (.inr "at", .int j)], rfl, by simp, ?_⟩
        rw [env_merge]
        have S8 := S7.set (o' := .dK (env2 i j))
        refine ⟨G, _, v, f, d2, i, j, rfl, S8, hf, okf, hdf, S8.hd, ?_⟩
        have S9 := S8.drop
        have hg : DGet _ F (.int (s'.val i j)) (valV kvs (.inl (s'.val i j))) := DGet.k (k := Sum.inl (s'.val i j)) S9.hd
        refine ⟨F, _, rfl, hg, _, rfl, fun e => ?_, fun e => ?_⟩
        · have e2 : valV kvs (.inl (s'.val i j)) = none := by
            cases z : valV kvs (.inl (s'.val i j)) with
            | none => rfl
            | some _ => rw [z] at e; cases e
          have dl := di.len
          rw [tabTo_len] at dl
          refine ⟨F, _, rfl, DPut.k (k := Sum.inl (s'.val i j)) S9.hd (smallL (by omega)), _, _, _, _, rfl, S9.set, ?_⟩
          rw [tab_step]
          exact di.new (p := rowT f s' i j) e2
        · cases z : valV kvs (.inl (s'.val i j)) with
          | none => rw [z] at e; cases e
          | some y =>
            rw [z] at hg
            obtain ⟨p, hp, ep⟩ := di.of _ _ z
            have ez := di.at_ p hp
            rw [ep, z] at ez
            obtain rfl : y = .int p.2 := Option.some.inj ez
            refine ⟨F, _, rfl, hg, fun e3 => ?_, fun e3 => ?_⟩
            · refine q false _ _ ⟨fun h => (nomatch h), fun h => ?_⟩ S9.frzS S9.frz
              have z2 := h p (tab_sub hi hj hp) _ (mem_tab hi hj) ep
              have z3 : (!decide (p.2 = f.val i j)) = true := e3
              rw [decide_eq_true (show p.2 = f.val i j from z2)] at z3
              cases z3
            · have z3 : (!decide (p.2 = f.val i j)) = false := e3
              have z4 : p.2 = f.val i j := by simpa using z3
              refine ⟨_, _, _, kvs, rfl, S9, ?_⟩
              rw [tab_step]
              refine di.old (p := rowT f s' i j) ?_
              rw [show (rowT f s' i j).1 = s'.val i j from rfl, z, z4]
              rfl
      · obtain ⟨y4, y5, y6, kvs, rfl, S3, di⟩ := h
        rw [tab_row] at di
        exact ⟨_, _, _, _, kvs, rfl, S3, di⟩
    · obtain ⟨y3, y4, y5, y6, kvs, rfl, S2, di⟩ := h
      exact q true _ _ ⟨fun _ => di.cons, fun _ => rfl⟩ S2.frzS S2.frz

end
end K28
set_option Elab.async false
set_option linter.all false
set_option maxRecDepth 100000
set_option maxHeartbeats 4000000
namespace K28
open PySem PySem.Spec PyProof.Rows L2 XL
section
variable {P : Program} {w : World} {K : PySem.W.Frag} {mg : Str → Option Value} {base : Heap}
/-! ### Key -/
def KeyAt (C : Addr) (G : Hp) (v : V) (f : Fm) : Prop := ∃ (x dx : Addr) (u : V), v = .ref x ∧ G x = some (.ins C dx [("form", u)]) ∧ FmAt G u f ∧ f.ok ∧ f.dep ≤ 5
theorem KeyAt.same {C : Addr} {G G' : Hp} (e : Same G G') {v : V} {f : Fm} (h : KeyAt C G v f) : KeyAt C G' v f := by
  obtain ⟨x, dx, u, h1, h2, h3, h4⟩ := h
  exact ⟨x, dx, u, h1, e _ _ h2, h3.same' e, h4⟩
def spKInit (C : Addr) : Sp := fun vs H Q _ => ∃ (G : Hp) (M : List (Addr × HO)) (x dx : Addr) (v : V) (f : Fm), vs = [.ref x, v] ∧ Sep G ((x, .ins C dx []) :: M) H ∧ FmAt G v f ∧ f.ok ∧ f.dep ≤ 5 ∧
  ∀ G' H', Same G G' → Sep G' ((x, .ins C dx [("form", v)]) :: M) H' → Q .non H'
theorem ok_Key_init (T : Top K mg w) (G_check_form : FnOk P w K mg base CX0 6 T.a_check_form T.d_check_form ["parts"] spCheck) (G_names_of : FnOk P w K mg base CX0 6 T.a_names_of T.d_names_of ["parts"] (spNames 5)) :
    FnOk P w K mg base CX0 7 T.a_Key_init T.d_Key_init ["self", "form"] (spKInit T.C_Key) := by
  refine T.F_Key_init.ok sc_Key_init (fun vs H Q E h => ?_) (fun cdv A outer s H vs Q E hr h => ?_)
  · obtain ⟨G, M, x, dx, v, f, rfl, _⟩ := h
    rfl
  · obtain ⟨G, M, x, dx, v, f, rfl, S, hf, ok, hd, q⟩ := h
    refine ⟨_, (pss_cons (ps_expr (pe_call G_check_form (hr.mono (by omega)) (by rfl) T.g_check_form T.F_check_form.kp T.b_check_form .nil pass0 (pa_cons (xv 1) pa_nil)))
      (pss_cons (ps_for PassesOwn.never rfl (pi_tupK K (pe_call G_names_of (hr.mono (by omega)) (by rfl) T.g_names_of T.F_names_of.kp T.b_names_of .nil pass0 (pa_cons (xv 1) pa_nil))) (pg_name (i := 2) sc_Key_init.nd rfl (.inl rfl))
      (pss_one (xs_if (PW.pt (xw_and (xt_cmp (op_neK K hr.units) (xv 2) pe_str (nomark _)) (pw_and1 (xt_cmp (op_neK K hr.units) (xv 2) pe_str (nomark _)))))
      (pss_one ps_never)
      pss_nil)))
      (pss_one (ps_fld (xv 0) (xv 1) rfl)))), ?_⟩
    refine ⟨G, _, v, f, rfl, S, hf, ok, hd, fun G1 H1 s1 S1 => ?_⟩
    refine ⟨G1, _, v, f, rfl, S1, hf.same' s1, ok, hd, fun r ns G2 H2 s2 S2 hr' nms nl => ?_⟩
    refine ⟨r, rfl, ⟨ns, SqT.of (S2.st hr')⟩, for_tup (xs := ns) (fun i σ H' => ∃ y2, σ = [some (.ref x), some v, y2] ∧ Sep G2 ((x, .ins T.C_Key dx []) :: M) H') ⟨_, rfl, S2⟩ (fun i σ H' _ h => ?_) (fun i y σ H' hy h => ?_) (fun σ H' h => ?_)⟩
    · obtain ⟨_, _, S3⟩ := h
      exact SqT.of (S3.st hr')
    · obtain ⟨y2, rfl, S3⟩ := h
      rcases nms y (List.mem_of_getElem? hy) with rfl | rfl
      · exact ⟨fun e => wm e, fun _ => ⟨ff, fun _ => ⟨_, rfl, S3⟩⟩⟩
      · exact ⟨fun _ => ⟨fun e => wm e, fun _ => ⟨_, rfl, S3⟩⟩, fun e => wn e⟩
    · obtain ⟨y2, rfl, S3⟩ := h
      exact ⟨x, T.C_Key, dx, [], rfl, S3.hd, T.cl_Key, T.na_Key_form, by decide, q _ _ (s1.trans s2) S3.set⟩
def spKParts (C : Addr) : Sp := fun vs H Q _ => ∃ (x dx : Addr) (v : V), vs = [.ref x] ∧ H x = some (.ins C dx [("form", v)]) ∧ Q v H
theorem ok_Key_parts (T : Top K mg w) {k : Nat} : FnOk P w K mg base CX0 (k + 1) T.a_Key_parts T.d_Key_parts ["self"] (spKParts T.C_Key) := by
  refine T.F_Key_parts.ok sc_Key_parts (fun vs H Q E h => ?_) (fun cdv A outer s H vs Q E hr h => ?_)
  · obtain ⟨x, dx, v, rfl, _⟩ := h
    rfl
  · obtain ⟨x, dx, v, rfl, hx, q⟩ := h
    refine ⟨_, (pss_one (ps_ret (pe_fldK K (xv 0)))), ?_⟩
    exact ⟨x, T.C_Key, dx, _, v, rfl, hx, T.cl_Key, T.na_Key_form, rfl, q⟩
def spKCall (C : Addr) : Sp := fun vs H Q _ => ∃ (G : Hp) (M : List (Addr × HO)) (v : V) (f : Fm) (i j : Int), vs = [v, .int i, .int j] ∧ Sep G M H ∧ KeyAt C G v f ∧ ∀ H', Sep G M H' → Q (.int (f.val i j)) H'
theorem ok_Key_call (T : Top K mg w) (G_value_of : FnOk P w K mg base CX0 6 T.a_value_of T.d_value_of ["parts", "values"] (spValue 5)) : FnOk P w K mg base CX0 7 T.a_Key_call T.d_Key_call ["self", "item", "at"] (spKCall T.C_Key) := by
  refine T.F_Key_call.ok sc_Key_call (fun vs H Q E h => ?_) (fun cdv A outer s H vs Q E hr h => ?_)
  · obtain ⟨G, M, v, f, i, j, rfl, _⟩ := h
    rfl
  · obtain ⟨G, M, _, f, i, j, rfl, S, ⟨x, dx, v, rfl, hx, hf, ok, hd⟩, q⟩ := h
    refine ⟨_, (pss_one (ps_ret (pe_call G_value_of (hr.mono (by omega)) (by rfl) T.g_value_of T.F_value_of.kp T.b_value_of .nil pass0 (pa_cons (pe_fldK K (xv 0)) (pa_cons (pe_disp (pps_cons pe_str (xv 1) (pps_cons pe_str (xv 2) pps_nil)) (by rfl) (by rfl) (fun z => by cases z) (by decide)) pa_nil))))), ?_⟩
    refine ⟨x, T.C_Key, dx, _, v, rfl, S.st hx, T.cl_Key, T.na_Key_form, rfl, fun d nd => ?_⟩
    have S4 := S.new (o := .dK []) nd
    refine ⟨S4.hd, [(.inr "item", .int i), (.inr "at", .int j)], rfl, by simp, ?_⟩
    rw [env_merge]
    have S5 := S4.set (o' := .dK (env2 i j))
    exact ⟨G, _, v, f, d, i, j, rfl, S5, hf, ok, hd, S5.hd, q _ S5.drop⟩
def spKLe (C : Addr) : Sp := fun vs H Q _ => ∃ (G : Hp) (M : List (Addr × HO)) (v u : V) (f s : Fm), vs = [v, u] ∧ Sep G M H ∧ KeyAt C G v f ∧ KeyAt C G u s ∧
  ∀ (b : Bool) (G' H' : Hp), (b = true ↔ Cons (tab f s)) → Same G G' → Sep G' M H' → Q (.bl b) H'
theorem ok_Key_le (T : Top K mg w) (G_at_most : FnOk P w K mg base CX0 7 T.a_at_most T.d_at_most ["first", "second"] (spAtMost K)) : FnOk P w K mg base CX0 8 T.a_Key_le T.d_Key_le ["self", "other"] (spKLe T.C_Key) := by
  refine T.F_Key_le.ok sc_Key_le (fun vs H Q E h => ?_) (fun cdv A outer s H vs Q E hr h => ?_)
  · obtain ⟨G, M, v, u, f, s, rfl, _⟩ := h
    rfl
  · obtain ⟨G, M, _, _, f, s', rfl, S, ⟨x, dx, v, rfl, hx, hf, ok, hd⟩, ⟨y, dy, u, rfl, hy, hs, oks, hds⟩, q⟩ := h
    refine ⟨_, (pss_cons (xs_if (pt_not (xt_truK K (pe_callB (call_isK K) (by rfl) T.m_isinstance (by decide +kernel) (pa_cons (xv 1) (pa_cons (pe_glob (v := .ref T.C_Key) (by rfl) T.g_Key rfl) pa_nil)))))
      (pss_one ps_never)
      pss_nil)
      (pss_one (ps_ret (pe_call G_at_most (hr.mono (by omega)) (by rfl) T.g_at_most T.F_at_most.kp T.b_at_most .nil pass0 (pa_cons (pe_fldK K (xv 0)) (pa_cons (pe_fldK K (xv 1)) pa_nil)))))), ?_⟩
    refine ⟨_, _, _, _, true, rfl, .own _, .base (.ins (S.st hy) T.cl_Key T.ty_Key.1 T.ty_Key.2.1 T.ty_Key.2.2.1 T.ty_Key.2.2.2.1), T.ty_Key.2.2.2.2, ff, fun _ => ?_⟩
    refine ⟨x, T.C_Key, dx, _, v, rfl, S.st hx, T.cl_Key, T.na_Key_form, rfl, y, T.C_Key, dy, _, u, rfl, S.st hy, T.cl_Key, T.na_Key_form, rfl, ?_⟩
    exact ⟨G, M, v, u, f, s', rfl, S, hf, ok, hd, hs, oks, hds, q⟩
def spKIdents (C : Addr) : Sp := fun vs H Q _ => ∃ (G : Hp) (M : List (Addr × HO)) (v : V) (f : Fm) (r : Addr) (ns : List Int), vs = [v, .ref r] ∧ Sep G M H ∧ KeyAt C G v f ∧ Tu G r (ns.map V.int) ∧ RowOk ns ∧
  ∀ (p : Addr) (ws : List V) (G' H' : Hp), Same G G' → Sep G' M H' → TupF G' p ws → Paired (Pr G') ws (ids f ns) → Q (.ref p) H'
theorem ok_Key_idents (T : Top K mg w) (G_check_row : FnOk P w K mg base CX0 7 T.a_check_row T.d_check_row ["row"] (spRow K)) (G_idents_of : FnOk P w K mg base CX0 7 T.a_idents_of T.d_idents_of ["parts", "row"] (spIdents K)) :
    FnOk P w K mg base CX0 8 T.a_Key_idents T.d_Key_idents ["self", "row"] (spKIdents T.C_Key) := by
  refine T.F_Key_idents.ok sc_Key_idents (fun vs H Q E h => ?_) (fun cdv A outer s H vs Q E hr h => ?_)
  · obtain ⟨G, M, v, f, r, ns, rfl, _⟩ := h
    rfl
  · obtain ⟨G, M, _, f, r, ns, rfl, S, ⟨x, dx, v, rfl, hx, hf, ok, hd⟩, hr', ro, q⟩ := h
    refine ⟨_, (pss_cons (ps_expr (pe_call G_check_row (hr.mono (by omega)) (by rfl) T.g_check_row T.F_check_row.kp T.b_check_row .nil pass0 (pa_cons (xv 1) pa_nil)))
      (pss_one (ps_ret (pe_call G_idents_of (hr.mono (by omega)) (by rfl) T.g_idents_of T.F_idents_of.kp T.b_idents_of .nil pass0 (pa_cons (pe_fldK K (xv 0)) (pa_cons (xv 1) pa_nil)))))), ?_⟩
    refine ⟨G, M, r, ns, rfl, S, hr', ro, fun G1 H1 s1 S1 => ?_⟩
    refine ⟨x, T.C_Key, dx, _, v, rfl, S1.st (s1 _ _ hx), T.cl_Key, T.na_Key_form, rfl, ?_⟩
    exact ⟨G1, M, v, f, r, ns, rfl, S1, hf.same' s1, ok, hd, hr'.same s1, ro.len, fun p ws G' H' s' => q p ws G' H' (s1.trans s')⟩

end
end K28
set_option Elab.async false
set_option linter.all false
set_option maxRecDepth 100000
set_option maxHeartbeats 4000000
namespace K28
open PySem PySem.Spec PyProof.Rows L2 XL
section
variable {P : Program} {w : World} {K : PySem.W.Frag} {mg : Str → Option Value} {base : Heap}
/-! ### the law's forms -/
def Nam (x : V) : Prop := ∃ z : Str, x = .str z ∧ (z = "item" ∨ z = "at")
def spForm (K : PySem.W.Frag) (d : Nat) : Sp := fun vs H Q _ => ∃ (G : Hp) (M : List (Addr × HO)) (b : Addr) (o : HO) (l : Addr) (xs : List V) (n : Int), vs = [.ref b, .ref l, .int n] ∧ Sep G ((b, o) :: M) H ∧ Bag G o ∧ SqL K G l xs ∧ 0 < xs.length ∧ xs.length < 100000 ∧ (∀ x ∈ xs, Nam x) ∧ 1 ≤ n ∧ n ≤ d ∧
  ∀ (v : V) (f : Fm) (o' : HO) (G' H' : Hp), Same G G' → FmAt G' v f → f.ok → f.dep ≤ n → Bag G' o' → Sep G' ((b, o') :: M) H' → Q v H'
theorem ok_form (T : Top K mg w) {k : Nat} (G_pick : FnOk P w K mg base CX0 k T.a_pick T.d_pick ["_law_bag_here", "_law_many"] spPick) (G_choice : FnOk P w K mg base CX0 k T.a_choice T.d_choice ["_law_bag_here", "_law_things"] (spChoice K)) :
    ∀ d : Nat, FnOk P w K mg base CX0 (k + 1 + d) T.a_form T.d_form ["_law_bag_here", "_law_readable", "_law_levels"] (spForm K d)
  | 0 => fn_false fun vs H Q E h => by
    obtain ⟨G, M, b, o, l, xs, n, _, _, _, _, _, _, _, h1, h2, _⟩ := h
    omega
  | d + 1 => by
    have G_form := ok_form T G_pick G_choice d
    refine T.F_form.ok sc_form (fun vs H Q E h => ?_) (fun cdv A outer s H vs Q E hr h => ?_)
    · obtain ⟨G, M, b, o, l, xs, n, rfl, _⟩ := h
      rfl
    · obtain ⟨G, M, b, o, l, xs, n, rfl, S, B, hl, x0, x1, nm, n1, n2, q⟩ := h
      have hr : Room (k + 1 + d) (A.deeper (envOfC (Str.ofString "_law_form") (defScope s_form) s.heap.objs.size T.a_form cdv)) := hr
      refine ⟨_, (pss_cons (ps_set (i := 3) sc_form.nd rfl (.inl rfl) (pe_call G_pick (hr.mono (by omega)) (by rfl) T.g_pick T.F_pick.kp T.b_pick .nil pass0 (pa_cons (xv 0) (pa_cons pe_int pa_nil))))
      (pss_cons (xs_if (PW.pt (xw_or (xt_cmp op_leY (xv 2) pe_int (nomark _)) (pw_or1 (xt_cmp op_ltY (xv 3) pe_int (nomark _)))))
      (pss_cons (xs_if (PW.pt (xw_or (pt_not (xt_truK K (xv 1))) (pw_or1 (PW.pt (xw_and (xt_cmp (op_eqK K hr.units) (xv 3) pe_int (nomark _)) (pw_and1 (xt_cmp (op_eqK K hr.units) (pe_call G_pick (hr.mono (by omega)) (by rfl) T.g_pick T.F_pick.kp T.b_pick .nil pass0 (pa_cons (xv 0) (pa_cons pe_int pa_nil))) pe_int (nomark _))))))))
      (pss_one (ps_ret (pe_tup (pa_cons pe_str (pa_cons (pe_call G_pick (hr.mono (by omega)) (by rfl) T.g_pick T.F_pick.kp T.b_pick .nil pass0 (pa_cons (xv 0) (pa_cons pe_int pa_nil))) pa_nil)))))
      pss_nil)
      (pss_one (ps_ret (pe_tup (pa_cons pe_str (pa_cons (pe_call G_choice (hr.mono (by omega)) (by rfl) T.g_choice T.F_choice.kp T.b_choice .nil pass0 (pa_cons (xv 0) (pa_cons (xv 1) pa_nil))) pa_nil))))))
      pss_nil)
      (pss_cons (ps_set (i := 4) sc_form.nd rfl (.inl rfl) (pe_call G_form (hr.mono (by omega)) (by rfl) T.g_form T.F_form.kp T.b_form .nil pass0 (pa_cons (xv 0) (pa_cons (xv 1) (pa_cons (pe_op op_subY (xv 2) pe_int) pa_nil)))))
      (pss_cons (ps_set (i := 5) sc_form.nd rfl (.inl rfl) (pe_call G_form (hr.mono (by omega)) (by rfl) T.g_form T.F_form.kp T.b_form .nil pass0 (pa_cons (xv 0) (pa_cons (xv 1) (pa_cons (pe_op op_subY (xv 2) pe_int) pa_nil)))))
      (pss_cons (xs_if (xt_cmp op_ltY (xv 3) pe_int (nomark _))
      (pss_one (ps_ret (pe_tup (pa_cons (pe_ix (ix_k K) (pe_lst (pa_cons pe_str (pa_cons pe_str (pa_cons pe_str pa_nil)))) (pe_op op_subY (xv 3) pe_int) (fun _ _ => rfl)) (pa_cons (xv 4) (pa_cons (xv 5) pa_nil))))))
      pss_nil)
      (pss_one (ps_ret (pe_tup (pa_cons pe_str (pa_cons (xv 4) (pa_cons (xv 5) (pa_cons (pe_call G_form (hr.mono (by omega)) (by rfl) T.g_form T.F_form.kp T.b_form .nil pass0 (pa_cons (xv 0) (pa_cons (xv 1) (pa_cons (pe_op op_subY (xv 2) pe_int) pa_nil)))) pa_nil)))))))))))), ?_⟩
      refine ⟨G, M, b, o, 8, rfl, S, B, by decide, by decide, fun w1 o1 H1 w0 w8 B1 S1 => ?_⟩
      have isQ : ∀ o2 H2, Bag G o2 → Sep G ((b, o2) :: M) H2 → ∀ r : Int, 0 ≤ r → r < 10 → ∀ t, H2 t = none → Q (.ref t) (upd H2 t (.tup [.str "is", .int r])) := fun o2 H2 B2 S2 r r0 r1 t nt =>
        q _ (.is r) o2 _ _ (S2.grow nt) (.is upd_same) ⟨r0, by omega⟩ n1 (B2.same (S2.grow nt)) (S2.newG nt)
      refine ⟨fun e1 => ⟨fun _ => ?_, tt⟩, fun e1 => ⟨fun e2 => ?_, fun e2 => ?_⟩⟩
      rotate_left 2
      · have n2' : ¬ n ≤ 1 := of_decide_eq_false e1
        have w3 : ¬ w1 < 3 := of_decide_eq_false e2
        refine ⟨G, M, b, o1, l, xs, n - 1, rfl, S1, B1, hl, x0, x1, nm, by omega, by omega, fun v1 f1 o2 G2 H2 s2 hf1 ok1 d1 B2 S2 => ?_⟩
        refine ⟨G2, M, b, o2, l, xs, n - 1, rfl, S2, B2, same_l s2 hl, x0, x1, nm, by omega, by omega, fun v2 f2 o3 G3 H3 s3 hf2 ok2 d2 B3 S3 => ⟨fun e3 => ?_, fun e3 => ?_⟩⟩
        · have w6 : w1 < 6 := of_decide_eq_true e3
          refine ⟨sz, fun t0 nt0 => ?_⟩
          have S4 := S3.newG (o := .lst [.str "sum", .str "sum", .str "same"]) nt0
          have s4 := S3.grow (o := .lst [.str "sum", .str "sum", .str "same"]) nt0
          obtain rfl | rfl | rfl : w1 = 3 ∨ w1 = 4 ∨ w1 = 5 := by omega
          · refine ⟨_, _, .inl (SqL.of upd_same), rfl, sz, fun t nt => ?_⟩
            have s5 := s4.trans (S4.grow (o := .tup [.str "sum", v1, v2]) nt)
            exact q _ (.sum f1 f2) o3 _ _ (s2.trans (s3.trans s5)) (.sum upd_same (hf1.same' (s3.trans s5)) (hf2.same' s5)) ⟨ok1, ok2⟩ (by simp only [Fm.dep]; omega) (B3.same s5) (S4.newG nt)
          · refine ⟨_, _, .inl (SqL.of upd_same), rfl, sz, fun t nt => ?_⟩
            have s5 := s4.trans (S4.grow (o := .tup [.str "sum", v1, v2]) nt)
            exact q _ (.sum f1 f2) o3 _ _ (s2.trans (s3.trans s5)) (.sum upd_same (hf1.same' (s3.trans s5)) (hf2.same' s5)) ⟨ok1, ok2⟩ (by simp only [Fm.dep]; omega) (B3.same s5) (S4.newG nt)
          · refine ⟨_, _, .inl (SqL.of upd_same), rfl, sz, fun t nt => ?_⟩
            have s5 := s4.trans (S4.grow (o := .tup [.str "same", v1, v2]) nt)
            exact q _ (.same f1 f2) o3 _ _ (s2.trans (s3.trans s5)) (.same upd_same (hf1.same' (s3.trans s5)) (hf2.same' s5)) ⟨ok1, ok2⟩ (by simp only [Fm.dep]; omega) (B3.same s5) (S4.newG nt)
        · refine ⟨G3, M, b, o3, l, xs, n - 1, rfl, S3, B3, same_l (s2.trans s3) hl, x0, x1, nm, by omega, by omega, fun v3 f3 o4 G4 H4 s4 hf3 ok3 d3 B4 S4 => ⟨sz, fun t nt => ?_⟩⟩
          have s5 := S4.grow (o := .tup [.str "pick", v1, v2, v3]) nt
          exact q _ (.pick f1 f2 f3) o4 _ _ (s2.trans (s3.trans (s4.trans s5))) (.pick upd_same (hf1.same' (s3.trans (s4.trans s5))) (hf2.same' (s4.trans s5)) (hf3.same' s5)) ⟨ok1, ok2, ok3⟩ (by simp only [Fm.dep]; omega) (B4.same s5) (S4.newG nt)
      all_goals
        have getQ : ∀ o2 H2, Bag G o2 → Sep G ((b, o2) :: M) H2 → ∀ v, v ∈ xs → ∀ t, H2 t = none → Q (.ref t) (upd H2 t (.tup [.str "get", v])) := fun o2 H2 B2 S2 v hv t nt => by
          obtain ⟨z, rfl, hz⟩ := nm v hv
          exact q _ (.get z) o2 _ _ (S2.grow nt) (.get upd_same) hz n1 (B2.same (S2.grow nt)) (S2.newG nt)
        have ne : (!!xs.isEmpty) = false := by
          cases xs with
          | nil => simp at x0
          | cons _ _ => rfl
        refine ⟨!xs.isEmpty, .inl ⟨xs, S1.l hl, rfl⟩, fun e => absurd e (by rw [ne]; decide), fun _ => ⟨fun _ => ?_, fun _ => ⟨ff, fun _ => ?_⟩⟩⟩
        · refine ⟨G, M, b, o1, 2, rfl, S1, B1, by decide, by decide, fun r2 o2 H2 _ _ B2 S2 => ⟨fun _ => ?_, fun _ => ?_⟩⟩
          · exact ⟨G, M, b, o2, 10, rfl, S2, B2, by decide, by decide, fun r3 o3 H3 r30 r31 B3 S3 => ⟨sz, fun t nt => isQ o3 H3 B3 S3 r3 r30 r31 t nt⟩⟩
          · exact ⟨G, M, b, o2, l, xs, rfl, S2, B2, hl, x0, x1, fun v o3 H3 hv B3 S3 => ⟨sz, fun t nt => getQ o3 H3 B3 S3 v hv t nt⟩⟩
        · exact ⟨G, M, b, o1, l, xs, rfl, S1, B1, hl, x0, x1, fun v o3 H3 hv B3 S3 => ⟨sz, fun t nt => getQ o3 H3 B3 S3 v hv t nt⟩⟩
theorem ok_value (T : Top K mg w) : ∀ d : Nat, FnOk P w K mg base CX0 (d + 1) T.a_value T.d_value ["_law_form_here", "_law_worths"] (spValue d)
  | 0 => fn_false fun vs H Q E h => by
    obtain ⟨G, M, v, f, e, i, j, _, _, _, _, hd, _⟩ := h
    have := f.dep_pos
    omega
  | d + 1 => by
    have G_value := ok_value T d
    refine T.F_value.ok sc_value (fun vs H Q E h => ?_) (fun cdv A outer s H vs Q E hr h => ?_)
    · obtain ⟨G, M, v, f, e, i, j, rfl, _⟩ := h
      rfl
    · obtain ⟨G, M, v, f, e, i, j, rfl, S, hf, ok, hd, he, q⟩ := h
      refine ⟨_, (pss_cons (ps_set (i := 2) sc_value.nd rfl (.inl rfl) (pe_ix (ix_k K) (xv 0) pe_int (fun _ _ => rfl)))
      (pss_cons (xs_if (PW.pt (xw_or (xt_cmp (op_eqK K hr.units) (xv 2) pe_str (nomark _)) (pw_or1 (xt_cmp (op_eqK K hr.units) (xv 2) pe_str (nomark _)))))
      (pss_one (ps_ret (xe_if (xt_cmp (op_eqK K hr.units) (xv 2) pe_str (nomark _)) (pe_ix (ix_k K) (xv 0) pe_int (fun _ _ => rfl)) (pe_dget (hu_of hr) (xv 1) (pe_ix (ix_k K) (xv 0) pe_int (fun _ _ => rfl)) (fun _ _ => rfl)))))
      pss_nil)
      (pss_cons (ps_set (i := 3) sc_value.nd rfl (.inl rfl) (pe_call G_value (hr.mono (by omega)) (by rfl) T.g_value T.F_value.kp T.b_value .nil pass0 (pa_cons (pe_ix (ix_k K) (xv 0) pe_int (fun _ _ => rfl)) (pa_cons (xv 1) pa_nil))))
      (pss_cons (xs_if (xt_cmp (op_eqK K hr.units) (xv 2) pe_str (nomark _))
      (pss_one (ps_ret (pe_call G_value (hr.mono (by omega)) (by rfl) T.g_value T.F_value.kp T.b_value .nil pass0 (pa_cons (xe_if (xt_cmp (op_neK K hr.units) (xv 3) pe_int (nomark _)) (pe_ix (ix_k K) (xv 0) pe_int (fun _ _ => rfl)) (pe_ix (ix_k K) (xv 0) pe_int (fun _ _ => rfl))) (pa_cons (xv 1) pa_nil)))))
      pss_nil)
      (pss_cons (ps_set (i := 4) sc_value.nd rfl (.inl rfl) (pe_call G_value (hr.mono (by omega)) (by rfl) T.g_value T.F_value.kp T.b_value .nil pass0 (pa_cons (pe_ix (ix_k K) (xv 0) pe_int (fun _ _ => rfl)) (pa_cons (xv 1) pa_nil))))
      (pss_one (ps_ret (xe_if (xt_cmp (op_eqK K hr.units) (xv 2) pe_str (nomark _)) (pe_op op_modY (pe_callTy cr_int (by rfl) T.m_int (by decide +kernel) (pa_cons (pe_op op_addY (xv 3) (xv 4)) pa_nil)) pe_int) (pe_callTy cr_int (by rfl) T.m_int (by decide +kernel) (pa_cons (pe_cmpR (op_eqK K hr.units) (xv 3) (xv 4) (nomark _)) pa_nil)))))))))), ?_⟩
      cases hf with
      | is hp =>
        have h1 := SqT.of (K := K) (S.st hp)
        exact ⟨_, _, .inr h1, rfl, fun _ => ⟨fun _ => ⟨fun _ => ⟨_, _, .inr h1, rfl, q⟩, we⟩, tt⟩, we⟩
      | @get p x hp =>
        have h1 := SqT.of (K := K) (S.st hp)
        have hg : DGet H e (.str x) (some (.int (if x = "item" then i else j))) := by
          rw [← env_get i j ok]
          exact DGet.k (k := Sum.inr x) he
        exact ⟨_, _, .inr h1, rfl, fun e => wd e, fun _ => ⟨fun _ => ⟨fun e => wd e, fun _ => ⟨_, _, .inr h1, rfl, e, _, rfl, hg, q⟩⟩, we⟩⟩
      | sum hp h2 h3 =>
        have h1 := SqT.of (K := K) (S.st hp)
        have e1 : (Fm.sum _ _).dep ≤ d + 1 := hd
        simp only [Fm.dep] at e1
        refine ⟨_, _, .inr h1, rfl, fun e => wd e, fun _ => ⟨fun e => wd e, fun _ => ?_⟩⟩
        refine ⟨_, _, .inr h1, rfl, G, M, _, _, e, i, j, rfl, S, h2, ok.1, by omega, he, fun e => wd e, fun _ => ?_⟩
        refine ⟨_, _, .inr h1, rfl, G, M, _, _, e, i, j, rfl, S, h3, ok.2, by omega, he, ?_⟩
        exact ⟨fun _ => ⟨by decide, fun r hr _ _ => hr ▸ q⟩, we⟩
      | same hp h2 h3 =>
        have h1 := SqT.of (K := K) (S.st hp)
        have e1 : (Fm.same _ _).dep ≤ d + 1 := hd
        simp only [Fm.dep] at e1
        refine ⟨_, _, .inr h1, rfl, fun e => wd e, fun _ => ⟨fun e => wd e, fun _ => ?_⟩⟩
        refine ⟨_, _, .inr h1, rfl, G, M, _, _, e, i, j, rfl, S, h2, ok.1, by omega, he, fun e => wd e, fun _ => ?_⟩
        refine ⟨_, _, .inr h1, rfl, G, M, _, _, e, i, j, rfl, S, h3, ok.2, by omega, he, ?_⟩
        refine ⟨fun e => wd e, fun _ => ?_⟩
        simp only [Fm.val] at q
        have e2 : ∀ x y : Int, (if decide (x = y) = true then (1 : Int) else 0) = if x = y then 1 else 0 := fun x y => by by_cases h : x = y <;> simp [h]
        rw [← e2] at q
        exact q
      | pick hp h2 h3 h4 =>
        have h1 := SqT.of (K := K) (S.st hp)
        have e1 : (Fm.pick _ _ _).dep ≤ d + 1 := hd
        simp only [Fm.dep] at e1
        refine ⟨_, _, .inr h1, rfl, fun e => wd e, fun _ => ⟨fun e => wd e, fun _ => ?_⟩⟩
        refine ⟨_, _, .inr h1, rfl, G, M, _, _, e, i, j, rfl, S, h2, ok.1, by omega, he, fun _ => ?_, we⟩
        refine ⟨fun e2 => ?_, fun e2 => ?_⟩
        · refine ⟨_, _, .inr h1, rfl, G, M, _, _, e, i, j, rfl, S, h3, ok.2.1, by omega, he, ?_⟩
          simp only [Fm.val] at q
          rw [if_neg (by simpa using e2)] at q
          exact q
        · refine ⟨_, _, .inr h1, rfl, G, M, _, _, e, i, j, rfl, S, h4, ok.2.2, by omega, he, ?_⟩
          simp only [Fm.val] at q
          rw [if_pos (by simpa using e2)] at q
          exact q
def spLIdents (K : PySem.W.Frag) : Sp := fun vs H Q _ => ∃ (G : Hp) (M : List (Addr × HO)) (v : V) (f : Fm) (r : Addr) (ns : List Int), vs = [v, .ref r] ∧ Sep G M H ∧ FmAt G v f ∧ f.ok ∧ f.dep ≤ 5 ∧ Tu G r (ns.map V.int) ∧ ns.length ≤ 5 ∧
  ∀ (p : Addr) (ws : List V) (G' H' : Hp), Same G G' → Sep G' M H' → G' p = some (.lst ws) → Paired (Pr G') ws (ids f ns) → Q (.ref p) H'
theorem ok_idents (T : Top K mg w) (G_value : FnOk P w K mg base CX0 6 T.a_value T.d_value ["_law_form_here", "_law_worths"] (spValue 5)) : FnOk P w K mg base CX0 7 T.a_idents T.d_idents ["_law_key", "_law_row"] (spLIdents K) := by
  refine T.F_idents.ok sc_idents (fun vs H Q E h => ?_) (fun cdv A outer s H vs Q E hr h => ?_)
  · obtain ⟨G, M, v, f, r, ns, rfl, _⟩ := h
    rfl
  · obtain ⟨G, M, v, f, r, ns, rfl, S, hf, ok, hd, hr', hl, q⟩ := h
    refine ⟨_, (pss_cons (ps_set (i := 2) sc_idents.nd rfl (.inl rfl) (pe_lst pa_nil))
      (pss_cons (ps_for PassesOwn.never rfl (pi_enumT (by rfl) T.m_enumerate (pa_cons (xv 1) pa_nil)) (pg_tupK K 2 (pgs_cons (pg_name (i := 3) sc_idents.nd rfl (.inl rfl)) (pgs_cons (pg_name (i := 4) sc_idents.nd rfl (.inl rfl)) pgs_nil)))
      (pss_cons (ps_set (i := 5) sc_idents.nd rfl (.inr rfl) (pe_call G_value (hr.mono (by omega)) (by rfl) T.g_value T.F_value.kp T.b_value .nil pass0 (pa_cons (xv 0) (pa_cons (pe_disp (pps_cons pe_str (xv 4) (pps_cons pe_str (xv 3) pps_nil)) (by rfl) (by rfl) (fun z => by cases z) (by decide)) pa_nil))))
      (pss_one (ps_expr (pe_bmK K PySem.F.plainAttrs_list PySem.F.slot_list_append PySem.F.type_list_append mt_append (xv 2) (pa_cons (pe_tup (pa_cons (xv 5) (pa_cons (pe_callB (cr_lenK K) (by rfl) T.m_len (by decide +kernel) (pa_cons (pe_lc (own := [("_law_told", 6)]) (by rfl) sc_idents.nd (pi_listK K (xv 2)) (blkOk_by (N := ["_law_key", "_law_row", "_law_out", "_law_at", "_law_item", "_law_worth", "_law_told"]) (sc := defScope s_idents) (by decide +kernel)) (fun _ _ _ _ _ => (pg_name (i := 6) sc_idents.nd rfl (.inl rfl))) (fun _ _ _ _ _ => (pts_one (xt_cmp (op_eqK K hr.units) (pe_ix (ix_k K) (xv 6) pe_int (fun _ _ => rfl)) (xv 5) (nomark _)))) (fun _ _ _ _ _ => (xv 6))) pa_nil)) pa_nil))) pa_nil))))))
      (pss_one (ps_ret (xv 2))))), ?_⟩
    refine ⟨sz, fun L nL => ?_⟩
    have S1 := S.new (o := .lst []) nL
    refine ⟨r, _, rfl, (hr'.same S1.1).sq, for_enumT (xs := ns.map V.int) (fun k σ H' => ∃ (y3 y4 y5 y6 : Option V) (G' : Hp) (ws : List V), σ = [some v, some (.ref r), some (.ref L), y3, y4, y5, y6] ∧ Same G G' ∧
      Sep G' ((L, .lst ws) :: M) H' ∧ Paired (Pr G') ws ((List.range k).map (idt f ns))) ⟨_, _, _, _, G, [], rfl, Same.refl _, S1, .nil⟩ (fun k σ H' h => ?_) (fun k x σ H' t0 hx h nt0 => ?_) (fun σ H' h => ?_)⟩
    · obtain ⟨_, _, _, _, G', _, _, s2, S2, _⟩ := h
      exact ((hr'.same s2).same S2.1).sq
    · obtain ⟨y3, y4, y5, y6, G', ws, rfl, s2, S2, hw⟩ := h
      have hk : k < ns.length := by
        have z := (List.getElem?_eq_some_iff.mp hx).1
        rwa [List.length_map] at z
      obtain rfl : x = .int (ns.getD k 0) := by
        rw [List.getElem?_map, List.getElem?_eq_getElem hk] at hx
        rw [List.getD_eq_getElem?_getD, List.getElem?_eq_getElem hk]
        exact (Option.some.inj hx).symm
      have S3 := S2.newG (o := .tup [.int (k : Nat), .int (ns.getD k 0)]) nt0
      have s3 := S2.grow (o := .tup [.int (k : Nat), .int (ns.getD k 0)]) nt0
      intro d nd
      have S4 := S3.new (o := .dK []) nd
      refine ⟨S4.hd, [(.inr "item", .int (ns.getD k 0)), (.inr "at", .int k)], rfl, by simp, ?_⟩
      rw [env_merge]
      have S5 := S4.set (o' := .dK (env2 (ns.getD k 0) k))
      refine ⟨_, _, v, f, d, ns.getD k 0, k, rfl, S5, hf.same' (s2.trans s3), ok, hd, S5.hd, ?_⟩
      have S6 := S5.drop
      have hw6 := prd_imp (fun _ _ => Pr.same s3) hw
      have hwl := prd_len hw
      rw [List.length_map, List.length_range] at hwl
      refine ⟨.inl ⟨rfl, _, SqL.of S6.hd⟩, L, rfl, ⟨ws, SqL.of S6.hd⟩, fun D nD => lc_list (xs := ws) (fun i H' => ∃ acc : List V, Sep (upd G' t0 (.tup [.int (k : Nat), .int (ns.getD k 0)])) ((D, .lst acc) :: (L, .lst ws) :: M) H' ∧ acc.length = (((List.range k).map (gv f ns)).take i).count (gv f ns k))
        ⟨[], S6.new nD, rfl⟩ (fun i H' _ p => ?_) (fun i x H' hx p => ?_) (fun H' p => ?_)⟩
      · obtain ⟨acc, S7, _⟩ := p
        exact SqL.of S7.sw.hd
      · obtain ⟨acc, S7, hc⟩ := p
        obtain ⟨c, hcx, a, rfl, ha⟩ := prd_get hw6 hx
        have hi : i < k := by
          have z := (List.getElem?_eq_some_iff.mp hx).1
          omega
        have hcx2 : c = idt f ns i := by
          rw [List.getElem?_map, List.getElem?_range hi] at hcx
          exact (Option.some.inj hcx).symm
        have hg : ((List.range k).map (gv f ns))[i]? = some (gv f ns i) := by
          rw [List.getElem?_map, List.getElem?_range hi]
          rfl
        have hcl : acc.length ≤ i := by
          rw [hc]
          refine Nat.le_trans List.count_le_length ?_
          rw [List.length_take]
          omega
        refine ⟨rfl, _, _, .inr (SqT.of (S7.st ha)), rfl, ?_⟩
        have e1 : c.1 = gv f ns i := by rw [hcx2]; rfl
        rw [XL.take_snoc hg, List.count_append]
        by_cases hq : gv f ns i = gv f ns k
        · have e2 : decide (c.1 = gv f ns k) = true := decide_eq_true (e1.trans hq)
          show if decide (c.1 = gv f ns k) = true then _ else _
          rw [if_pos e2]
          refine ⟨acc, S7.hd, smallL (by omega), _, S7.set, ?_⟩
          rw [hq, List.length_append, hc]
          simp
        · have e2 : ¬ decide (c.1 = gv f ns k) = true := fun z => hq (e1.symm.trans (of_decide_eq_true z))
          show if decide (c.1 = gv f ns k) = true then _ else _
          rw [if_neg e2]
          refine ⟨acc, S7, ?_⟩
          rw [hc, List.count_singleton]
          simp [hq]
      · obtain ⟨acc, S7, hc⟩ := p
        rw [hwl, List.take_of_length_le (by simp)] at hc
        refine ⟨acc, .inl (SqL.of S7.hd), sz, fun t nt => ?_⟩
        rw [hc]
        have S8 := S7.drop
        have S9 := S8.newG (o := .tup [.int (gv f ns k), .int ((((List.range k).map (gv f ns)).count (gv f ns k) : Nat) : Int)]) nt
        have s9 := S8.grow (o := .tup [.int (gv f ns k), .int ((((List.range k).map (gv f ns)).count (gv f ns k) : Nat) : Int)]) nt
        refine ⟨L, ws, _, rfl, rfl, S9.hd, smallL (by omega), ?_⟩
        refine ⟨_, _, _, _, _, ws ++ [.ref t], rfl, s2.trans (s3.trans s9), S9.set, ?_⟩
        rw [List.range_succ, List.map_append]
        exact (prd_imp (fun _ _ => Pr.same s9) hw6).snoc ⟨t, rfl, upd_same⟩
    · obtain ⟨y3, y4, y5, y6, G', ws, rfl, s2, S2, hw⟩ := h
      rw [List.length_map] at hw
      exact q L ws _ _ (s2.trans S2.frzS) S2.frz upd_same (prd_imp (fun _ _ => Pr.same S2.frzS) hw)

end
end K28
set_option Elab.async false
set_option linter.all false
set_option maxRecDepth 100000
set_option maxHeartbeats 4000000
namespace K28
open PySem PySem.Spec PyProof.Rows L2 XL
section
variable {P : Program} {w : World} {K : PySem.W.Frag} {mg : Str → Option Value} {base : Heap}
/-! ### makers -/
theorem Sep.mk {G H : Hp} {M : List (Addr × HO)} {p : Addr} {o : HO} (S : Sep G M H) (h : H p = none) : ∃ G', Same G G' ∧ Sep G' M (upd H p o) ∧ G' p = some o := ⟨_, S.grow h, S.newG h, upd_same⟩
theorem fIs {G H : Hp} {M : List (Addr × HO)} {t : Addr} {n : Int} (S : Sep G M H) (nt : H t = none) : ∃ G', Same G G' ∧ Sep G' M (upd H t (.tup [.str "is", .int n])) ∧ FmAt G' (.ref t) (.is n) := ⟨_, S.grow nt, S.newG nt, .is upd_same⟩
theorem fGet {G H : Hp} {M : List (Addr × HO)} {t : Addr} {x : Str} (S : Sep G M H) (nt : H t = none) : ∃ G', Same G G' ∧ Sep G' M (upd H t (.tup [.str "get", .str x])) ∧ FmAt G' (.ref t) (.get x) := ⟨_, S.grow nt, S.newG nt, .get upd_same⟩
theorem fSum {G H : Hp} {M : List (Addr × HO)} {t : Addr} {v1 v2 : V} {a b : Fm} (S : Sep G M H) (nt : H t = none) (h1 : FmAt G v1 a) (h2 : FmAt G v2 b) : ∃ G', Same G G' ∧ Sep G' M (upd H t (.tup [.str "sum", v1, v2])) ∧ FmAt G' (.ref t) (.sum a b) :=
  ⟨_, S.grow nt, S.newG nt, .sum upd_same (h1.same' (S.grow nt)) (h2.same' (S.grow nt))⟩
theorem fSame {G H : Hp} {M : List (Addr × HO)} {t : Addr} {v1 v2 : V} {a b : Fm} (S : Sep G M H) (nt : H t = none) (h1 : FmAt G v1 a) (h2 : FmAt G v2 b) : ∃ G', Same G G' ∧ Sep G' M (upd H t (.tup [.str "same", v1, v2])) ∧ FmAt G' (.ref t) (.same a b) :=
  ⟨_, S.grow nt, S.newG nt, .same upd_same (h1.same' (S.grow nt)) (h2.same' (S.grow nt))⟩
theorem fPick {G H : Hp} {M : List (Addr × HO)} {t : Addr} {v1 v2 v3 : V} {a b c : Fm} (S : Sep G M H) (nt : H t = none) (h1 : FmAt G v1 a) (h2 : FmAt G v2 b) (h3 : FmAt G v3 c) : ∃ G', Same G G' ∧ Sep G' M (upd H t (.tup [.str "pick", v1, v2, v3])) ∧ FmAt G' (.ref t) (.pick a b c) :=
  ⟨_, S.grow nt, S.newG nt, .pick upd_same (h1.same' (S.grow nt)) (h2.same' (S.grow nt)) (h3.same' (S.grow nt))⟩
theorem in_ints {v : V} (xs : List Int) (hx : (xs.all fun n => decide (0 ≤ n) && decide (n ≤ 9)) = true) (hv : v ∈ xs.map V.int) : ∃ n, v = .int n ∧ 0 ≤ n ∧ n ≤ 9 := by
  obtain ⟨n, hn, rfl⟩ := List.mem_map.mp hv
  have z := List.all_eq_true.mp hx n hn
  rw [Bool.and_eq_true] at z
  exact ⟨n, rfl, of_decide_eq_true z.1, of_decide_eq_true z.2⟩
theorem cut_to (xs : List V) {r : Int} (h : 0 ≤ r) : cutV xs none (some r) = xs.take r.toNat := by
  obtain ⟨j, rfl⟩ : ∃ j : Nat, r = (j : Int) := ⟨r.toNat, by omega⟩
  unfold cutV
  rw [HT.sIx_nat, HT.sIx_none]
  show List.take (min j xs.length - 0) (List.drop 0 xs) = _
  rw [Nat.sub_zero, List.drop_zero, Int.toNat_natCast]
  by_cases hj : j ≤ xs.length
  · rw [Nat.min_eq_left hj]
  · rw [Nat.min_eq_right (by omega), List.take_length, List.take_of_length_le (by omega)]
def vInt : V → Int
  | .int i => i
  | _ => 0
theorem perm_ints {ys : List V} {xs : List Int} (h : ys.Perm (xs.map V.int)) : ∃ ms : List Int, ys = ms.map V.int ∧ ms.Perm xs := by
  refine ⟨ys.map vInt, ?_, ?_⟩
  · rw [List.map_map]
    have e : ∀ y ∈ ys, (V.int ∘ vInt) y = y := fun y hy => by
      obtain ⟨n, _, rfl⟩ := List.mem_map.mp (h.mem_iff.mp hy)
      rfl
    exact ((List.map_congr_left e).trans (List.map_id _)).symm
  · have z := h.map vInt
    rw [List.map_map] at z
    have e : xs.map (vInt ∘ V.int) = xs := List.map_id _
    rw [e] at z
    exact z
def dig : List Int := [0, 1, 2, 3, 4, 5, 6, 7, 8, 9]
theorem row_of {ms : List Int} {k j : Nat} (h : ms.Perm (dig.take k)) (hj : j ≤ 5) : RowOk (ms.take j) := by
  refine ⟨by rw [List.length_take]; omega, ?_, fun n hn => ?_⟩
  · have z : (dig.take k).Nodup := List.Nodup.sublist (List.take_sublist _ _) (by decide)
    exact List.Nodup.sublist (List.take_sublist _ _) (h.nodup_iff.mpr z)
  · have z : n ∈ dig := List.mem_of_mem_take (h.mem_iff.mp (List.mem_of_mem_take hn))
    have e : ∀ n ∈ dig, 0 ≤ n ∧ n ≤ 9 := by decide
    exact e n z

def spAnyKey : Sp := fun vs H Q _ => ∃ (G : Hp) (M : List (Addr × HO)) (b : Addr) (o : HO), vs = [.ref b] ∧ Sep G ((b, o) :: M) H ∧ Bag G o ∧
  ∀ (v : V) (f : Fm) (o' : HO) (G' H' : Hp), Same G G' → FmAt G' v f → f.ok → f.dep ≤ 5 → Bag G' o' → Sep G' ((b, o') :: M) H' → Q v H'
theorem ok_any_key (T : Top K mg w) {k : Nat} (G_pick : FnOk P w K mg base CX0 k T.a_pick T.d_pick ["_law_bag_here", "_law_many"] spPick) (G_choice : FnOk P w K mg base CX0 k T.a_choice T.d_choice ["_law_bag_here", "_law_things"] (spChoice K))
    (G_form : FnOk P w K mg base CX0 (k + 1 + 5) T.a_form T.d_form ["_law_bag_here", "_law_readable", "_law_levels"] (spForm K 5)) :
    FnOk P w K mg base CX0 (k + 7) T.a_any_key T.d_any_key ["_law_bag_here"] spAnyKey := by
  refine T.F_any_key.ok sc_any_key (fun vs H Q E h => ?_) (fun cdv A outer s H vs Q E hr h => ?_)
  · obtain ⟨G, M, b, o, rfl, _⟩ := h
    rfl
  · obtain ⟨G, M, b, o, rfl, S, B, q⟩ := h
    refine ⟨_, (pss_cons (ps_set (i := 1) sc_any_key.nd rfl (.inl rfl) (pe_call G_pick (hr.mono (by omega)) (by rfl) T.g_pick T.F_pick.kp T.b_pick .nil pass0 (pa_cons (xv 0) (pa_cons pe_int pa_nil))))
      (pss_cons (ps_set (i := 2) sc_any_key.nd rfl (.inl rfl) (pe_call G_choice (hr.mono (by omega)) (by rfl) T.g_choice T.F_choice.kp T.b_choice .nil pass0 (pa_cons (xv 0) (pa_cons (pe_lst (pa_cons pe_int (pa_cons pe_int (pa_cons pe_int (pa_cons pe_int (pa_cons pe_int (pa_cons pe_int (pa_cons pe_int (pa_cons pe_int (pa_cons pe_int (pa_cons pe_int (pa_cons pe_int pa_nil)))))))))))) pa_nil))))
      (pss_cons (ps_set (i := 3) sc_any_key.nd rfl (.inl rfl) (pe_call G_choice (hr.mono (by omega)) (by rfl) T.g_choice T.F_choice.kp T.b_choice .nil pass0 (pa_cons (xv 0) (pa_cons (pe_lst (pa_cons pe_int (pa_cons pe_int (pa_cons pe_int (pa_cons pe_int (pa_cons pe_int (pa_cons pe_int pa_nil))))))) pa_nil))))
      (pss_cons (ps_set (i := 4) sc_any_key.nd rfl (.inl rfl) (pe_tup (pa_cons pe_str (pa_cons pe_str pa_nil))))
      (pss_cons (xs_if (xt_cmp (op_eqK K hr.units) (xv 1) pe_int (nomark _))
      (pss_one (ps_ret (xv 4)))
      pss_nil)
      (pss_cons (xs_if (xt_cmp (op_eqK K hr.units) (xv 1) pe_int (nomark _))
      (pss_one (ps_ret (pe_tup (pa_cons pe_str (pa_cons pe_str pa_nil)))))
      pss_nil)
      (pss_cons (xs_if (xt_cmp (op_eqK K hr.units) (xv 1) pe_int (nomark _))
      (pss_one (ps_ret (pe_tup (pa_cons pe_str (pa_cons (xv 2) pa_nil)))))
      pss_nil)
      (pss_cons (xs_if (xt_cmp (op_eqK K hr.units) (xv 1) pe_int (nomark _))
      (pss_one (ps_ret (pe_tup (pa_cons pe_str (pa_cons (xv 4) (pa_cons (pe_tup (pa_cons pe_str (pa_cons (xv 2) pa_nil))) pa_nil))))))
      pss_nil)
      (pss_cons (xs_if (xt_cmp (op_eqK K hr.units) (xv 1) pe_int (nomark _))
      (pss_one (ps_ret (pe_tup (pa_cons pe_str (pa_cons (xv 4) (pa_cons (xv 4) pa_nil))))))
      pss_nil)
      (pss_cons (xs_if (xt_cmp (op_eqK K hr.units) (xv 1) pe_int (nomark _))
      (pss_one (ps_ret (pe_tup (pa_cons pe_str (pa_cons (xv 4) (pa_cons (pe_tup (pa_cons pe_str (pa_cons (xv 2) pa_nil))) pa_nil))))))
      pss_nil)
      (pss_cons (xs_if (xt_cmp (op_eqK K hr.units) (xv 1) pe_int (nomark _))
      (pss_one (ps_ret (pe_tup (pa_cons pe_str (pa_cons (pe_tup (pa_cons pe_str (pa_cons (xv 4) (pa_cons (pe_tup (pa_cons pe_str (pa_cons (xv 2) pa_nil))) pa_nil)))) (pa_cons (pe_tup (pa_cons pe_str (pa_cons (pe_call G_pick (hr.mono (by omega)) (by rfl) T.g_pick T.F_pick.kp T.b_pick .nil pass0 (pa_cons (xv 0) (pa_cons pe_int pa_nil))) pa_nil))) (pa_cons (xv 4) pa_nil)))))))
      pss_nil)
      (pss_cons (xs_if (xt_cmp (op_eqK K hr.units) (xv 1) pe_int (nomark _))
      (pss_one (ps_ret (pe_tup (pa_cons pe_str (pa_cons (xv 4) (pa_cons (pe_tup (pa_cons pe_str (pa_cons pe_str pa_nil))) pa_nil))))))
      pss_nil)
      (pss_cons (xs_if (xt_cmp (op_eqK K hr.units) (xv 1) pe_int (nomark _))
      (pss_one (ps_ret (pe_tup (pa_cons pe_str (pa_cons (pe_tup (pa_cons pe_str (pa_cons (pe_tup (pa_cons pe_str (pa_cons pe_str pa_nil))) (pa_cons (pe_tup (pa_cons pe_str (pa_cons (xv 3) pa_nil))) pa_nil)))) (pa_cons (pe_tup (pa_cons pe_str (pa_cons (xv 2) pa_nil))) (pa_cons (xv 4) pa_nil)))))))
      pss_nil)
      (pss_one (ps_ret (pe_call G_form (hr.mono (by omega)) (by rfl) T.g_form T.F_form.kp T.b_form .nil pass0 (pa_cons (xv 0) (pa_cons (pe_lst (pa_cons pe_str (pa_cons pe_str pa_nil))) (pa_cons (pe_op op_addY pe_int (pe_call G_pick (hr.mono (by omega)) (by rfl) T.g_pick T.F_pick.kp T.b_pick .nil pass0 (pa_cons (xv 0) (pa_cons pe_int pa_nil)))) pa_nil))))))))))))))))))), ?_⟩
    refine ⟨G, M, b, o, 12, rfl, S, B, by decide, by decide, fun way o1 H1 w0 w1 B1 S1 => ?_⟩
    refine ⟨sz, fun l2 nl2 => ?_⟩
    obtain ⟨G2, s2, S2, h2⟩ := Sep.mk (o := .lst [.int 9, .int 9, .int 0, .int 1, .int 2, .int 3, .int 4, .int 5, .int 6, .int 7, .int 8]) S1 nl2
    refine ⟨G2, M, b, o1, l2, _, rfl, S2, B1.same s2, SqL.of h2, by decide, by decide, fun v3 o3 H3 hv3 B3 S3 => ?_⟩
    obtain ⟨n3, rfl, n30, n31⟩ := in_ints [9, 9, 0, 1, 2, 3, 4, 5, 6, 7, 8] (by decide) hv3
    refine ⟨sz, fun l4 nl4 => ?_⟩
    obtain ⟨G4, s4, S4, h4⟩ := Sep.mk (o := .lst [.int 4, .int 4, .int 0, .int 1, .int 2, .int 3]) S3 nl4
    refine ⟨G4, M, b, o3, l4, _, rfl, S4, B3.same s4, SqL.of h4, by decide, by decide, fun v5 o5 H5 hv5 B5 S5 => ?_⟩
    obtain ⟨n5, rfl, n50, n51⟩ := in_ints [4, 4, 0, 1, 2, 3] (by decide) hv5
    refine ⟨sz, fun t6 nt6 => ?_⟩
    obtain ⟨G6, s6, S6, f6⟩ := fGet (x := "item") S5 nt6
    have B6 := B5.same s6
    have s06 := s2.trans (s4.trans s6)
    have okI : Fm.ok (.get "item") := .inl rfl
    have okA : Fm.ok (.get "at") := .inr rfl
    have okW : Fm.ok (.is n3) := ⟨n30, n31⟩
    have okS : Fm.ok (.is n5) := ⟨n50, n51⟩
    refine ⟨fun _ => q _ _ _ _ _ s06 f6 okI (by decide) B6 S6, fun _ => ?_⟩
    refine ⟨fun _ => ⟨sz, fun t nt => ?_⟩, fun _ => ?_⟩
    · obtain ⟨G7, s7, S7, f7⟩ := fGet (x := "at") S6 nt
      exact q _ _ _ _ _ (s06.trans s7) f7 okA (by decide) (B6.same s7) S7
    refine ⟨fun _ => ⟨sz, fun t nt => ?_⟩, fun _ => ?_⟩
    · obtain ⟨G7, s7, S7, f7⟩ := fIs (n := n3) S6 nt
      exact q _ _ _ _ _ (s06.trans s7) f7 okW (by simp [Fm.dep]) (B6.same s7) S7
    refine ⟨fun _ => ⟨sz, fun t nt => ⟨sz, fun t2 nt2 => ?_⟩⟩, fun _ => ?_⟩
    · obtain ⟨G7, s7, S7, f7⟩ := fIs (n := n3) S6 nt
      obtain ⟨G8, s8, S8, f8⟩ := fSum S7 nt2 (f6.same' s7) f7
      exact q _ _ _ _ _ (s06.trans (s7.trans s8)) f8 ⟨okI, okW⟩ (by simp [Fm.dep]) (B6.same (s7.trans s8)) S8
    refine ⟨fun _ => ⟨sz, fun t nt => ?_⟩, fun _ => ?_⟩
    · obtain ⟨G7, s7, S7, f7⟩ := fSum S6 nt f6 f6
      exact q _ _ _ _ _ (s06.trans s7) f7 ⟨okI, okI⟩ (by simp [Fm.dep]) (B6.same s7) S7
    refine ⟨fun _ => ⟨sz, fun t nt => ⟨sz, fun t2 nt2 => ?_⟩⟩, fun _ => ?_⟩
    · obtain ⟨G7, s7, S7, f7⟩ := fIs (n := n3) S6 nt
      obtain ⟨G8, s8, S8, f8⟩ := fSame S7 nt2 (f6.same' s7) f7
      exact q _ _ _ _ _ (s06.trans (s7.trans s8)) f8 ⟨okI, okW⟩ (by simp [Fm.dep]) (B6.same (s7.trans s8)) S8
    refine ⟨fun _ => ⟨sz, fun t nt => ⟨sz, fun t2 nt2 => ?_⟩⟩, fun _ => ?_⟩
    · obtain ⟨G7, s7, S7, f7⟩ := fIs (n := n3) S6 nt
      obtain ⟨G8, s8, S8, f8⟩ := fSame S7 nt2 (f6.same' s7) f7
      refine ⟨G8, M, b, _, 10, rfl, S8, B6.same (s7.trans s8), by decide, by decide, fun r9 o9 H9 r90 r91 B9 S9 => ⟨sz, fun t3 nt3 => ⟨sz, fun t4 nt4 => ?_⟩⟩⟩
      obtain ⟨Ga, sa, Sa, fa⟩ := fIs (n := r9) S9 nt3
      obtain ⟨Gb, sb, Sb, fb⟩ := fPick Sa nt4 (f8.same' sa) fa (f6.same' (s7.trans (s8.trans sa)))
      exact q _ _ _ _ _ (s06.trans (s7.trans (s8.trans (sa.trans sb)))) fb ⟨⟨okI, okW⟩, ⟨r90, by omega⟩, okI⟩ (by simp [Fm.dep]) (B9.same (sa.trans sb)) Sb
    refine ⟨fun _ => ⟨sz, fun t nt => ⟨sz, fun t2 nt2 => ?_⟩⟩, fun _ => ?_⟩
    · obtain ⟨G7, s7, S7, f7⟩ := fGet (x := "at") S6 nt
      obtain ⟨G8, s8, S8, f8⟩ := fSum S7 nt2 (f6.same' s7) f7
      exact q _ _ _ _ _ (s06.trans (s7.trans s8)) f8 ⟨okI, okA⟩ (by simp [Fm.dep]) (B6.same (s7.trans s8)) S8
    refine ⟨fun _ => ⟨sz, fun t nt => ⟨sz, fun t2 nt2 => ⟨sz, fun t3 nt3 => ⟨sz, fun t4 nt4 => ⟨sz, fun t5 nt5 => ?_⟩⟩⟩⟩⟩, fun _ => ?_⟩
    · obtain ⟨G7, s7, S7, f7⟩ := fGet (x := "at") S6 nt
      obtain ⟨G8, s8, S8, f8⟩ := fIs (n := n5) S7 nt2
      obtain ⟨G9, s9, S9, f9⟩ := fSame S8 nt3 (f7.same' s8) f8
      obtain ⟨Ga, sa, Sa, fa⟩ := fIs (n := n3) S9 nt4
      obtain ⟨Gb, sb, Sb, fb⟩ := fPick Sa nt5 (f9.same' sa) fa (f6.same' (s7.trans (s8.trans (s9.trans sa))))
      exact q _ _ _ _ _ (s06.trans (s7.trans (s8.trans (s9.trans (sa.trans sb))))) fb ⟨⟨okA, okS⟩, okW, okI⟩ (by simp [Fm.dep]) (B6.same (s7.trans (s8.trans (s9.trans (sa.trans sb))))) Sb
    refine ⟨sz, fun l7 nl7 => ?_⟩
    obtain ⟨G7, s7, S7, h7⟩ := Sep.mk (o := .lst [.str "item", .str "at"]) S6 nl7
    refine ⟨G7, M, b, _, 4, rfl, S7, B6.same s7, by decide, by decide, fun r8 o8 H8 r80 r81 B8 S8 => ?_⟩
    refine ⟨G7, M, b, o8, l7, _, 2 + r8, rfl, S8, B8, SqL.of h7, by decide, by decide, fun x hx => ?_, by omega, by omega, fun v f o9 G9 H9 s9 f9 ok9 d9 B9 S9 => q _ _ _ _ _ (s06.trans (s7.trans s9)) f9 ok9 (by omega) B9 S9⟩
    rcases List.mem_cons.mp hx with rfl | hx
    · exact ⟨_, rfl, .inl rfl⟩
    · rw [List.mem_singleton.mp hx]
      exact ⟨_, rfl, .inr rfl⟩

end
end K28
set_option Elab.async false
set_option linter.all false
set_option maxRecDepth 100000
set_option maxHeartbeats 4000000
namespace K28
open PySem PySem.Spec PyProof.Rows L2 XL
section
variable {P : Program} {w : World} {K : PySem.W.Frag} {mg : Str → Option Value} {base : Heap}
/-! ### idents: no two alike -/
theorem ids_nodup (f : Fm) (ns : List Int) : (ids f ns).Nodup := by
  unfold ids List.Nodup
  rw [List.pairwise_map]
  refine List.Pairwise.imp ?_ List.pairwise_lt_range
  intro a b hab e
  have e1 : gv f ns a = gv f ns b := congrArg Prod.fst e
  have e2 : (((List.range a).map (gv f ns)).count (gv f ns a) : Int) = (((List.range b).map (gv f ns)).count (gv f ns b) : Nat) := congrArg Prod.snd e
  have h1 : ((List.range (a + 1)).map (gv f ns)).count (gv f ns b) ≤ ((List.range b).map (gv f ns)).count (gv f ns b) := List.Sublist.count_le _ ((List.range_sublist.mpr (by omega)).map _)
  rw [List.range_succ, List.map_append, List.count_append, List.map_singleton, e1, List.count_singleton_self] at h1
  rw [e1] at e2
  omega
theorem ids_len (f : Fm) (ns : List Int) : (ids f ns).length = ns.length := by simp [ids]
theorem nodup_at {b : List (Int × Int)} (nd : b.Nodup) {k : Nat} {p : Int × Int} (hk : b[k]? = some p) {i : Nat} : b[i]? = some p ↔ i = k := by
  refine ⟨fun h => ?_, fun e => e ▸ hk⟩
  have h1 := (List.getElem?_eq_some_iff.mp h).1
  have h2 := (List.getElem?_eq_some_iff.mp hk).1
  exact (List.getElem?_inj h1 nd).mp (h.trans hk.symm)
theorem Pr.dp {K : PySem.W.Frag} {H : Hp} {v : V} {p : Int × Int} (h : Pr H v p) : Dp K H v (prd p) := by
  obtain ⟨a, rfl, ha⟩ := h
  exact .tup (SqT.of ha) (.cons (.int _) (.cons (.int _) .nil))
theorem prs_dp {K : PySem.W.Frag} {H : Hp} : ∀ {ws : List V} {ps : List (Int × Int)}, Paired (Pr H) ws ps → DpAll K H ws (ps.map prd)
  | _, _, .nil => .nil
  | _, _, .cons h t => .cons h.dp (prs_dp t)

/-! ### rows that a key tells apart, or takes for one -/
def Fine (b c : List (Int × Int)) (n1 n2 : List Int) (j : Nat) : Prop := ∀ i, i < n1.length → (b[i]? = c[j]? ↔ n1[i]? = n2[j]?)
def Alike (f : Fm) (n1 n2 : List Int) : Prop := ∀ j, j < n2.length → Fine (ids f n1) (ids f n2) n1 n2 j
theorem nodup_int {b : List Int} (nd : b.Nodup) {k : Nat} {p : Int} (hk : b[k]? = some p) {i : Nat} : b[i]? = some p ↔ i = k := by
  refine ⟨fun h => ?_, fun e => e ▸ hk⟩
  have h1 := (List.getElem?_eq_some_iff.mp h).1
  exact (List.getElem?_inj h1 nd).mp (h.trans hk.symm)
theorem getD_some {ns : List Int} {i : Nat} (h : i < ns.length) : ns[i]? = some (ns.getD i 0) := by
  rw [List.getD_eq_getElem?_getD, List.getElem?_eq_getElem h]
  rfl
structure RowId (f : Fm) (n : List Int) (G : Hp) (r rb : Addr) : Prop where
  row : Tu G r (n.map V.int)
  ok : RowOk n
  id : ∃ ws, TupF G rb ws ∧ Paired (Pr G) ws (ids f n)
theorem RowId.same {f : Fm} {n : List Int} {G G' : Hp} {r rb : Addr} (e : Same G G') (h : RowId f n G r rb) : RowId f n G' r rb := by
  obtain ⟨ws, h1, h2⟩ := h.id
  exact ⟨h.row.same e, h.ok, ws, h1.same e, prd_imp (fun _ _ => Pr.same e) h2⟩
def spWrong (K : PySem.W.Frag) : Sp := fun vs H Q _ => ∃ (f : Fm) (r1 b1 r2 b2 : Addr) (n1 n2 : List Int), vs = [.ref r1, .ref b1, .ref r2, .ref b2] ∧ RowId f n1 H r1 b1 ∧ RowId f n2 H r2 b2 ∧ ∀ c : Bool, (c = false ↔ Alike f n1 n2) → Q (.bl c) H
theorem ok_goes_wrong (T : Top K mg w) {k : Nat} : FnOk P w K mg base CX0 (k + 1) T.a_goes_wrong T.d_goes_wrong ["old", "before", "new", "behind"] (spWrong K) := by
  refine T.F_goes_wrong.ok sc_goes_wrong (fun vs H Q E h => ?_) (fun cdv A outer s H vs Q E hr h => ?_)
  · obtain ⟨f, r1, b1, r2, b2, n1, n2, rfl, _⟩ := h
    rfl
  · obtain ⟨f, r1, b1, r2, b2, n1, n2, rfl, R1, R2, q⟩ := h
    refine ⟨_, (pss_cons (ps_for PassesOwn.never rfl (pi_range1 (by rfl) T.m_range (pa_cons (pe_callB (cr_lenK K) (by rfl) T.m_len (by decide +kernel) (pa_cons (xv 2) pa_nil)) pa_nil)) (pg_name (i := 4) sc_goes_wrong.nd rfl (.inl rfl))
      (pss_one (xs_if (xt_cmp (in_deepK K (u65 hr)) (pe_ix (ix_k K) (xv 3) (xv 4) (fun _ _ => rfl)) (xv 1) (by rfl))
      (pss_one (xs_if (xt_cmp (op_neK K hr.units) (pe_ix (ix_k K) (xv 0) (pe_tm PySem.F.slot_tuple_index PySem.F.type_tuple_index (mt_tindexK K (u65 hr)) (xv 1) (pa_cons (pe_ix (ix_k K) (xv 3) (xv 4) (fun _ _ => rfl)) pa_nil)) (fun _ _ => rfl)) (pe_ix (ix_k K) (xv 2) (xv 4) (fun _ _ => rfl)) (nomark _))
      (pss_one (ps_ret pe_bl))
      pss_nil))
      (pss_one (xs_if (xt_cmp (in_seqK K) (pe_ix (ix_k K) (xv 2) (xv 4) (fun _ _ => rfl)) (xv 0) (by rfl))
      (pss_one (ps_ret pe_bl))
      pss_nil)))))
      (pss_one (ps_ret pe_bl))), ?_⟩
    obtain ⟨ws1, F1, P1⟩ := R1.id
    obtain ⟨ws2, F2, P2⟩ := R2.id
    have l1 := R1.ok.len
    have l2 := R2.ok.len
    have w1 := prd_len P1
    have w2 := prd_len P2
    rw [ids_len] at w1 w2
    have t1 : SqT K H r1 (n1.map V.int) := R1.row.sq
    have t2 : SqT K H r2 (n2.map V.int) := R2.row.sq
    refine ⟨_, .inr t2, _, rfl, by simp, by simp; omega, ?_⟩
    rw [show (((n2.map V.int).length : Nat) : Int).toNat = n2.length by simp]
    refine for_range (lo := 0) (n := n2.length) (fun j σ H' => ∃ (y4 : Option V), σ = [some (.ref r1), some (.ref b1), some (.ref r2), some (.ref b2), y4] ∧ H' = H ∧ ∀ i, i < j → Fine (ids f n1) (ids f n2) n1 n2 i)
      ⟨_, rfl, rfl, fun i hi => absurd hi (Nat.not_lt_zero i)⟩ (fun j σ H' hj h => ?_) (fun σ H' h => ?_)
    · obtain ⟨y4, rfl, rfl, fine⟩ := h
      rw [Int.zero_add]
      have hwj := List.getElem?_eq_getElem (show j < ws2.length by omega)
      obtain ⟨c, hc, pc⟩ := prd_get P2 hwj
      have D1 : Dp K H' (.ref b1) (.tuple ((ids f n1).map prd)) := .tup F1.tu.sq (prs_dp P1)
      have stop : Fine (ids f n1) (ids f n2) n1 n2 j → ∃ (y : Option V), ([some (.ref r1), some (.ref b1), some (.ref r2), some (.ref b2), some (.int (j : Nat))] : List (Option V)) = [some (.ref r1), some (.ref b1), some (.ref r2), some (.ref b2), y] ∧ H' = H' ∧ ∀ i, i < j + 1 → Fine (ids f n1) (ids f n2) n1 n2 i := fun hf => ⟨_, rfl, rfl, fun i hi => by
        rcases Nat.lt_succ_iff_lt_or_eq.mp hi with h | h
        · exact fine i h
        · rw [h]; exact hf⟩
      have bad : ∀ i, i < n1.length → ¬ ((ids f n1)[i]? = (ids f n2)[j]? ↔ n1[i]? = n2[j]?) → Q (.bl true) H' := fun i hi hb => q true ⟨fun e => (nomatch e), fun al => absurd (al j hj i hi) hb⟩
      refine ⟨_, _, .inr F2.tu.sq, atI_nat hwj, prd c, (ids f n1).map prd, pc.dp, .inr D1, prd_shaped c, prds_can _, fun e => ?_, fun e => ?_⟩
      · have e3 : decide (c ∈ ids f n1) = true := (any_prds c (ids f n1)).symm.trans e
        obtain ⟨k, hk⟩ := List.getElem?_of_mem (of_decide_eq_true e3)
        have kl := (List.getElem?_eq_some_iff.mp hk).1
        rw [ids_len] at kl
        refine ⟨⟨b1, ws1, rfl, F1⟩, _, _, .inr F2.tu.sq, atI_nat hwj, b1, _, prd c, (ids f n1).map prd, k, prd c, rfl, rfl, D1, pc.dp, prds_can _, prd_shaped c, ?_, SeqAt.eqv_refl _ (prd_can c), fun m z' hm hz' => ?_, _, _, .inr t1, at_int kl, _, _, .inr t2, at_int hj, fun e4 => ?_, fun e4 => ?_⟩
        · rw [List.getElem?_map, hk]
          rfl
        · rw [List.getElem?_map] at hz'
          obtain ⟨z, hz, rfl⟩ := Option.map_eq_some_iff.mp hz'
          rw [prd_eqv]
          refine decide_eq_false fun ez => ?_
          subst ez
          have := (nodup_at (ids_nodup f n1) hk).mp hz
          omega
        · have e5 : ¬ n1.getD k 0 = n2.getD j 0 := by simpa using e4
          refine bad k kl fun z => e5 ?_
          have z2 := z.mp (by rw [hk, hc])
          rw [getD_some kl, getD_some hj] at z2
          exact Option.some.inj z2
        · have e5 : n1.getD k 0 = n2.getD j 0 := by simpa using e4
          refine stop fun i hi => ?_
          rw [hc, nodup_at (ids_nodup f n1) hk, getD_some hj, ← e5]
          exact (nodup_int R1.ok.nd (getD_some kl)).symm
      · have e3 : decide (c ∈ ids f n1) = false := (any_prds c (ids f n1)).symm.trans e
        have no : ∀ i : Nat, ¬ (ids f n1)[i]? = (ids f n2)[j]? := fun i z => of_decide_eq_false e3 (List.mem_of_getElem? (z.trans hc))
        refine ⟨_, _, .inr t2, at_int hj, r1, _, rfl, .inr t1, rfl, ints_flat _, fun e4 => ?_, fun e4 => ?_⟩
        · have e5 : inV (.int (n2.getD j 0)) (n1.map V.int) = true := e4
          rw [inV_int] at e5
          obtain ⟨i, hi⟩ := List.getElem?_of_mem (of_decide_eq_true e5)
          exact bad i (List.getElem?_eq_some_iff.mp hi).1 fun z => no i (z.mpr (by rw [hi, getD_some hj]))
        · have e5 : inV (.int (n2.getD j 0)) (n1.map V.int) = false := e4
          rw [inV_int] at e5
          refine stop fun i hi => ⟨fun z => absurd z (no i), fun z => ?_⟩
          rw [getD_some hj] at z
          exact absurd (List.mem_of_getElem? z) (of_decide_eq_false e5)
    · obtain ⟨y4, rfl, rfl, fine⟩ := h
      exact q false ⟨fun _ => fine, fun _ => rfl⟩
/-! ### the first pair that goes wrong -/
def Ent (f : Fm) (G : Hp) (v : V) (e : Addr × List Int) : Prop := ∃ (t rb : Addr), v = .ref t ∧ G t = some (.tup [.ref e.1, .ref rb]) ∧ RowId f e.2 G e.1 rb
theorem Ent.same {f : Fm} {G G' : Hp} (e : Same G G') {v : V} {x : Addr × List Int} (h : Ent f G v x) : Ent f G' v x := by
  obtain ⟨t, rb, h1, h2, h3⟩ := h
  exact ⟨t, rb, h1, e _ _ h2, h3.same e⟩
/-- no pair up to (i, j) goes wrong -/
def FineTo (f : Fm) (xs ys : List (Addr × List Int)) (i j : Nat) : Prop := ∀ a b x y, (a < i ∨ a = i ∧ b < j) → xs[a]? = some x → ys[b]? = some y → Alike f x.2 y.2
def spFirst (K : PySem.W.Frag) : Sp := fun vs H Q _ => ∃ (f : Fm) (G : Hp) (M : List (Addr × HO)) (l1 l2 : Addr) (us vs' : List V) (xs ys : List (Addr × List Int)), vs = [.ref l1, .ref l2] ∧ Sep G M H ∧ G l1 = some (.lst us) ∧ G l2 = some (.lst vs') ∧ Paired (Ent f G) us xs ∧ Paired (Ent f G) vs' ys ∧
  ((∀ (a b : Nat) (x y : Addr × List Int), xs[a]? = some x → ys[b]? = some y → Alike f x.2 y.2) → Q .non H) ∧
  (∀ (i j : Nat) (x y : Addr × List Int) (t : Addr), xs[i]? = some x → ys[j]? = some y → FineTo f xs ys i j → ¬ Alike f x.2 y.2 → H t = none → Q (.ref t) (upd H t (.tup [.ref x.1, .ref y.1])))
theorem ok_first_going_wrong (T : Top K mg w) {k : Nat} (G_goes_wrong : FnOk P w K mg base CX0 k T.a_goes_wrong T.d_goes_wrong ["old", "before", "new", "behind"] (spWrong K)) :
    FnOk P w K mg base CX0 (k + 1) T.a_first_going_wrong T.d_first_going_wrong ["olds", "news"] (spFirst K) := by
  refine T.F_first_going_wrong.ok sc_first_going_wrong (fun vs H Q E h => ?_) (fun cdv A outer s H vs Q E hr h => ?_)
  · obtain ⟨f, G, M, l1, l2, us, vs', xs, ys, rfl, _⟩ := h
    rfl
  · obtain ⟨f, G, M, l1, l2, us, vs', xs, ys, rfl, S, h1, h2, P1, P2, q0, q1⟩ := h
    refine ⟨_, (pss_cons (ps_for PassesOwn.never rfl (pi_listK K (xv 0)) (pg_tupK K 2 (pgs_cons (pg_name (i := 2) sc_first_going_wrong.nd rfl (.inl rfl)) (pgs_cons (pg_name (i := 3) sc_first_going_wrong.nd rfl (.inl rfl)) pgs_nil)))
      (pss_one (ps_for PassesOwn.never rfl (pi_listK K (xv 1)) (pg_tupK K 2 (pgs_cons (pg_name (i := 4) sc_first_going_wrong.nd rfl (.inl rfl)) (pgs_cons (pg_name (i := 5) sc_first_going_wrong.nd rfl (.inl rfl)) pgs_nil)))
      (pss_one (xs_if (xt_truK K (pe_call G_goes_wrong (hr.mono (by omega)) (by rfl) T.g_goes_wrong T.F_goes_wrong.kp T.b_goes_wrong .nil pass0 (pa_cons (xv 2) (pa_cons (xv 3) (pa_cons (xv 4) (pa_cons (xv 5) pa_nil))))))
      (pss_one (ps_ret (pe_tup (pa_cons (xv 2) (pa_cons (xv 4) pa_nil)))))
      pss_nil)))))
      (pss_one (ps_ret pe_non))), ?_⟩
    have w1 := prd_len P1
    have w2 := prd_len P2
    refine ⟨l1, rfl, ⟨us, SqL.of (S.st h1)⟩, for_list (xs := us) (fun i σ H' => ∃ (y2 y3 y4 y5 : Option V), σ = [some (.ref l1), some (.ref l2), y2, y3, y4, y5] ∧ H' = H ∧ FineTo f xs ys i 0) ⟨_, _, _, _, rfl, rfl, fun a b x y h => absurd h (by omega)⟩
      (fun i σ H' _ h => ?_) (fun i v σ H' hv h => ?_) (fun σ H' h => ?_)⟩
    · obtain ⟨_, _, _, _, _, rfl, _⟩ := h
      exact SqL.of (S.st h1)
    · obtain ⟨y2, y3, y4, y5, rfl, rfl, fine⟩ := h
      obtain ⟨x, hx, t, rb, rfl, ht, R1⟩ := prd_get P1 hv
      refine ⟨t, _, rfl, SqT.of (S.st ht), rfl, _, _, rfl, _, _, rfl, rfl, ?_⟩
      refine ⟨l2, rfl, ⟨vs', SqL.of (S.st h2)⟩, for_list (xs := vs') (fun j σ H2 => ∃ (y4 y5 : Option V), σ = [some (.ref l1), some (.ref l2), some (.ref x.1), some (.ref rb), y4, y5] ∧ H2 = H' ∧ FineTo f xs ys i j) ⟨_, _, rfl, rfl, fine⟩
        (fun j σ H2 _ h => ?_) (fun j u σ H2 hu h => ?_) (fun σ H2 h => ?_)⟩
      · obtain ⟨_, _, _, rfl, _⟩ := h
        exact SqL.of (S.st h2)
      · obtain ⟨y4, y5, rfl, rfl, fine⟩ := h
        obtain ⟨y, hy, t2, rb2, rfl, ht2, R2⟩ := prd_get P2 hu
        refine ⟨t2, _, rfl, SqT.of (S.st ht2), rfl, _, _, rfl, _, _, rfl, rfl, ?_⟩
        refine ⟨f, x.1, rb, y.1, rb2, x.2, y.2, rfl, R1.same S.1, R2.same S.1, fun c hc => ⟨fun e => ⟨sz, fun t3 nt3 => ?_⟩, fun e => ?_⟩⟩
        · exact q1 i j x y t3 hx hy fine (fun al => by rw [hc.mpr al] at e; cases e) nt3
        · refine ⟨_, _, rfl, rfl, fun a b x' y' hab hx' hy' => ?_⟩
          by_cases z : a < i ∨ a = i ∧ b < j
          · exact fine a b x' y' z hx' hy'
          · obtain ⟨rfl, rfl⟩ : a = i ∧ b = j := by omega
            rw [hx] at hx'
            rw [hy] at hy'
            rw [← Option.some.inj hx', ← Option.some.inj hy']
            exact hc.mp e
      · obtain ⟨y4, y5, rfl, rfl, fine⟩ := h
        refine ⟨_, _, _, _, rfl, rfl, fun a b x' y' hab hx' hy' => ?_⟩
        have hb := (List.getElem?_eq_some_iff.mp hy').1
        exact fine a b x' y' (by omega) hx' hy'
    · obtain ⟨y2, y3, y4, y5, rfl, rfl, fine⟩ := h
      refine q0 fun a b x y hx hy => fine a b x y (.inl ?_) hx hy
      have ha := (List.getElem?_eq_some_iff.mp hx).1
      omega
/-! ### faithful -/
def RowsAt (G : Hp) (v : V) (x : Addr × List Int) : Prop := v = .ref x.1 ∧ TupF G x.1 (x.2.map V.int) ∧ RowOk x.2
theorem RowsAt.same {G G' : Hp} (e : Same G G') {v : V} {x : Addr × List Int} (h : RowsAt G v x) : RowsAt G' v x := ⟨h.1, h.2.1.same e, h.2.2⟩
def spFaithful (K : PySem.W.Frag) (C : Addr) : Sp := fun vs H Q _ => ∃ (f : Fm) (G : Hp) (M : List (Addr × HO)) (v : V) (m : Addr) (us : List V) (xs : List (Addr × List Int)), vs = [v, .ref m] ∧ Sep G M H ∧ KeyAt C G v f ∧ Tu G m us ∧ Paired (RowsAt G) us xs ∧ us.length ≤ 1000 ∧
  (∀ (G' H' : Hp), (∀ (a b : Nat) (x y : Addr × List Int), xs[a]? = some x → xs[b]? = some y → Alike f x.2 y.2) → Same G G' → Sep G' M H' → Q .non H') ∧
  (∀ (i j : Nat) (x y : Addr × List Int) (t : Addr) (G' H' : Hp), xs[i]? = some x → xs[j]? = some y → FineTo f xs xs i j → ¬ Alike f x.2 y.2 → Same G G' → Sep G' M H' → G' t = some (.tup [.ref x.1, .ref y.1]) → Q (.ref t) H')
theorem ok_faithful (T : Top K mg w) (G_Key_idents : FnOk P w K mg base CX0 8 T.a_Key_idents T.d_Key_idents ["self", "row"] (spKIdents T.C_Key))
    (G_first_going_wrong : FnOk P w K mg base CX0 8 T.a_first_going_wrong T.d_first_going_wrong ["olds", "news"] (spFirst K)) :
    FnOk P w K mg base CX0 9 T.a_faithful T.d_faithful ["key", "menu"] (spFaithful K T.C_Key) := by
  refine T.F_faithful.ok sc_faithful (fun vs H Q E h => ?_) (fun cdv A outer s H vs Q E hr h => ?_)
  · obtain ⟨f, G, M, v, m, us, xs, rfl, _⟩ := h
    rfl
  · obtain ⟨f, G, M, v, m, us, xs, rfl, S, hk, hm, pu, ul, q0, q1⟩ := h
    refine ⟨_, (pss_cons (ps_setLc (i := 2) (own := [("row", 3)]) (by rfl) sc_faithful.nd rfl rfl (sw_true rfl rfl rfl (by decide +kernel)) (pi_tupK K (xv 1)) (blkOk_by (N := ["key", "menu", "listed", "row"]) (sc := defScope s_faithful) (by decide +kernel)) (fun _ _ _ _ _ => (pg_name (i := 3) sc_faithful.nd rfl (.inl rfl))) (fun _ _ _ _ _ => pts_nil) (fun _ _ _ _ _ => (pe_tup (pa_cons (xv 3) (pa_cons (pe_meth (xv 0) T.cl_Key T.me_Key_idents G_Key_idents (hr.mono (by omega)) T.b_Key_idents .nil pass0 (pa_cons (xv 3) pa_nil)) pa_nil)))))
      (pss_one (ps_ret (pe_call G_first_going_wrong (hr.mono (by omega)) (by rfl) T.g_first_going_wrong T.F_first_going_wrong.kp T.b_first_going_wrong .nil pass0 (pa_cons (xv 2) (pa_cons (xv 2) pa_nil)))))), ?_⟩
    have uw := prd_len pu
    refine ⟨m, rfl, ⟨us, (hm.same S.1).sq⟩, fun D nD => lc_tup (xs := us) (fun i H' => ∃ (G' : Hp) (ws : List V), Same G G' ∧ Sep G' ((D, .lst ws) :: M) H' ∧ Paired (Ent f G') ws (xs.take i))
      ⟨G, [], Same.refl _, S.new nD, .nil⟩ (fun i H' _ p' => ?_) (fun i y H' hy p' => ?_) (fun H' p' => ?_)⟩
    · obtain ⟨G', ws, s', S', _⟩ := p'
      exact ((hm.same s').same S'.1).sq
    · obtain ⟨G', ws, s', S', hw⟩ := p'
      obtain ⟨x, hx, rfl, hrow, hok⟩ := prd_get pu hy
      have kk := hk.same s'
      obtain ⟨kx, dx, u, rfl, hkx, hu⟩ := hk.same s'
      have wl := prd_len hw
      rw [List.length_take] at wl
      refine ⟨rfl, kx, dx, _, rfl, S'.st hkx, rfl, G', _, _, f, x.1, x.2, rfl, S', kk, (hrow.same s').tu, hok, fun p ws2 G2 H2 s2 S2 hp pr => ⟨sz, fun t nt => ?_⟩⟩
      have S3 := S2.newG (o := .tup [.ref x.1, .ref p]) nt
      have s3 := S2.grow (o := .tup [.ref x.1, .ref p]) nt
      refine ⟨ws, S3.hd, smallL (by omega), _, ws ++ [.ref t], s'.trans (s2.trans s3), S3.set, ?_⟩
      rw [XL.take_snoc hx]
      exact (prd_imp (fun _ _ => Ent.same (s2.trans s3)) hw).snoc ⟨t, p, rfl, upd_same, (hrow.same (s'.trans (s2.trans s3))).tu, hok, ws2, hp.same s3, prd_imp (fun _ _ => Pr.same s3) pr⟩
    · obtain ⟨G', ws, s', S', hw⟩ := p'
      rw [uw, List.take_length] at hw
      have S3 := S'.frz
      have s3 := S'.frzS
      have P3 := prd_imp (fun _ _ => Ent.same s3) hw
      refine ⟨f, _, M, D, D, ws, ws, xs, xs, rfl, S3, upd_same, upd_same, P3, P3, fun al => q0 _ _ al (s'.trans s3) S3, fun i j x y t hx hy fine na nt => ?_⟩
      exact q1 i j x y t _ _ hx hy fine na (s'.trans (s3.trans (S3.grow nt))) (S3.newG nt) upd_same

end
end K28
set_option Elab.async false
set_option linter.all false
set_option maxRecDepth 100000
set_option maxHeartbeats 4000000
namespace K28
open PySem PySem.Spec PyProof.Rows L2 XL
section
variable {P : Program} {w : World} {K : PySem.W.Frag} {mg : Str → Option Value} {base : Heap}
/-! ### numbers by keys, in order -/
section
variable {α : Type} [DecidableEq α]
def look (b : List α) (num : List Int) (p : α) : Option Int := ((b.zip num).find? fun z => decide (z.1 = p)).map (·.2)
theorem look_nil (p : α) : look ([] : List α) [] p = none := rfl
theorem look_at : ∀ {b : List α} {num : List Int} {i : Nat} {p : α} {v : Int}, b.Nodup → b[i]? = some p → num[i]? = some v → look b num p = some v
  | [], _, _, _, _, _, h, _ => by simp at h
  | _ :: _, [], _, _, _, _, _, h => by simp at h
  | x :: r, y :: t, 0, p, v, nd, h1, h2 => by
    simp at h1 h2
    subst h1 h2
    simp [look]
  | x :: r, y :: t, i + 1, p, v, nd, h1, h2 => by
    rw [List.getElem?_cons_succ] at h1 h2
    have nd' := List.nodup_cons.mp nd
    have ne : ¬ x = p := fun e => nd'.1 (e ▸ List.mem_of_getElem? h1)
    have z := look_at nd'.2 h1 h2
    unfold look at z ⊢
    rw [List.zip_cons_cons, List.find?_cons_of_neg (by simpa using ne)]
    exact z
theorem look_none : ∀ {b : List α} {num : List Int} {p : α}, p ∉ b → look b num p = none
  | [], _, _, _ => by simp [look]
  | _ :: _, [], _, _ => by simp [look]
  | x :: r, y :: t, p, h => by
    have ne : ¬ x = p := fun e => h (e ▸ List.mem_cons_self)
    have z := look_none (num := t) fun e => h (List.mem_cons_of_mem _ e)
    unfold look at z ⊢
    rw [List.zip_cons_cons, List.find?_cons_of_neg (by simpa using ne)]
    exact z
theorem look_snoc {b : List α} {num : List Int} {p : α} {v : Int} (hl : b.length = num.length) (hp : p ∉ b) (q : α) : look (b ++ [p]) (num ++ [v]) q = if q = p then some v else look b num q := by
  unfold look
  rw [List.zip_append hl, List.find?_append]
  by_cases e : q = p
  · subst e
    have z : (b.zip num).find? (fun z => decide (z.1 = q)) = none := by
      have z := look_none (num := num) hp
      unfold look at z
      exact Option.map_eq_none_iff.mp z
    rw [z, if_pos rfl]
    simp
  · rw [if_neg e]
    have ne : ¬ p = q := fun h => e h.symm
    cases (b.zip num).find? (fun z => decide (z.1 = q)) <;> simp [ne]
theorem look_set : ∀ {b : List α} {num : List Int} {j : Nat} {p : α} {v : Int}, b.Nodup → b[j]? = some p → b.length = num.length → ∀ q, look b (num.set j v) q = if q = p then some v else look b num q
  | [], _, _, _, _, _, h, _, _ => by simp at h
  | _ :: _, [], _, _, _, _, _, h, _ => by simp at h
  | x :: r, y :: t, 0, p, v, nd, h, hl, q => by
    simp at h
    subst h
    by_cases e : q = x
    · subst e; simp [look]
    · have ne : ¬ x = q := fun h => e h.symm
      simp [look, e, ne]
  | x :: r, y :: t, j + 1, p, v, nd, h, hl, q => by
    rw [List.getElem?_cons_succ] at h
    have nd' := List.nodup_cons.mp nd
    have ne : ¬ x = p := fun e => nd'.1 (e ▸ List.mem_of_getElem? h)
    have z := look_set (v := v) nd'.2 h (by simpa using hl) q
    by_cases e : x = q
    · subst e
      simp [look, ne]
    · unfold look at z ⊢
      rw [List.set_cons_succ, List.zip_cons_cons, List.zip_cons_cons, List.find?_cons_of_neg (by simpa using e), List.find?_cons_of_neg (by simpa using e)]
      exact z
/-- the dict kvs holds the numbers num at the keys b -/
structure Hold {κ : Type} [DecidableEq κ] (key : α → κ) (kvs : List (κ × V)) (b : List α) (num : List Int) : Prop where
  at_ : ∀ p, valV kvs (key p) = (look b num p).map V.int
  len : kvs.length ≤ b.length
  num : b.length = num.length
theorem Hold.nil {κ : Type} [DecidableEq κ] {key : α → κ} : Hold key [] ([] : List α) [] := ⟨fun _ => rfl, Nat.le_refl _, rfl⟩
theorem Hold.snoc {κ : Type} [DecidableEq κ] {key : α → κ} (inj : ∀ p q, key p = key q → p = q) {kvs : List (κ × V)} {b : List α} {num : List Int} (h : Hold key kvs b num) {p : α} {v : Int} (hp : p ∉ b) : Hold key (putK kvs (key p) (.int v)) (b ++ [p]) (num ++ [v]) := by
  refine ⟨fun q => ?_, ?_, by simp [h.num]⟩
  · rw [valV_put, look_snoc h.num hp]
    by_cases e : q = p
    · subst e; rw [if_pos rfl, if_pos rfl]; rfl
    · rw [if_neg (fun z => e (inj _ _ z)), if_neg e]
      exact h.at_ q
  · have z : valV kvs (key p) = none := by rw [h.at_, look_none hp]; rfl
    rw [putK_new _ z, List.length_append, List.length_append]
    have := h.len
    simp
    omega
theorem Hold.set {κ : Type} [DecidableEq κ] {key : α → κ} (inj : ∀ p q, key p = key q → p = q) {kvs : List (κ × V)} {b : List α} {num : List Int} (nd : b.Nodup) (h : Hold key kvs b num) {p : α} {j : Nat} {v : Int} (hp : b[j]? = some p) (hl : (putK kvs (key p) (.int v)).length = kvs.length) : Hold key (putK kvs (key p) (.int v)) b (num.set j v) := by
  refine ⟨fun q => ?_, by rw [hl]; exact h.len, by rw [List.length_set]; exact h.num⟩
  rw [valV_put, look_set nd hp h.num]
  by_cases e : q = p
  · subst e; rw [if_pos rfl, if_pos rfl]; rfl
  · rw [if_neg (fun z => e (inj _ _ z)), if_neg e]
    exact h.at_ q
end
theorem putK_same {κ : Type} [DecidableEq κ] {kvs : List (κ × V)} {k : κ} {v w : V} (h : valV kvs k = some w) : (putK kvs k v).length = kvs.length := by
  unfold putK
  have z : (kvs.any fun kv => decide (kv.1 = k)) = true := by
    unfold valV at h
    cases e : kvs.find? (fun kv => decide (kv.1 = k)) with
    | none => rw [e] at h; cases h
    | some kv => exact List.any_eq_true.mpr ⟨kv, List.mem_of_find?_eq_some e, List.find?_some (p := fun kv : κ × V => decide (kv.1 = k)) e⟩
  rw [if_pos z, List.length_map]
def kk (p : Int × Int) : List Key := [.inl p.1, .inl p.2]
theorem kk_inj (p q : Int × Int) (h : kk p = kk q) : p = q := by
  unfold kk at h
  injection h with h1 h2
  injection h2 with h2 _
  injection h1 with h1
  injection h2 with h2
  exact Prod.ext h1 h2
theorem inl_inj (p q : Int) (h : (Sum.inl p : Key) = Sum.inl q) : p = q := Sum.inl.inj h

end
end K28
set_option Elab.async false
set_option linter.all false
set_option maxRecDepth 100000
set_option maxHeartbeats 4000000
namespace K28
open PySem PySem.Spec PyProof.Rows L2 XL
section
variable {P : Program} {w : World} {K : PySem.W.Frag} {mg : Str → Option Value} {base : Heap}
/-! ### fields -/
theorem putF_ne {f g : Str} {v x : V} {r : List (Str × V)} (h : decide (g = f) = false := by decide +kernel) : putF f v ((g, x) :: r) = (g, x) :: putF f v r := by
  show (if g = f then _ else _) = _
  rw [if_neg (of_decide_eq_false h)]
theorem putF_eq {f : Str} {v x : V} {r : List (Str × V)} : putF f v ((f, x) :: r) = (f, v) :: r := by
  show (if f = f then _ else _) = _
  rw [if_pos rfl]
theorem putF_nil {f : Str} {v : V} : putF f v [] = [(f, v)] := rfl
theorem lk_ne {f g : Str} {x : V} {r : List (Str × V)} (h : (f == g) = false := by decide +kernel) : List.lookup f ((g, x) :: r) = List.lookup f r := by simp [List.lookup, h]
theorem lk_eq {f : Str} {x : V} {r : List (Str × V)} : List.lookup f ((f, x) :: r) = some x := by simp [List.lookup]
/-! ### Known -/
def kF (kv : V) (r p d : Addr) : List (Str × V) := [("key", kv), ("row", .ref r), ("known_by", .ref p), ("numbers", .ref d)]
theorem kF_key {kv : V} {r p d : Addr} : (kF kv r p d).lookup ("key" : Str) = some kv := by unfold kF; rw [lk_eq]
theorem kF_row {kv : V} {r p d : Addr} : (kF kv r p d).lookup ("row" : Str) = some (V.ref r) := by unfold kF; rw [lk_ne, lk_eq]
theorem kF_kb {kv : V} {r p d : Addr} : (kF kv r p d).lookup ("known_by" : Str) = some (V.ref p) := by unfold kF; rw [lk_ne, lk_ne, lk_eq]
theorem kF_num {kv : V} {r p d : Addr} : (kF kv r p d).lookup ("numbers" : Str) = some (V.ref d) := by unfold kF; rw [lk_ne, lk_ne, lk_ne, lk_eq]
structure KnOk (G : Hp) (Ck : Addr) (f : Fm) (n num : List Int) (kv : V) (r p : Addr) (kvs : List (List Key × V)) : Prop where
  key : KeyAt Ck G kv f
  row : TupF G r (n.map V.int)
  ok : RowOk n
  id : ∃ ws, TupF G p ws ∧ Paired (Pr G) ws (ids f n)
  hold : Hold kk kvs (ids f n) num
theorem KnOk.same {G G' : Hp} {Ck : Addr} {f : Fm} {n num : List Int} {kv : V} {r p : Addr} {kvs : List (List Key × V)} (e : Same G G') (h : KnOk G Ck f n num kv r p kvs) : KnOk G' Ck f n num kv r p kvs := by
  obtain ⟨ws, h1, h2⟩ := h.id
  exact ⟨h.key.same e, h.row.same e, h.ok, ⟨ws, h1.same e, prd_imp (fun _ _ => Pr.same e) h2⟩, h.hold⟩
def spKnInit (C Ck : Addr) : Sp := fun vs H Q _ => ∃ (G : Hp) (M : List (Addr × HO)) (x dx : Addr) (kv : V) (r : Addr) (f : Fm) (n : List Int), vs = [.ref x, kv, .ref r] ∧ Sep G ((x, .ins C dx []) :: M) H ∧ KeyAt Ck G kv f ∧ TupF G r (n.map V.int) ∧ RowOk n ∧
  ∀ (p d : Addr) (kvs : List (List Key × V)) (G' H' : Hp), Same G G' → KnOk G' Ck f n (List.replicate n.length 0) kv r p kvs → Sep G' ((x, .ins C dx (kF kv r p d)) :: (d, .dT kvs) :: M) H' → Q .non H'
theorem ok_Known_init (T : Top K mg w) (G_Key_idents : FnOk P w K mg base CX0 8 T.a_Key_idents T.d_Key_idents ["self", "row"] (spKIdents T.C_Key)) :
    FnOk P w K mg base CX0 9 T.a_Known_init T.d_Known_init ["self", "key", "row"] (spKnInit T.C_Known T.C_Key) := by
  refine T.F_Known_init.ok sc_Known_init (fun vs H Q E h => ?_) (fun cdv A outer s H vs Q E hr h => ?_)
  · obtain ⟨G, M, x, dx, kv, r, f, n, rfl, _⟩ := h
    rfl
  · obtain ⟨G, M, x, dx, kv, r, f, n, rfl, S, hk, hr', ro, q⟩ := h
    refine ⟨_, (pss_cons (ps_fld (xv 0) (xv 1) rfl)
      (pss_cons (ps_fld (xv 0) (xv 2) rfl)
      (pss_cons (ps_fld (xv 0) (pe_meth (xv 1) T.cl_Key T.me_Key_idents G_Key_idents (hr.mono (by omega)) T.b_Key_idents .nil pass0 (pa_cons (xv 2) pa_nil)) rfl)
      (pss_cons (ps_fld (xv 0) pe_dnewT rfl)
      (pss_one (ps_for PassesOwn.never rfl (pi_tupK K (pe_fldK K (xv 0))) (pg_name (i := 3) sc_Known_init.nd rfl (.inl rfl))
      (pss_one (ps_dput (hu_of hr) (pe_fldK K (xv 0)) (xv 3) pe_int rfl)))))))), ?_⟩
    refine ⟨x, T.C_Known, dx, [], rfl, S.hd, T.cl_Known, T.na_Known_key, by decide, ?_⟩
    have S1 := S.set (o' := .ins T.C_Known dx [("key", kv)])
    refine ⟨x, T.C_Known, dx, _, rfl, S1.hd, T.cl_Known, T.na_Known_row, by simp, ?_⟩
    rw [putF_ne, putF_nil]
    have S2 := S1.set (o' := .ins T.C_Known dx [("key", kv), ("row", .ref r)])
    have kk' := hk
    obtain ⟨kx, kdx, u, rfl, hkx, hu⟩ := hk
    refine ⟨kx, kdx, _, rfl, S2.st hkx, rfl, G, _, _, f, r, n, rfl, S2, kk', hr'.tu, ro, fun p ws G3 H3 s3 S3 hp pr => ?_⟩
    refine ⟨x, T.C_Known, dx, _, rfl, S3.hd, T.cl_Known, T.na_Known_known_by, by simp, ?_⟩
    rw [putF_ne, putF_ne, putF_nil]
    have S4 := S3.set (o' := .ins T.C_Known dx [("key", .ref kx), ("row", .ref r), ("known_by", .ref p)])
    intro d nd
    have S5 := (S4.new (o := .dT []) nd).sw
    refine ⟨x, T.C_Known, dx, _, rfl, S5.hd, T.cl_Known, T.na_Known_numbers, by simp, ?_⟩
    rw [putF_ne, putF_ne, putF_ne, putF_nil]
    have S6 := S5.set (o' := .ins T.C_Known dx (kF (.ref kx) r p d))
    have wl := prd_len pr
    have l5 := ro.len
    rw [ids_len] at wl
    refine ⟨x, T.C_Known, dx, _, _, rfl, S6.hd, T.cl_Known, T.na_Known_known_by, kF_kb, p, rfl, ⟨ws, (hp.same S6.1).tu.sq⟩, for_tup (xs := ws) (fun i σ H' => ∃ (y3 : Option V) (kvs : List (List Key × V)), σ = [some (.ref x), some (.ref kx), some (.ref r), y3] ∧ Sep G3 ((x, .ins T.C_Known dx (kF (.ref kx) r p d)) :: (d, .dT kvs) :: M) H' ∧ Hold kk kvs ((ids f n).take i) (List.replicate i 0))
      ⟨_, [], rfl, S6, Hold.nil⟩ (fun i σ H' _ h => ?_) (fun i y σ H' hy h => ?_) (fun σ H' h => ?_)⟩
    · obtain ⟨_, _, _, S', _⟩ := h
      exact (hp.same S'.1).tu.sq
    · obtain ⟨y3, kvs, rfl, S7, hh⟩ := h
      obtain ⟨c, hc, a, rfl, ha⟩ := prd_get pr hy
      have hl := hh.len
      rw [List.length_take, ids_len] at hl
      have S8 := S7.sw
      have nm : c ∉ (ids f n).take i := fun hm => by
        have nd := ids_nodup f n
        rw [(take_pre hc).1, List.nodup_append] at nd
        exact nd.2.2 c hm c (by simp) rfl
      refine ⟨x, T.C_Known, dx, _, _, rfl, S7.hd, T.cl_Known, T.na_Known_numbers, kF_num, d, _, rfl, DPut.t (k := kk c) S8.hd (S7.st ha) (smallL (by omega)), _, _, rfl, (S8.set).sw, ?_⟩
      rw [XL.take_snoc hc, List.replicate_succ']
      exact hh.snoc kk_inj nm
    · obtain ⟨y3, kvs, rfl, S7, hh⟩ := h
      rw [List.take_of_length_le (by rw [ids_len]; omega), wl] at hh
      exact q p d kvs _ _ s3 ⟨kk'.same s3, hr'.same s3, ro, ⟨ws, hp, pr⟩, hh⟩ S7
theorem int_first {n : List Int} (nd : n.Nodup) {j : Nat} {it : Int} (h : n[j]? = some it) (m : Nat) (z' : PyData) (hm : m < j) (hz : (n.map PyData.int)[m]? = some z') : PyData.eqv z' (.int it) = false := by
  rw [List.getElem?_map] at hz
  obtain ⟨z, hz', rfl⟩ := Option.map_eq_some_iff.mp hz
  show (z == it) = false
  rw [beq_eq_false_iff_ne]
  intro e
  subst e
  have := (nodup_int nd h).mp hz'
  omega
theorem int_at {n : List Int} {j : Nat} {it : Int} (h : n[j]? = some it) : (n.map PyData.int)[j]? = some (.int it) := by
  rw [List.getElem?_map, h]
  rfl
theorem in_row {n : List Int} {it : Int} {j : Nat} (h : n[j]? = some it) {A : Prop} (e : (if true = true then !inV (V.int it) (n.map V.int) else inV (V.int it) (n.map V.int)) = true) : A := by
  rw [if_pos rfl, inV_int, decide_eq_true (List.mem_of_getElem? h)] at e
  cases e
def spKnGet (K : PySem.W.Frag) (C Ck : Addr) : Sp := fun vs H Q _ => ∃ (G : Hp) (M : List (Addr × HO)) (x dx : Addr) (kv : V) (r p d : Addr) (kvs : List (List Key × V)) (f : Fm) (n num : List Int) (j : Nat) (it : Int), vs = [.ref x, .int it] ∧ Sep G M H ∧ H x = some (.ins C dx (kF kv r p d)) ∧ H d = some (.dT kvs) ∧ KnOk G Ck f n num kv r p kvs ∧ n[j]? = some it ∧
  Q (.int (num.getD j 0)) H
theorem ok_Known_getitem (T : Top K mg w) {k : Nat} : FnOk P w K mg base CX0 (k + 1) T.a_Known_getitem T.d_Known_getitem ["self", "item"] (spKnGet K T.C_Known T.C_Key) := by
  refine T.F_Known_getitem.ok sc_Known_getitem (fun vs H Q E h => ?_) (fun cdv A outer s H vs Q E hr h => ?_)
  · obtain ⟨G, M, x, dx, kv, r, p, d, kvs, f, n, num, j, it, rfl, _⟩ := h
    rfl
  · obtain ⟨G, M, x, dx, kv, r, p, d, kvs, f, n, num, j, it, rfl, S, hx, hd, ko, hj, q⟩ := h
    refine ⟨_, (pss_cons (xs_if (PW.pt (xw_or (xt_truK K (pe_callB (call_isK K) (by rfl) T.m_isinstance (by decide +kernel) (pa_cons (xv 1) (pa_cons (pe_bltn (v := .ty "bool") (by rfl) T.m_bool (by decide +kernel) rfl) pa_nil)))) (pw_or1 (xt_cmp (notin_seqK K) (xv 1) (pe_fldK K (xv 0)) (by rfl)))))
      (pss_one ps_never)
      pss_nil)
      (pss_one (ps_ret (pe_dget (hu_of hr) (pe_fldK K (xv 0)) (pe_ix (ix_k K) (pe_fldK K (xv 0)) (pe_tm PySem.F.slot_tuple_index PySem.F.type_tuple_index (mt_tindexK K (u65 hr)) (pe_fldK K (xv 0)) (pa_cons (xv 1) pa_nil)) (fun _ _ => rfl)) (fun _ _ => rfl))))), ?_⟩
    have FR := ko.row.same S.1
    obtain ⟨ws, hp, pr⟩ := ko.id
    have FP := hp.same S.1
    have wl := prd_len pr
    rw [ids_len] at wl
    have jl := (List.getElem?_eq_some_iff.mp hj).1
    have hw := List.getElem?_eq_getElem (show j < ws.length by omega)
    obtain ⟨c, hc, a, ea, ha⟩ := prd_get pr hw
    rw [ea] at hw
    have nl := ko.hold.num
    rw [ids_len] at nl
    have hnum : num[j]? = some (num.getD j 0) := getD_some (by omega)
    have hv : valV kvs (kk c) = some (.int (num.getD j 0)) := by rw [ko.hold.at_, look_at (ids_nodup f n) hc hnum]; rfl
    have hg : DGet H d (.ref a) (some (.int (num.getD j 0))) := by
      rw [← hv]
      exact DGet.t hd (S.st ha)
    refine ⟨_, _, _, _, false, rfl, .ty _, .base (.int _), kit_ty (by decide +kernel), ff, fun _ => ⟨x, T.C_Known, dx, _, _, rfl, hx, T.cl_Known, T.na_Known_row, kF_row, r, _, rfl, .inr FR.tu.sq, rfl, ints_flat _, fun e => in_row hj e, fun _ => ?_⟩⟩
    refine ⟨x, T.C_Known, dx, _, _, rfl, hx, T.cl_Known, T.na_Known_numbers, kF_num, x, T.C_Known, dx, _, _, rfl, hx, T.cl_Known, T.na_Known_known_by, kF_kb, x, T.C_Known, dx, _, _, rfl, hx, T.cl_Known, T.na_Known_row, kF_row, ⟨r, _, rfl, FR⟩, ?_⟩
    exact ⟨r, _, .int it, n.map PyData.int, j, .int it, rfl, rfl, .tup FR.tu.sq (ints_dp _), .int _, ints_can _, int_shaped _, int_at hj, SeqAt.eqv_refl _ rfl, int_first ko.ok.nd hj, _, _, .inr FP.tu.sq, atI_nat hw, d, _, rfl, hg, q⟩
def spKnSet (K : PySem.W.Frag) (C Ck : Addr) : Sp := fun vs H Q _ => ∃ (G : Hp) (M : List (Addr × HO)) (x dx : Addr) (kv : V) (r p d : Addr) (kvs : List (List Key × V)) (f : Fm) (n num : List Int) (j : Nat) (it v : Int), vs = [.ref x, .int it, .int v] ∧ Sep G ((x, .ins C dx (kF kv r p d)) :: (d, .dT kvs) :: M) H ∧ KnOk G Ck f n num kv r p kvs ∧ n[j]? = some it ∧
  ∀ (kvs' : List (List Key × V)) (H' : Hp), KnOk G Ck f n (num.set j v) kv r p kvs' → Sep G ((x, .ins C dx (kF kv r p d)) :: (d, .dT kvs') :: M) H' → Q .non H'
theorem ok_Known_setitem (T : Top K mg w) {k : Nat} : FnOk P w K mg base CX0 (k + 1) T.a_Known_setitem T.d_Known_setitem ["self", "item", "number"] (spKnSet K T.C_Known T.C_Key) := by
  refine T.F_Known_setitem.ok sc_Known_setitem (fun vs H Q E h => ?_) (fun cdv A outer s H vs Q E hr h => ?_)
  · obtain ⟨G, M, x, dx, kv, r, p, d, kvs, f, n, num, j, it, v, rfl, _⟩ := h
    rfl
  · obtain ⟨G, M, x, dx, kv, r, p, d, kvs, f, n, num, j, it, v, rfl, S, ko, hj, q⟩ := h
    refine ⟨_, (pss_cons (xs_if (PW.pt (xw_or (xt_truK K (pe_callB (call_isK K) (by rfl) T.m_isinstance (by decide +kernel) (pa_cons (xv 1) (pa_cons (pe_bltn (v := .ty "bool") (by rfl) T.m_bool (by decide +kernel) rfl) pa_nil)))) (pw_or1 (xt_cmp (notin_seqK K) (xv 1) (pe_fldK K (xv 0)) (by rfl)))))
      (pss_one ps_never)
      pss_nil)
      (pss_one (ps_dput (hu_of hr) (pe_fldK K (xv 0)) (pe_ix (ix_k K) (pe_fldK K (xv 0)) (pe_tm PySem.F.slot_tuple_index PySem.F.type_tuple_index (mt_tindexK K (u65 hr)) (pe_fldK K (xv 0)) (pa_cons (xv 1) pa_nil)) (fun _ _ => rfl)) (xv 2) rfl))), ?_⟩
    have hx := S.hd
    have FR := ko.row.same S.1
    obtain ⟨ws, hp, pr⟩ := ko.id
    have FP := hp.same S.1
    have wl := prd_len pr
    rw [ids_len] at wl
    have jl := (List.getElem?_eq_some_iff.mp hj).1
    have hw := List.getElem?_eq_getElem (show j < ws.length by omega)
    obtain ⟨c, hc, a, ea, ha⟩ := prd_get pr hw
    rw [ea] at hw
    have nl := ko.hold.num
    rw [ids_len] at nl
    have hnum : num[j]? = some (num.getD j 0) := getD_some (by omega)
    have hv : valV kvs (kk c) = some (.int (num.getD j 0)) := by rw [ko.hold.at_, look_at (ids_nodup f n) hc hnum]; rfl
    have kl := ko.hold.len
    have l5 := ko.ok.len
    rw [ids_len] at kl
    refine ⟨_, _, _, _, false, rfl, .ty _, .base (.int _), kit_ty (by decide +kernel), ff, fun _ => ⟨x, T.C_Known, dx, _, _, rfl, hx, T.cl_Known, T.na_Known_row, kF_row, r, _, rfl, .inr FR.tu.sq, rfl, ints_flat _, fun e => in_row hj e, fun _ => ?_⟩⟩
    refine ⟨x, T.C_Known, dx, _, _, rfl, hx, T.cl_Known, T.na_Known_numbers, kF_num, x, T.C_Known, dx, _, _, rfl, hx, T.cl_Known, T.na_Known_known_by, kF_kb, x, T.C_Known, dx, _, _, rfl, hx, T.cl_Known, T.na_Known_row, kF_row, ⟨r, _, rfl, FR⟩, ?_⟩
    refine ⟨r, _, .int it, n.map PyData.int, j, .int it, rfl, rfl, .tup FR.tu.sq (ints_dp _), .int _, ints_can _, int_shaped _, int_at hj, SeqAt.eqv_refl _ rfl, int_first ko.ok.nd hj, _, _, .inr FP.tu.sq, atI_nat hw, d, _, rfl, DPut.t (k := kk c) S.sw.hd (S.st ha) (smallL (by omega)), ?_⟩
    exact q _ _ ⟨ko.key, ko.row, ko.ok, ko.id, ko.hold.set kk_inj (ids_nodup f n) hc (putK_same hv)⟩ (S.sw.set).sw

end
end K28
set_option Elab.async false
set_option linter.all false
set_option maxRecDepth 100000
set_option maxHeartbeats 4000000
namespace K28
open PySem PySem.Spec PyProof.Rows L2 XL
section
variable {P : Program} {w : World} {K : PySem.W.Frag} {mg : Str → Option Value} {base : Heap}
/-! ### Known.show -/
def shown {α : Type} [DecidableEq α] (b : List α) (num : List Int) (c : List α) : List Int := c.map fun p => (look b num p).getD 0
theorem shown_snoc {α : Type} [DecidableEq α] (b : List α) (num : List Int) (c : List α) (p : α) : shown b num (c ++ [p]) = shown b num c ++ [(look b num p).getD 0] := by simp [shown]
def spKnShow (K : PySem.W.Frag) (C Ck : Addr) : Sp := fun vs H Q _ => ∃ (G : Hp) (M : List (Addr × HO)) (x dx : Addr) (kv : V) (r p d r2 : Addr) (kvs : List (List Key × V)) (f : Fm) (n num n2 : List Int), vs = [.ref x, .ref r2] ∧ Sep G ((x, .ins C dx (kF kv r p d)) :: (d, .dT kvs) :: M) H ∧ KnOk G Ck f n num kv r p kvs ∧ TupF G r2 (n2.map V.int) ∧ RowOk n2 ∧
  ∀ (p' d' : Addr) (kvs' : List (List Key × V)) (G' H' : Hp), Same G G' → KnOk G' Ck f n2 (shown (ids f n) num (ids f n2)) kv r2 p' kvs' → Sep G' ((x, .ins C dx (kF kv r2 p' d')) :: (d', .dT kvs') :: M) H' → Q .non H'
theorem ok_Known_show (T : Top K mg w) (G_Key_idents : FnOk P w K mg base CX0 8 T.a_Key_idents T.d_Key_idents ["self", "row"] (spKIdents T.C_Key)) : FnOk P w K mg base CX0 9 T.a_Known_show T.d_Known_show ["self", "row"] (spKnShow K T.C_Known T.C_Key) := by
  refine T.F_Known_show.ok sc_Known_show (fun vs H Q E h => ?_) (fun cdv A outer s H vs Q E hr h => ?_)
  · obtain ⟨G, M, x, dx, kv, r, p, d, r2, kvs, f, n, num, n2, rfl, _⟩ := h
    rfl
  · obtain ⟨G, M, x, dx, kv, r, p, d, r2, kvs, f, n, num, n2, rfl, S, ko, h2, ro2, q⟩ := h
    refine ⟨_, (pss_cons (ps_set (i := 2) sc_Known_show.nd rfl (.inl rfl) (pe_meth (pe_fldK K (xv 0)) T.cl_Key T.me_Key_idents G_Key_idents (hr.mono (by omega)) T.b_Key_idents .nil pass0 (pa_cons (xv 1) pa_nil)))
      (pss_cons (ps_set (i := 3) sc_Known_show.nd rfl (.inl rfl) pe_dnewT)
      (pss_cons (ps_for PassesOwn.never rfl (pi_tupK K (xv 2)) (pg_name (i := 4) sc_Known_show.nd rfl (.inl rfl))
      (pss_one (ps_dput (hu_of hr) (xv 3) (xv 4) (pe_dget2 (hu_of hr) (pe_fldK K (xv 0)) (xv 4) pe_int ⟨by rfl, by rfl, by rfl, by rfl⟩) rfl)))
      (pss_cons (ps_fld (xv 0) (xv 1) rfl)
      (pss_cons (ps_fld (xv 0) (xv 2) rfl)
      (pss_one (ps_fld (xv 0) (xv 3) rfl))))))), ?_⟩
    have kk' := ko.key
    obtain ⟨kx, kdx, u, rfl, hkx, hu⟩ := ko.key
    refine ⟨x, T.C_Known, dx, _, _, rfl, S.hd, T.cl_Known, T.na_Known_key, kF_key, kx, kdx, _, rfl, S.st hkx, rfl, G, _, _, f, r2, n2, rfl, S, kk', h2.tu, ro2, fun p2 ws G3 H3 s3 S3 hp pr d2 nd2 => ?_⟩
    have wl := prd_len pr
    have l5 := ro2.len
    rw [ids_len] at wl
    have S4 := S3.new (o := .dT []) nd2
    refine ⟨p2, rfl, ⟨ws, (hp.same S4.1).tu.sq⟩, for_tup (xs := ws) (fun i σ H' => ∃ (y4 : Option V) (kvs2 : List (List Key × V)), σ = [some (.ref x), some (.ref r2), some (.ref p2), some (.ref d2), y4] ∧ Sep G3 ((d2, .dT kvs2) :: (x, .ins T.C_Known dx (kF (.ref kx) r p d)) :: (d, .dT kvs) :: M) H' ∧ Hold kk kvs2 ((ids f n2).take i) (shown (ids f n) num ((ids f n2).take i)))
      ⟨_, [], rfl, S4, Hold.nil⟩ (fun i σ H' _ h => ?_) (fun i y σ H' hy h => ?_) (fun σ H' h => ?_)⟩
    · obtain ⟨_, _, _, S', _⟩ := h
      exact (hp.same S'.1).tu.sq
    · obtain ⟨y4, kvs2, rfl, S7, hh⟩ := h
      obtain ⟨c, hc, a, rfl, ha⟩ := prd_get pr hy
      have hl := hh.len
      rw [List.length_take, ids_len] at hl
      have nm : c ∉ (ids f n2).take i := fun hm => by
        have nd := ids_nodup f n2
        rw [(take_pre hc).1, List.nodup_append] at nd
        exact nd.2.2 c hm c (by simp) rfl
      have hx : H' x = some (.ins T.C_Known dx (kF (.ref kx) r p d)) := S7.sw.hd
      have hd : H' d = some (.dT kvs) := S7.at (by simp)
      have hg : DGet H' d (.ref a) ((look (ids f n) num c).map V.int) := by
        rw [← ko.hold.at_ c]
        exact DGet.t hd (S7.st ha)
      refine ⟨x, T.C_Known, dx, _, _, rfl, hx, T.cl_Known, T.na_Known_numbers, kF_num, d, rfl, .inr ⟨kvs, .inl hd⟩, _, hg, ?_⟩
      have e : ((look (ids f n) num c).map V.int).getD (.int 0) = .int ((look (ids f n) num c).getD 0) := by cases look (ids f n) num c <;> rfl
      rw [e]
      refine ⟨d2, _, rfl, DPut.t (k := kk c) S7.hd (S7.st ha) (smallL (by omega)), _, _, rfl, S7.set, ?_⟩
      rw [XL.take_snoc hc, shown_snoc]
      exact hh.snoc kk_inj nm
    · obtain ⟨y4, kvs2, rfl, S7, hh⟩ := h
      rw [List.take_of_length_le (by rw [ids_len]; omega)] at hh
      have S8 := S7.sw
      refine ⟨x, T.C_Known, dx, _, rfl, S8.hd, T.cl_Known, T.na_Known_row, by simp [kF], ?_⟩
      have e1 : putF "row" (.ref r2) (kF (.ref kx) r p d) = kF (.ref kx) r2 p d := by unfold kF; rw [putF_ne, putF_eq]
      rw [e1]
      have S9 := S8.set (o' := .ins T.C_Known dx (kF (.ref kx) r2 p d))
      refine ⟨x, T.C_Known, dx, _, rfl, S9.hd, T.cl_Known, T.na_Known_known_by, by simp [kF], ?_⟩
      have e2 : putF "known_by" (.ref p2) (kF (.ref kx) r2 p d) = kF (.ref kx) r2 p2 d := by unfold kF; rw [putF_ne, putF_ne, putF_eq]
      rw [e2]
      have Sa := S9.set (o' := .ins T.C_Known dx (kF (.ref kx) r2 p2 d))
      refine ⟨x, T.C_Known, dx, _, rfl, Sa.hd, T.cl_Known, T.na_Known_numbers, by simp [kF], ?_⟩
      have e3 : putF "numbers" (.ref d2) (kF (.ref kx) r2 p2 d) = kF (.ref kx) r2 p2 d2 := by unfold kF; rw [putF_ne, putF_ne, putF_ne, putF_eq]
      rw [e3]
      have Sb := Sa.set (o' := .ins T.C_Known dx (kF (.ref kx) r2 p2 d2))
      have Sc := Sb.perm (M' := (x, .ins T.C_Known dx (kF (.ref kx) r2 p2 d2)) :: (d2, .dT kvs2) :: (d, .dT kvs) :: M) (List.Perm.refl _)
      have Sd := (Sc.perm (M' := (d, .dT kvs) :: (x, .ins T.C_Known dx (kF (.ref kx) r2 p2 d2)) :: (d2, .dT kvs2) :: M) ((List.Perm.cons _ (List.Perm.swap _ _ _)).trans (List.Perm.swap _ _ _))).drop
      exact q p2 d2 kvs2 _ _ s3 ⟨kk'.same s3, h2.same s3, ro2, ⟨ws, hp, pr⟩, hh⟩ Sd
/-! ### Things -/
def tF (r d : Addr) : List (Str × V) := [("row", .ref r), ("numbers", .ref d)]
theorem tF_row {r d : Addr} : (tF r d).lookup ("row" : Str) = some (V.ref r) := by unfold tF; rw [lk_eq]
theorem tF_num {r d : Addr} : (tF r d).lookup ("numbers" : Str) = some (V.ref d) := by unfold tF; rw [lk_ne, lk_eq]
abbrev ik : Int → Key := Sum.inl
structure ThOk (G : Hp) (n num : List Int) (r : Addr) (kvs : List (Key × V)) : Prop where
  row : TupF G r (n.map V.int)
  ok : RowOk n
  hold : Hold ik kvs n num
theorem ThOk.same {G G' : Hp} {n num : List Int} {r : Addr} {kvs : List (Key × V)} (e : Same G G') (h : ThOk G n num r kvs) : ThOk G' n num r kvs := ⟨h.row.same e, h.ok, h.hold⟩
theorem not_take {n : List Int} (nd : n.Nodup) {i : Nat} {c : Int} (hc : n[i]? = some c) : c ∉ n.take i := fun hm => by
  rw [(take_pre hc).1, List.nodup_append] at nd
  exact nd.2.2 c hm c (by simp) rfl
def spThInit (C : Addr) : Sp := fun vs H Q _ => ∃ (G : Hp) (M : List (Addr × HO)) (x dx r : Addr) (n : List Int), vs = [.ref x, .ref r] ∧ Sep G ((x, .ins C dx []) :: M) H ∧ TupF G r (n.map V.int) ∧ RowOk n ∧
  ∀ (d : Addr) (kvs : List (Key × V)) (G' H' : Hp), Same G G' → ThOk G' n (List.replicate n.length 0) r kvs → Sep G' ((x, .ins C dx (tF r d)) :: (d, .dK kvs) :: M) H' → Q .non H'
theorem ok_Things_init (T : Top K mg w) (G_check_row : FnOk P w K mg base CX0 7 T.a_check_row T.d_check_row ["row"] (spRow K)) :
    FnOk P w K mg base CX0 8 T.a_Things_init T.d_Things_init ["self", "row"] (spThInit T.C_Things) := by
  refine T.F_Things_init.ok sc_Things_init (fun vs H Q E h => ?_) (fun cdv A outer s H vs Q E hr h => ?_)
  · obtain ⟨G, M, x, dx, r, n, rfl, _⟩ := h
    rfl
  · obtain ⟨G, M, x, dx, r, n, rfl, S, hr', ro, q⟩ := h
    refine ⟨_, (pss_cons (ps_expr (pe_call G_check_row (hr.mono (by omega)) (by rfl) T.g_check_row T.F_check_row.kp T.b_check_row .nil pass0 (pa_cons (xv 1) pa_nil)))
      (pss_cons (ps_fld (xv 0) (xv 1) rfl)
      (pss_cons (ps_fld (xv 0) pe_dnewK rfl)
      (pss_one (ps_for PassesOwn.never rfl (pi_tupK K (xv 1)) (pg_name (i := 2) sc_Things_init.nd rfl (.inl rfl))
      (pss_one (ps_dput (hu_of hr) (pe_fldK K (xv 0)) (xv 2) pe_int rfl))))))), ?_⟩
    refine ⟨G, _, r, n, rfl, S, hr'.tu, ro, fun G1 H1 s1 S1 => ?_⟩
    refine ⟨x, T.C_Things, dx, [], rfl, S1.hd, T.cl_Things, T.na_Things_row, by decide, fun d nd => ?_⟩
    have S2 := S1.set (o' := .ins T.C_Things dx [("row", .ref r)])
    have S5 := (S2.new (o := .dK []) nd).sw
    refine ⟨x, T.C_Things, dx, _, rfl, S5.hd, T.cl_Things, T.na_Things_numbers, by simp, ?_⟩
    rw [putF_ne, putF_nil]
    have S6 := S5.set (o' := .ins T.C_Things dx (tF r d))
    have l5 := ro.len
    have hr1 := hr'.same s1
    refine ⟨r, rfl, ⟨_, (hr1.same S6.1).tu.sq⟩, for_tup (xs := n.map V.int) (fun i σ H' => ∃ (y2 : Option V) (kvs : List (Key × V)), σ = [some (.ref x), some (.ref r), y2] ∧ Sep G1 ((x, .ins T.C_Things dx (tF r d)) :: (d, .dK kvs) :: M) H' ∧ Hold ik kvs (n.take i) (List.replicate i 0))
      ⟨_, [], rfl, S6, Hold.nil⟩ (fun i σ H' _ h => ?_) (fun i y σ H' hy h => ?_) (fun σ H' h => ?_)⟩
    · obtain ⟨_, _, _, S', _⟩ := h
      exact (hr1.same S'.1).tu.sq
    · obtain ⟨y2, kvs, rfl, S7, hh⟩ := h
      rw [List.getElem?_map] at hy
      obtain ⟨c, hc, rfl⟩ := Option.map_eq_some_iff.mp hy
      have hl := hh.len
      rw [List.length_take] at hl
      have S8 := S7.sw
      refine ⟨x, T.C_Things, dx, _, _, rfl, S7.hd, T.cl_Things, T.na_Things_numbers, tF_num, d, _, rfl, DPut.k (k := ik c) S8.hd (smallL (by omega)), _, _, rfl, (S8.set).sw, ?_⟩
      rw [XL.take_snoc hc, List.replicate_succ']
      exact hh.snoc inl_inj (not_take ro.nd hc)
    · obtain ⟨y2, kvs, rfl, S7, hh⟩ := h
      rw [List.length_map, List.take_length] at hh
      exact q d kvs _ _ s1 ⟨hr1, ro, hh⟩ S7
def spThGet (C : Addr) : Sp := fun vs H Q _ => ∃ (G : Hp) (M : List (Addr × HO)) (x dx r d : Addr) (kvs : List (Key × V)) (n num : List Int) (j : Nat) (it : Int), vs = [.ref x, .int it] ∧ Sep G M H ∧ H x = some (.ins C dx (tF r d)) ∧ H d = some (.dK kvs) ∧ ThOk G n num r kvs ∧ n[j]? = some it ∧
  Q (.int (num.getD j 0)) H
theorem ok_Things_getitem (T : Top K mg w) {k : Nat} : FnOk P w K mg base CX0 (k + 1) T.a_Things_getitem T.d_Things_getitem ["self", "item"] (spThGet T.C_Things) := by
  refine T.F_Things_getitem.ok sc_Things_getitem (fun vs H Q E h => ?_) (fun cdv A outer s H vs Q E hr h => ?_)
  · obtain ⟨G, M, x, dx, r, d, kvs, n, num, j, it, rfl, _⟩ := h
    rfl
  · obtain ⟨G, M, x, dx, r, d, kvs, n, num, j, it, rfl, S, hx, hd, ko, hj, q⟩ := h
    refine ⟨_, (pss_cons (xs_if (PW.pt (xw_or (xt_truK K (pe_callB (call_isK K) (by rfl) T.m_isinstance (by decide +kernel) (pa_cons (xv 1) (pa_cons (pe_bltn (v := .ty "bool") (by rfl) T.m_bool (by decide +kernel) rfl) pa_nil)))) (pw_or1 (xt_cmp (notin_seqK K) (xv 1) (pe_fldK K (xv 0)) (by rfl)))))
      (pss_one ps_never)
      pss_nil)
      (pss_one (ps_ret (pe_dget (hu_of hr) (pe_fldK K (xv 0)) (xv 1) (fun _ _ => rfl))))), ?_⟩
    have FR := ko.row.same S.1
    have jl := (List.getElem?_eq_some_iff.mp hj).1
    have nl := ko.hold.num
    have hnum : num[j]? = some (num.getD j 0) := getD_some (by omega)
    have hv : valV kvs (ik it) = some (.int (num.getD j 0)) := by rw [ko.hold.at_, look_at ko.ok.nd hj hnum]; rfl
    have hg : DGet H d (.int it) (some (.int (num.getD j 0))) := by
      rw [← hv]
      exact DGet.k (k := ik it) hd
    refine ⟨_, _, _, _, false, rfl, .ty _, .base (.int _), kit_ty (by decide +kernel), ff, fun _ => ⟨x, T.C_Things, dx, _, _, rfl, hx, T.cl_Things, T.na_Things_row, tF_row, r, _, rfl, .inr FR.tu.sq, rfl, ints_flat _, fun e => in_row hj e, fun _ => ?_⟩⟩
    exact ⟨x, T.C_Things, dx, _, _, rfl, hx, T.cl_Things, T.na_Things_numbers, tF_num, d, _, rfl, hg, q⟩
def spThSet (C : Addr) : Sp := fun vs H Q _ => ∃ (G : Hp) (M : List (Addr × HO)) (x dx r d : Addr) (kvs : List (Key × V)) (n num : List Int) (j : Nat) (it v : Int), vs = [.ref x, .int it, .int v] ∧ Sep G ((x, .ins C dx (tF r d)) :: (d, .dK kvs) :: M) H ∧ ThOk G n num r kvs ∧ n[j]? = some it ∧
  ∀ (kvs' : List (Key × V)) (H' : Hp), ThOk G n (num.set j v) r kvs' → Sep G ((x, .ins C dx (tF r d)) :: (d, .dK kvs') :: M) H' → Q .non H'
theorem ok_Things_setitem (T : Top K mg w) {k : Nat} : FnOk P w K mg base CX0 (k + 1) T.a_Things_setitem T.d_Things_setitem ["self", "item", "number"] (spThSet T.C_Things) := by
  refine T.F_Things_setitem.ok sc_Things_setitem (fun vs H Q E h => ?_) (fun cdv A outer s H vs Q E hr h => ?_)
  · obtain ⟨G, M, x, dx, r, d, kvs, n, num, j, it, v, rfl, _⟩ := h
    rfl
  · obtain ⟨G, M, x, dx, r, d, kvs, n, num, j, it, v, rfl, S, ko, hj, q⟩ := h
    refine ⟨_, (pss_cons (xs_if (PW.pt (xw_or (xt_truK K (pe_callB (call_isK K) (by rfl) T.m_isinstance (by decide +kernel) (pa_cons (xv 1) (pa_cons (pe_bltn (v := .ty "bool") (by rfl) T.m_bool (by decide +kernel) rfl) pa_nil)))) (pw_or1 (xt_cmp (notin_seqK K) (xv 1) (pe_fldK K (xv 0)) (by rfl)))))
      (pss_one ps_never)
      pss_nil)
      (pss_one (ps_dput (hu_of hr) (pe_fldK K (xv 0)) (xv 1) (xv 2) rfl))), ?_⟩
    have FR := ko.row.same S.1
    have jl := (List.getElem?_eq_some_iff.mp hj).1
    have nl := ko.hold.num
    have hnum : num[j]? = some (num.getD j 0) := getD_some (by omega)
    have hv : valV kvs (ik it) = some (.int (num.getD j 0)) := by rw [ko.hold.at_, look_at ko.ok.nd hj hnum]; rfl
    have kl := ko.hold.len
    have l5 := ko.ok.len
    refine ⟨_, _, _, _, false, rfl, .ty _, .base (.int _), kit_ty (by decide +kernel), ff, fun _ => ⟨x, T.C_Things, dx, _, _, rfl, S.hd, T.cl_Things, T.na_Things_row, tF_row, r, _, rfl, .inr FR.tu.sq, rfl, ints_flat _, fun e => in_row hj e, fun _ => ?_⟩⟩
    refine ⟨x, T.C_Things, dx, _, _, rfl, S.hd, T.cl_Things, T.na_Things_numbers, tF_num, d, _, rfl, DPut.k (k := ik it) S.sw.hd (smallL (by omega)), ?_⟩
    exact q _ _ ⟨ko.row, ko.ok, ko.hold.set inl_inj ko.ok.nd hj (putK_same hv)⟩ (S.sw.set).sw
def spThShow (K : PySem.W.Frag) (C : Addr) : Sp := fun vs H Q _ => ∃ (G : Hp) (M : List (Addr × HO)) (x dx r d r2 : Addr) (kvs : List (Key × V)) (n num n2 : List Int), vs = [.ref x, .ref r2] ∧ Sep G ((x, .ins C dx (tF r d)) :: (d, .dK kvs) :: M) H ∧ ThOk G n num r kvs ∧ TupF G r2 (n2.map V.int) ∧ RowOk n2 ∧
  ∀ (d' : Addr) (kvs' : List (Key × V)) (G' H' : Hp), Same G G' → ThOk G' n2 (shown n num n2) r2 kvs' → Sep G' ((x, .ins C dx (tF r2 d')) :: (d', .dK kvs') :: M) H' → Q .non H'
theorem ok_Things_show (T : Top K mg w) (G_check_row : FnOk P w K mg base CX0 7 T.a_check_row T.d_check_row ["row"] (spRow K)) : FnOk P w K mg base CX0 8 T.a_Things_show T.d_Things_show ["self", "row"] (spThShow K T.C_Things) := by
  refine T.F_Things_show.ok sc_Things_show (fun vs H Q E h => ?_) (fun cdv A outer s H vs Q E hr h => ?_)
  · obtain ⟨G, M, x, dx, r, d, r2, kvs, n, num, n2, rfl, _⟩ := h
    rfl
  · obtain ⟨G, M, x, dx, r, d, r2, kvs, n, num, n2, rfl, S, ko, h2, ro2, q⟩ := h
    refine ⟨_, (pss_cons (ps_expr (pe_call G_check_row (hr.mono (by omega)) (by rfl) T.g_check_row T.F_check_row.kp T.b_check_row .nil pass0 (pa_cons (xv 1) pa_nil)))
      (pss_cons (ps_set (i := 2) sc_Things_show.nd rfl (.inl rfl) pe_dnewK)
      (pss_cons (ps_for PassesOwn.never rfl (pi_tupK K (xv 1)) (pg_name (i := 3) sc_Things_show.nd rfl (.inl rfl))
      (pss_one (ps_dput (hu_of hr) (xv 2) (xv 3) (pe_dget2 (hu_of hr) (pe_fldK K (xv 0)) (xv 3) pe_int ⟨by rfl, by rfl, by rfl, by rfl⟩) rfl)))
      (pss_cons (ps_fld (xv 0) (xv 1) rfl)
      (pss_one (ps_fld (xv 0) (xv 2) rfl)))))), ?_⟩
    refine ⟨G, _, r2, n2, rfl, S, h2.tu, ro2, fun G3 H3 s3 S3 d2 nd2 => ?_⟩
    have l5 := ro2.len
    have S4 := S3.new (o := .dK []) nd2
    have h3 := h2.same s3
    refine ⟨r2, rfl, ⟨_, (h3.same S4.1).tu.sq⟩, for_tup (xs := n2.map V.int) (fun i σ H' => ∃ (y3 : Option V) (kvs2 : List (Key × V)), σ = [some (.ref x), some (.ref r2), some (.ref d2), y3] ∧ Sep G3 ((d2, .dK kvs2) :: (x, .ins T.C_Things dx (tF r d)) :: (d, .dK kvs) :: M) H' ∧ Hold ik kvs2 (n2.take i) (shown n num (n2.take i)))
      ⟨_, [], rfl, S4, Hold.nil⟩ (fun i σ H' _ h => ?_) (fun i y σ H' hy h => ?_) (fun σ H' h => ?_)⟩
    · obtain ⟨_, _, _, S', _⟩ := h
      exact (h3.same S'.1).tu.sq
    · obtain ⟨y3, kvs2, rfl, S7, hh⟩ := h
      rw [List.getElem?_map] at hy
      obtain ⟨c, hc, rfl⟩ := Option.map_eq_some_iff.mp hy
      have hl := hh.len
      rw [List.length_take] at hl
      have hx : H' x = some (.ins T.C_Things dx (tF r d)) := S7.sw.hd
      have hd : H' d = some (.dK kvs) := S7.at (by simp)
      have hg : DGet H' d (.int c) ((look n num c).map V.int) := by
        rw [← ko.hold.at_ c]
        exact DGet.k (k := ik c) hd
      refine ⟨x, T.C_Things, dx, _, _, rfl, hx, T.cl_Things, T.na_Things_numbers, tF_num, d, rfl, .inl ⟨kvs, .inl hd⟩, _, hg, ?_⟩
      have e : ((look n num c).map V.int).getD (.int 0) = .int ((look n num c).getD 0) := by cases look n num c <;> rfl
      rw [e]
      refine ⟨d2, _, rfl, DPut.k (k := ik c) S7.hd (smallL (by omega)), _, _, rfl, S7.set, ?_⟩
      rw [XL.take_snoc hc, shown_snoc]
      exact hh.snoc inl_inj (not_take ro2.nd hc)
    · obtain ⟨y3, kvs2, rfl, S7, hh⟩ := h
      rw [List.length_map, List.take_length] at hh
      have S8 := S7.sw
      refine ⟨x, T.C_Things, dx, _, rfl, S8.hd, T.cl_Things, T.na_Things_row, by simp [tF], ?_⟩
      have e1 : putF "row" (.ref r2) (tF r d) = tF r2 d := by unfold tF; rw [putF_eq]
      rw [e1]
      have S9 := S8.set (o' := .ins T.C_Things dx (tF r2 d))
      refine ⟨x, T.C_Things, dx, _, rfl, S9.hd, T.cl_Things, T.na_Things_numbers, by simp [tF], ?_⟩
      have e3 : putF "numbers" (.ref d2) (tF r2 d) = tF r2 d2 := by unfold tF; rw [putF_ne, putF_eq]
      rw [e3]
      have Sb := S9.set (o' := .ins T.C_Things dx (tF r2 d2))
      have Sd := (Sb.perm (M' := (d, .dK kvs) :: (x, .ins T.C_Things dx (tF r2 d2)) :: (d2, .dK kvs2) :: M) ((List.Perm.cons _ (List.Perm.swap _ _ _)).trans (List.Perm.swap _ _ _))).drop
      exact q d2 kvs2 _ _ s3 ⟨h3, ro2, hh⟩ Sd

end
end K28
set_option Elab.async false
set_option linter.all false
set_option maxRecDepth 100000
set_option maxHeartbeats 4000000
namespace K28
open PySem PySem.Spec PyProof.Rows L2 XL
section
variable {P : Program} {w : World} {K : PySem.W.Frag} {mg : Str → Option Value} {base : Heap}
theorem ints_depth : ∀ ns : List Int, PyData.depthAll (ns.map PyData.int) = 0
  | [] => by simp [PyData.depthAll]
  | n :: r => by simp [PyData.depthAll, PyData.depth, ints_depth r]
theorem ints_shaped (ns : List Int) : SeqAt.shaped (.list (ns.map PyData.int)) = true := by
  unfold SeqAt.shaped
  have e : PyData.canLay0 (.list (ns.map PyData.int)) = true := by simp [PyData.canLay0, ints_can]
  have e2 : PyData.depth (.list (ns.map PyData.int)) = 1 := by simp [PyData.depth, ints_depth]
  rw [e, e2]
  rfl

/-! ### is_parting -/
def PartAt (f : Fm) (n1 n2 : List Int) (j i : Nat) : Prop := ¬ ((ids f n1)[j]? = (ids f n2)[i]? ↔ n1[j]? = n2[i]?)
theorem look_zero {α : Type} [DecidableEq α] : ∀ (b : List α) (m : Nat) (q : α), (look b (List.replicate m 0) q).getD 0 = 0
  | [], _, _ => by simp [look]
  | _ :: _, 0, _ => by simp [look]
  | x :: r, m + 1, q => by
    have z := look_zero r m q
    unfold look at z ⊢
    rw [List.replicate_succ, List.zip_cons_cons]
    by_cases e : x = q
    · rw [List.find?_cons_of_pos (by simpa using e)]; rfl
    · rw [List.find?_cons_of_neg (by simpa using e)]; exact z
theorem one_at {α : Type} [DecidableEq α] {b : List α} (nd : b.Nodup) {j : Nat} {p : α} (h : b[j]? = some p) (q : α) : (look b ((List.replicate b.length 0).set j 1) q).getD 0 = if q = p then 1 else 0 := by
  rw [look_set nd h (by simp)]
  by_cases e : q = p
  · rw [if_pos e, if_pos e]; rfl
  · rw [if_neg e, if_neg e, look_zero]
theorem shown_at {α : Type} [DecidableEq α] {b : List α} {num : List Int} {c : List α} {i : Nat} {q : α} (h : c[i]? = some q) : (shown b num c).getD i 0 = (look b num q).getD 0 := by
  rw [List.getD_eq_getElem?_getD, shown, List.getElem?_map, h]
  rfl
/-- what the walk leaves at the place i of the new row: alike or not -/
theorem part_iff {f : Fm} {n1 n2 : List Int} {j i : Nat} {b c : Int × Int} {x y : Int} (nd : n1.Nodup) (hb : (ids f n1)[j]? = some b) (hc : (ids f n2)[i]? = some c) (hx : n1[j]? = some x) (hy : n2[i]? = some y) :
    (shown (ids f n1) ((List.replicate (ids f n1).length 0).set j 1) (ids f n2)).getD i 0 ≠ (shown n1 ((List.replicate n1.length 0).set j 1) n2).getD i 0 ↔ PartAt f n1 n2 j i := by
  rw [shown_at hc, shown_at hy, one_at (ids_nodup f n1) hb, one_at nd hx]
  unfold PartAt
  rw [hb, hc, hx, hy, Option.some_inj, Option.some_inj]
  by_cases e1 : c = b <;> by_cases e2 : y = x
  · simp [e1, e2]
  · have : ¬ x = y := fun h => e2 h.symm
    simp [e1, e2, this]
  · have : ¬ b = c := fun h => e1 h.symm
    simp [e1, e2, this]
  · have h1 : ¬ b = c := fun h => e1 h.symm
    have h2 : ¬ x = y := fun h => e2 h.symm
    simp [e1, e2, h1, h2]
def spParting (Ck : Addr) : Sp := fun vs H Q _ => ∃ (G : Hp) (M : List (Addr × HO)) (kv : V) (f : Fm) (r1 r2 : Addr) (n1 n2 : List Int) (j : Nat) (it : Int), vs = [kv, .ref r1, .int it, .ref r2] ∧ Sep G M H ∧ KeyAt Ck G kv f ∧ TupF G r1 (n1.map V.int) ∧ RowOk n1 ∧ TupF G r2 (n2.map V.int) ∧ RowOk n2 ∧ n1[j]? = some it ∧
  ∀ (c : Bool) (G' H' : Hp), (c = true ↔ ∃ i, i < n2.length ∧ PartAt f n1 n2 j i) → Same G G' → Sep G' M H' → Q (.bl c) H'
theorem ok_is_parting (T : Top K mg w) (G_Known_init : FnOk P w K mg base CX0 9 T.a_Known_init T.d_Known_init ["self", "key", "row"] (spKnInit T.C_Known T.C_Key)) (G_Known_getitem : FnOk P w K mg base CX0 8 T.a_Known_getitem T.d_Known_getitem ["self", "item"] (spKnGet K T.C_Known T.C_Key))
    (G_Known_setitem : FnOk P w K mg base CX0 8 T.a_Known_setitem T.d_Known_setitem ["self", "item", "number"] (spKnSet K T.C_Known T.C_Key)) (G_Known_show : FnOk P w K mg base CX0 9 T.a_Known_show T.d_Known_show ["self", "row"] (spKnShow K T.C_Known T.C_Key))
    (G_Things_init : FnOk P w K mg base CX0 8 T.a_Things_init T.d_Things_init ["self", "row"] (spThInit T.C_Things)) (G_Things_getitem : FnOk P w K mg base CX0 8 T.a_Things_getitem T.d_Things_getitem ["self", "item"] (spThGet T.C_Things))
    (G_Things_setitem : FnOk P w K mg base CX0 8 T.a_Things_setitem T.d_Things_setitem ["self", "item", "number"] (spThSet T.C_Things)) (G_Things_show : FnOk P w K mg base CX0 8 T.a_Things_show T.d_Things_show ["self", "row"] (spThShow K T.C_Things)) :
    FnOk P w K mg base CX0 11 T.a_is_parting T.d_is_parting ["key", "old", "item", "new"] (spParting T.C_Key) := by
  refine T.F_is_parting.ok sc_is_parting (fun vs H Q E h => ?_) (fun cdv A outer s H vs Q E hr h => ?_)
  · obtain ⟨G, M, kv, f, r1, r2, n1, n2, j, it, rfl, _⟩ := h
    rfl
  · obtain ⟨G, M, kv, f, r1, r2, n1, n2, j, it, rfl, S, hk, h1, ro1, h2, ro2, hj, q⟩ := h
    refine ⟨_, (pss_cons (ps_set (i := 4) sc_is_parting.nd rfl (.inr rfl) (pe_make T.mk_Known G_Known_init (hr.mono (by omega)) (by rfl) T.g_Known T.b_Known_init .nil pass0 (pa_cons (xv 0) (pa_cons (xv 1) pa_nil))))
      (pss_cons (ps_set (i := 5) sc_is_parting.nd rfl (.inr rfl) (pe_make T.mk_Things G_Things_init (hr.mono (by omega)) (by rfl) T.g_Things T.b_Things_init .nil pass0 (pa_cons (xv 1) pa_nil)))
      (pss_cons (ps_asg pe_int (pg_sub (xv 4) (xv 2) (set_own G_Known_setitem T.sp_Known_setitem.2.2 T.sp_Known_setitem.1 T.sp_Known_setitem.2.1 T.b_Known_setitem pass0 (hr.mono (by omega)))))
      (pss_cons (ps_asg pe_int (pg_sub (xv 5) (xv 2) (set_own G_Things_setitem T.sp_Things_setitem.2.2 T.sp_Things_setitem.1 T.sp_Things_setitem.2.1 T.b_Things_setitem pass0 (hr.mono (by omega)))))
      (pss_cons (ps_expr (pe_meth (xv 4) T.cl_Known T.me_Known_show G_Known_show (hr.mono (by omega)) T.b_Known_show .nil pass0 (pa_cons (xv 3) pa_nil)))
      (pss_cons (ps_expr (pe_meth (xv 5) T.cl_Things T.me_Things_show G_Things_show (hr.mono (by omega)) T.b_Things_show .nil pass0 (pa_cons (xv 3) pa_nil)))
      (pss_one (ps_ret (pe_cmpR (op_neK K hr.units) (pe_lc (own := [("one", 6)]) (by rfl) sc_is_parting.nd (pi_tupK K (xv 3)) (blkOk_by (N := ["key", "old", "item", "new", "known", "things", "one"]) (sc := defScope s_is_parting) (by decide +kernel)) (fun _ _ _ _ _ => (pg_name (i := 6) sc_is_parting.nd rfl (.inl rfl))) (fun _ _ _ _ _ => (pts_one (xt_cmp (op_neK K hr.units) (pe_ixO (xv 4) (xv 6) G_Known_getitem T.sp_Known_getitem.1 T.sp_Known_getitem.2.2 T.sp_Known_getitem.2.1 T.b_Known_getitem pass0 (hr.mono (by omega))) (pe_ixO (xv 5) (xv 6) G_Things_getitem T.sp_Things_getitem.1 T.sp_Things_getitem.2.2 T.sp_Things_getitem.2.1 T.b_Things_getitem pass0 (hr.mono (by omega))) (nomark _)))) (fun _ _ _ _ _ => (xv 6))) (pe_lst pa_nil) (nomark _)))))))))), ?_⟩
    intro x dx nx ndx ne
    refine ⟨G, _, x, dx, kv, r1, f, n1, rfl, S.new2 nx ndx ne, hk, h1, ro1, fun p d kvs G1 H1 s1 ko1 S1 => ⟨rfl, ?_⟩⟩
    have S1 := S1.no3
    intro y dy ny ndy ne2
    refine ⟨G1, _, y, dy, r1, n1, rfl, S1.new2 ny ndy ne2, h1.same s1, ro1, fun e kvt G2 H2 s2 to2 S2 => ⟨rfl, ?_⟩⟩
    have S2 := S2.no3
    have ko2 := ko1.same s2
    have S3 := S2.rot2
    refine ⟨x, dx, _, rfl, S3.hd, G2, _, x, dx, kv, r1, p, d, kvs, f, n1, _, j, it, 1, rfl, S3, ko2, hj, fun kvs3 H3 ko3 S4 => ?_⟩
    have S5 := S4.rot2
    refine ⟨y, dy, _, rfl, S5.hd, G2, _, y, dy, r1, e, kvt, n1, _, j, it, 1, rfl, S5, to2, hj, fun kvt3 H4 to3 S6 => ?_⟩
    have S7 := S6.rot2
    have s02 := s1.trans s2
    refine ⟨x, dx, _, rfl, S7.hd, rfl, G2, _, x, dx, kv, r1, p, d, r2, kvs3, f, n1, _, n2, rfl, S7, ko3, h2.same s02, ro2, fun p5 d5 kvs5 G5 H5 s5 ko5 S8 => ?_⟩
    have S9 := S8.rot2
    refine ⟨y, dy, _, rfl, S9.hd, rfl, G5, _, y, dy, r1, e, r2, kvt3, n1, _, n2, rfl, S9, to3.same s5, (h2.same s02).same s5, ro2, fun e6 kvt6 G6 H6 s6 to6 Sa => ?_⟩
    have ko6 := ko5.same s6
    have s06 := s02.trans (s5.trans s6)
    have h26 := h2.same s06
    have l2 := ro2.len
    have l1 := ro1.len
    have jl := (List.getElem?_eq_some_iff.mp hj).1
    have hb := List.getElem?_eq_getElem (show j < (ids f n1).length by rw [ids_len]; exact jl)
    refine ⟨r2, rfl, ⟨_, (h26.same Sa.1).tu.sq⟩, fun D nD => lc_tup (xs := n2.map V.int) (fun i H' => ∃ (as : List Int), Sep G6 ((D, .lst (as.map V.int)) :: (y, .ins T.C_Things dy (tF r2 e6)) :: (e6, .dK kvt6) :: (x, .ins T.C_Known dx (kF kv r2 p5 d5)) :: (d5, .dT kvs5) :: M) H' ∧ as.length ≤ i ∧ (as ≠ [] ↔ ∃ a, a < i ∧ PartAt f n1 n2 j a))
      ⟨[], Sa.new nD, Nat.le_refl _, fun h => absurd rfl h, fun ⟨a, h, _⟩ => absurd h (Nat.not_lt_zero a)⟩ (fun i H' _ h => ?_) (fun i v H' hv h => ?_) (fun H' h => ?_)⟩
    · obtain ⟨as, S', _⟩ := h
      exact (h26.same S'.1).tu.sq
    · obtain ⟨as, Sb, al, ha⟩ := h
      rw [List.getElem?_map] at hv
      obtain ⟨c, hc, rfl⟩ := Option.map_eq_some_iff.mp hv
      have il := (List.getElem?_eq_some_iff.mp hc).1
      have hci := List.getElem?_eq_getElem (show i < (ids f n2).length by rw [ids_len]; exact il)
      have pi := part_iff ro1.nd hb hci hj hc
      rw [ids_len] at pi
      have hxx : H' x = some (.ins T.C_Known dx (kF kv r2 p5 d5)) := Sb.at (by simp)
      have hyy : H' y = some (.ins T.C_Things dy (tF r2 e6)) := Sb.at (by simp)
      have hdd : H' d5 = some (.dT kvs5) := Sb.at (by simp)
      have hee : H' e6 = some (.dK kvt6) := Sb.at (by simp)
      refine ⟨rfl, x, dx, _, rfl, hxx, G6, _, x, dx, kv, r2, p5, d5, kvs5, f, n2, _, i, c, rfl, Sb, hxx, hdd, ko6, hc, ?_⟩
      refine ⟨y, dy, _, rfl, hyy, G6, _, y, dy, r2, e6, kvt6, n2, _, i, c, rfl, Sb, hyy, hee, to6, hc, tst (fun e => ?_) (fun e => ?_)⟩
      · have pa : PartAt f n1 n2 j i := pi.mp (by simpa using e)
        refine ⟨_, Sb.hd, by rw [List.length_map]; exact smallL (by omega), as ++ [c], by rw [List.map_append]; exact Sb.set, by simp; omega, fun _ => ⟨i, by omega, pa⟩, fun _ => by simp⟩
      · have pa : ¬ PartAt f n1 n2 j i := fun z => pi.mpr z (by simpa using e)
        refine ⟨as, Sb, by omega, ha.trans ⟨fun ⟨a, h, z⟩ => ⟨a, by omega, z⟩, fun ⟨a, h, z⟩ => ⟨a, ?_, z⟩⟩⟩
        rcases Nat.lt_succ_iff_lt_or_eq.mp h with h | h
        · exact h
        · subst h; exact absurd z pa
    · obtain ⟨as, Sb, al, ha⟩ := h
      rw [List.length_map] at al ha
      refine ⟨sz, fun D2 nD2 => ?_⟩
      have Sc := Sb.newG (o := .lst []) nD2
      have sc := Sb.grow (o := .lst []) nD2
      refine ⟨_, .list [], .lst (SqL.of Sc.hd) (ints_dp _), .lst (SqL.of upd_same) .nil, ints_shaped _, rfl, ?_⟩
      refine q _ _ _ ?_ (s06.trans sc) (Sc.drop.drop.drop.drop.drop)
      rw [← ha]
      cases as with
      | nil => exact ⟨fun h => (nomatch h), fun h => absurd rfl h⟩
      | cons z r => exact ⟨fun _ => (by simp), fun _ => rfl⟩

end
end K28
set_option Elab.async false
set_option linter.all false
set_option maxRecDepth 100000
set_option maxHeartbeats 4000000
namespace K28
open PySem PySem.Spec PyProof.Rows L2 XL
section
variable {P : Program} {w : World} {K : PySem.W.Frag} {mg : Str → Option Value} {base : Heap}
/-! ### least_parting -/
def PartJ (f : Fm) (n1 n2 : List Int) (j : Nat) : Prop := ∃ i, i < n2.length ∧ PartAt f n1 n2 j i
theorem alike_iff {f : Fm} {n1 n2 : List Int} : Alike f n1 n2 ↔ ∀ j, j < n1.length → ¬ PartJ f n1 n2 j := by
  refine ⟨fun al j hj ⟨i, hi, pa⟩ => pa (al i hi j hj), fun h i hi j hj => ?_⟩
  apply Classical.byContradiction
  intro z
  exact h j hj ⟨i, hi, z⟩
def FaithL (f : Fm) (xs : List (Addr × List Int)) : Prop := ∀ (a b : Nat) (x y : Addr × List Int), xs[a]? = some x → xs[b]? = some y → Alike f x.2 y.2
/-- the first triple -/
structure Trip (f : Fm) (xs : List (Addr × List Int)) (i j k : Nat) (x y : Addr × List Int) (it : Int) : Prop where
  hx : xs[i]? = some x
  hy : xs[j]? = some y
  fine : FineTo f xs xs i j
  at_ : x.2[k]? = some it
  part : PartJ f x.2 y.2 k
  none : ∀ k', k' < k → ¬ PartJ f x.2 y.2 k'
def spLeast (Ck : Addr) : Sp := fun vs H Q _ => ∃ (f : Fm) (G : Hp) (M : List (Addr × HO)) (v : V) (m : Addr) (us : List V) (xs : List (Addr × List Int)), vs = [v, .ref m] ∧ Sep G M H ∧ KeyAt Ck G v f ∧ Tu G m us ∧ Paired (RowsAt G) us xs ∧
  (∀ (G' H' : Hp), FaithL f xs → Same G G' → Sep G' M H' → Q .non H') ∧
  (∀ (i j k : Nat) (x y : Addr × List Int) (it : Int) (t : Addr) (G' H' : Hp), Trip f xs i j k x y it → Same G G' → Sep G' M H' → G' t = some (.tup [.ref x.1, .int it, .ref y.1]) → Q (.ref t) H')
theorem ok_least_parting (T : Top K mg w) (G_is_parting : FnOk P w K mg base CX0 11 T.a_is_parting T.d_is_parting ["key", "old", "item", "new"] (spParting T.C_Key)) :
    FnOk P w K mg base CX0 12 T.a_least_parting T.d_least_parting ["key", "menu"] (spLeast T.C_Key) := by
  refine T.F_least_parting.ok sc_least_parting (fun vs H Q E h => ?_) (fun cdv A outer s H vs Q E hr h => ?_)
  · obtain ⟨f, G, M, v, m, us, xs, rfl, _⟩ := h
    rfl
  · obtain ⟨f, G, M, v, m, us, xs, rfl, S, hk, hm, pu, q0, q1⟩ := h
    refine ⟨_, (pss_cons (ps_for PassesOwn.never rfl (pi_tupK K (xv 1)) (pg_name (i := 2) sc_least_parting.nd rfl (.inl rfl))
      (pss_one (ps_for PassesOwn.never rfl (pi_tupK K (xv 1)) (pg_name (i := 3) sc_least_parting.nd rfl (.inl rfl))
      (pss_one (ps_for PassesOwn.never rfl (pi_tupK K (xv 2)) (pg_name (i := 4) sc_least_parting.nd rfl (.inl rfl))
      (pss_one (xs_if (xt_truK K (pe_call G_is_parting (hr.mono (by omega)) (by rfl) T.g_is_parting T.F_is_parting.kp T.b_is_parting .nil pass0 (pa_cons (xv 0) (pa_cons (xv 2) (pa_cons (xv 4) (pa_cons (xv 3) pa_nil))))))
      (pss_one (ps_ret (pe_tup (pa_cons (xv 2) (pa_cons (xv 4) (pa_cons (xv 3) pa_nil))))))
      pss_nil)))))))
      (pss_one (ps_ret pe_non))), ?_⟩
    have uw := prd_len pu
    refine ⟨m, rfl, ⟨us, (hm.same S.1).sq⟩, for_tup (xs := us) (fun i σ H' => ∃ (y2 y3 y4 : Option V) (G' : Hp), σ = [some v, some (.ref m), y2, y3, y4] ∧ Same G G' ∧ Sep G' M H' ∧ FineTo f xs xs i 0)
      ⟨_, _, _, G, rfl, Same.refl _, S, fun a b x y h => absurd h (by omega)⟩ (fun i σ H' _ h => ?_) (fun i u σ H' hu h => ?_) (fun σ H' h => ?_)⟩
    · obtain ⟨_, _, _, G', _, s', S', _⟩ := h
      exact ((hm.same s').same S'.1).sq
    · obtain ⟨y2, y3, y4, G1, rfl, s1, S1, fine⟩ := h
      obtain ⟨x, hx, rfl, hrx, rox⟩ := prd_get pu hu
      refine ⟨m, rfl, ⟨us, ((hm.same s1).same S1.1).sq⟩, for_tup (xs := us) (fun j σ H' => ∃ (y3 y4 : Option V) (G' : Hp), σ = [some v, some (.ref m), some (.ref x.1), y3, y4] ∧ Same G G' ∧ Sep G' M H' ∧ FineTo f xs xs i j)
        ⟨_, _, G1, rfl, s1, S1, fine⟩ (fun j σ H' _ h => ?_) (fun j u σ H' hu h => ?_) (fun σ H' h => ?_)⟩
      · obtain ⟨_, _, G', _, s', S', _⟩ := h
        exact ((hm.same s').same S'.1).sq
      · obtain ⟨y3, y4, G2, rfl, s2, S2, fine⟩ := h
        obtain ⟨y, hy, rfl, hry, roy⟩ := prd_get pu hu
        refine ⟨x.1, rfl, ⟨_, ((hrx.same s2).same S2.1).tu.sq⟩, for_tup (xs := x.2.map V.int) (fun k σ H' => ∃ (y4 : Option V) (G' : Hp), σ = [some v, some (.ref m), some (.ref x.1), some (.ref y.1), y4] ∧ Same G G' ∧ Sep G' M H' ∧ ∀ k', k' < k → ¬ PartJ f x.2 y.2 k')
          ⟨_, G2, rfl, s2, S2, fun k' h => absurd h (Nat.not_lt_zero k')⟩ (fun k σ H' _ h => ?_) (fun k u σ H' hu h => ?_) (fun σ H' h => ?_)⟩
        · obtain ⟨_, G', _, s', S', _⟩ := h
          exact ((hrx.same s').same S'.1).tu.sq
        · obtain ⟨y4, G3, rfl, s3, S3, no⟩ := h
          rw [List.getElem?_map] at hu
          obtain ⟨it, hit, rfl⟩ := Option.map_eq_some_iff.mp hu
          refine ⟨G3, M, v, f, x.1, y.1, x.2, y.2, k, it, rfl, S3, hk.same s3, hrx.same s3, rox, hry.same s3, roy, hit, fun c G4 H4 hc s4 S4 => ⟨fun e => ⟨sz, fun t nt => ?_⟩, fun e => ?_⟩⟩
          · exact q1 i j k x y it t _ _ ⟨hx, hy, fine, hit, hc.mp e, no⟩ (s3.trans (s4.trans (S4.grow nt))) (S4.newG nt) upd_same
          · refine ⟨_, G4, rfl, s3.trans s4, S4, fun k' hk' => ?_⟩
            rcases Nat.lt_succ_iff_lt_or_eq.mp hk' with h | h
            · exact no k' h
            · subst h
              intro z
              rw [hc.mpr z] at e
              cases e
        · obtain ⟨y4, G3, rfl, s3, S3, no⟩ := h
          rw [List.length_map] at no
          refine ⟨_, _, G3, rfl, s3, S3, fun a b x' y' hab hx' hy' => ?_⟩
          by_cases z : a < i ∨ a = i ∧ b < j
          · exact fine a b x' y' z hx' hy'
          · obtain ⟨rfl, rfl⟩ : a = i ∧ b = j := by omega
            rw [hx] at hx'
            rw [hy] at hy'
            rw [← Option.some.inj hx', ← Option.some.inj hy']
            exact alike_iff.mpr no
      · obtain ⟨y3, y4, G2, rfl, s2, S2, fine⟩ := h
        refine ⟨_, _, _, G2, rfl, s2, S2, fun a b x' y' hab hx' hy' => ?_⟩
        have hb := (List.getElem?_eq_some_iff.mp hy').1
        exact fine a b x' y' (by omega) hx' hy'
    · obtain ⟨y2, y3, y4, G1, rfl, s1, S1, fine⟩ := h
      refine q0 G1 H' (fun a b x y hx hy => fine a b x y (.inl ?_) hx hy) s1 S1
      have ha := (List.getElem?_eq_some_iff.mp hx).1
      omega

end
end K28
set_option Elab.async false
set_option linter.all false
set_option maxRecDepth 100000
set_option maxHeartbeats 4000000
namespace K28
open PySem PySem.Spec PyProof.Rows L2 XL
section
variable {P : Program} {w : World} {K : PySem.W.Frag} {mg : Str → Option Value} {base : Heap}
/-! ### all rows of a size, by their length -/
def more (s : Nat) (row : List Int) : List (List Int) := ((List.range s).filter fun i => !decide (((i : Nat) : Int) ∈ row)).map fun i => row ++ [((i : Nat) : Int)]
def rowsN (s : Nat) : Nat → List (List Int)
  | 0 => [[]]
  | l + 1 => (rowsN s l).flatMap (more s)
theorem mem_more {s : Nat} {row r : List Int} : r ∈ more s row ↔ ∃ i : Nat, i < s ∧ ((i : Nat) : Int) ∉ row ∧ r = row ++ [((i : Nat) : Int)] := by
  unfold more
  rw [List.mem_map]
  refine ⟨fun ⟨i, hi, e⟩ => ?_, fun ⟨i, h1, h2, e⟩ => ⟨i, ?_, e.symm⟩⟩
  · rw [List.mem_filter, List.mem_range] at hi
    exact ⟨i, hi.1, by simpa using hi.2, e.symm⟩
  · rw [List.mem_filter, List.mem_range]
    exact ⟨h1, by simpa using h2⟩
theorem mem_rowsN {s : Nat} : ∀ {l : Nat} {r : List Int}, r ∈ rowsN s l ↔ r.length = l ∧ r.Nodup ∧ ∀ n ∈ r, 0 ≤ n ∧ n < s
  | 0, r => by
    unfold rowsN
    rw [List.mem_singleton]
    refine ⟨fun e => ?_, fun h => List.length_eq_zero_iff.mp h.1⟩
    subst e
    exact ⟨rfl, List.nodup_nil, fun n h => absurd h (by simp)⟩
  | l + 1, r => by
    unfold rowsN
    rw [List.mem_flatMap]
    refine ⟨fun ⟨row, h1, h2⟩ => ?_, fun ⟨h1, h2, h3⟩ => ?_⟩
    · obtain ⟨hl, hn, hb⟩ := mem_rowsN.mp h1
      obtain ⟨i, hi, hm, rfl⟩ := mem_more.mp h2
      refine ⟨by simp [hl], ?_, fun n hn' => ?_⟩
      · rw [List.nodup_append]
        exact ⟨hn, by simp, fun a ha b hb' e => by
          rw [List.mem_singleton] at hb'
          subst hb'
          subst e
          exact hm ha⟩
      · rcases List.mem_append.mp hn' with h | h
        · exact hb n h
        · rw [List.mem_singleton] at h
          omega
    · have hne : r ≠ [] := fun e => by subst e; simp at h1
      have hd := List.dropLast_concat_getLast hne
      have hb := h3 (r.getLast hne) (List.getLast_mem hne)
      rw [← hd] at h2 h3
      rw [List.nodup_append] at h2
      refine ⟨r.dropLast, mem_rowsN.mpr ⟨by simp [h1], h2.1, fun n hn => h3 n (List.mem_append_left _ hn)⟩, ?_⟩
      refine mem_more.mpr ⟨(r.getLast hne).toNat, by omega, ?_, ?_⟩
      · rw [Int.toNat_of_nonneg hb.1]
        exact fun hm => h2.2.2 _ hm _ (List.mem_singleton_self _) rfl
      · rw [Int.toNat_of_nonneg hb.1]
        exact hd.symm
theorem nd_len : ∀ (s : Nat) (ns : List Int), ns.Nodup → (∀ n ∈ ns, 0 ≤ n ∧ n < s) → ns.length ≤ s
  | 0, ns, _, h => by
    cases ns with
    | nil => exact Nat.le_refl _
    | cons a r =>
      have := h a List.mem_cons_self
      omega
  | s + 1, ns, nd, h => by
    have z := nd_len s (ns.erase s) (nd.erase _) fun n hn => by
      have h1 := (nd.mem_erase_iff.mp hn).1
      have h2 := h n (nd.mem_erase_iff.mp hn).2
      omega
    rw [List.length_erase] at z
    split at z <;> omega
theorem rowsN_ok {s l : Nat} {r : List Int} (h : r ∈ rowsN s l) (hs : s ≤ 5) : RowOk r := by
  obtain ⟨h1, h2, h3⟩ := mem_rowsN.mp h
  have h4 := nd_len s r h2 h3
  exact ⟨by omega, h2, fun n hn => by have := h3 n hn; omega⟩
theorem more_len (s : Nat) (row : List Int) : (more s row).length ≤ s := by
  unfold more
  rw [List.length_map]
  exact Nat.le_trans (List.length_filter_le _ _) (by simp)
theorem flat_len (s : Nat) : ∀ rs : List (List Int), (rs.flatMap (more s)).length ≤ rs.length * s
  | [] => by simp
  | r :: rs => by
    rw [List.flatMap_cons, List.length_append, List.length_cons, Nat.add_mul, Nat.one_mul]
    have h1 := more_len s r
    have h2 := flat_len s rs
    omega
theorem rowsN_len {s : Nat} (hs : s ≤ 5) : ∀ l : Nat, (rowsN s l).length ≤ 5 ^ l
  | 0 => by simp [rowsN]
  | l + 1 => by
    have h1 := rowsN_len hs l
    have h2 := flat_len s (rowsN s l)
    have h3 : (rowsN s l).length * s ≤ 5 ^ l * 5 := Nat.mul_le_mul h1 hs
    rw [Nat.pow_succ]
    exact Nat.le_trans h2 h3
/-! ### which keys are plain -/
theorem ids_get (f : Fm) {ns : List Int} {k : Nat} (h : k < ns.length) : (ids f ns)[k]? = some (idt f ns k) := by
  unfold ids
  rw [List.getElem?_map, List.getElem?_range h]
  rfl
/-- the items are known by their values -/
def ByVal (f : Fm) (ns : List Int) : Prop := ∀ k, k < ns.length → idt f ns k = (f.val (ns.getD k 0) 0, 0)
def Inj (f : Fm) (s : Nat) : Prop := ∀ i j : Int, 0 ≤ i → i < s → 0 ≤ j → j < s → f.val i 0 = f.val j 0 → i = j
theorem alike_of {f : Fm} {s : Nat} {a b : List Int} (inj : Inj f s) (ha : ByVal f a) (hb : ByVal f b) (la : ∀ n ∈ a, 0 ≤ n ∧ n < s) (lb : ∀ n ∈ b, 0 ≤ n ∧ n < s) : Alike f a b := by
  intro j hj i hi
  have ma := List.mem_of_getElem? (getD_some hi)
  have mb := List.mem_of_getElem? (getD_some hj)
  rw [ids_get f hi, ids_get f hj, ha i hi, hb j hj, getD_some hi, getD_some hj, Option.some_inj, Option.some_inj]
  refine ⟨fun e => ?_, fun e => by rw [e]⟩
  exact inj _ _ (la _ ma).1 (la _ ma).2 (lb _ mb).1 (lb _ mb).2 (congrArg Prod.fst e)
theorem byVal_one (f : Fm) (x : Int) : ByVal f [x] := by
  intro k hk
  have : k = 0 := by simp at hk; omega
  subst this
  simp [idt, gv]
theorem alike_self (f : Fm) (x : Int) : Alike f [x] [x] := by
  intro j hj i hi
  have h1 : i = 0 := by simp at hi; omega
  have h2 : j = 0 := by simp at hj; omega
  subst h1
  subst h2
  simp
/-- every single item is told apart from the items of the rows up to N places -/
def Ones (f : Fm) (s N : Nat) : Prop := ∀ (x : Int) (b : List Int) (m : Nat), 0 ≤ x → x < s → m ≤ N → b ∈ rowsN s m → Alike f [x] b
theorem one_row {s : Nat} {x : Int} (h0 : 0 ≤ x) (h1 : x < s) : [x] ∈ rowsN s 1 := mem_rowsN.mpr ⟨rfl, by simp, fun n hn => by
  rw [List.mem_singleton] at hn
  subst hn
  exact ⟨h0, h1⟩⟩
theorem ones_at {f : Fm} {s N m : Nat} (h : Ones f s N) (hm : m ≤ N) {b : List Int} (hb : b ∈ rowsN s m) : ByVal f b := by
  intro k hk
  obtain ⟨_, nd, lo⟩ := mem_rowsN.mp hb
  have hx := lo _ (List.mem_of_getElem? (getD_some hk))
  have z := (h (b.getD k 0) b m hx.1 hx.2 hm hb k hk 0 (by simp)).mpr (by rw [getD_some hk]; rfl)
  rw [ids_get f hk, ids_get f (by simp)] at z
  rw [← Option.some.inj z, byVal_one f _ 0 (by simp)]
  rfl
theorem ones_inj {f : Fm} {s N : Nat} (h : Ones f s N) (hN : 1 ≤ N) : Inj f s := by
  intro i j i0 i1 j0 j1 e
  have z := (h i [j] 1 i0 i1 hN (one_row j0 j1) 0 (by simp) 0 (by simp)).mp (by
    rw [ids_get f (by simp), ids_get f (by simp), byVal_one f _ 0 (by simp), byVal_one f _ 0 (by simp)]
    show some (f.val i 0, (0 : Int)) = some (f.val j 0, 0)
    rw [e])
  exact Option.some.inj z
theorem ones_alike {f : Fm} {s N l m : Nat} {a b : List Int} (h : Ones f s N) (hN : 1 ≤ N) (hl : l ≤ N) (hm : m ≤ N) (ha : a ∈ rowsN s l) (hb : b ∈ rowsN s m) : Alike f a b :=
  alike_of (ones_inj h hN) (ones_at h hl ha) (ones_at h hm hb) (mem_rowsN.mp ha).2.2 (mem_rowsN.mp hb).2.2
def AllAl (f : Fm) (s p : Nat) : Prop := ∀ (l m : Nat) (a b : List Int), l ≤ p → m ≤ p → a ∈ rowsN s l → b ∈ rowsN s m → Alike f a b
def PlainI (f : Fm) (s p : Nat) (i : Nat) : Prop := (∀ t : Nat, t < min p s → f.val i t = f.val i 0) ∧ ∀ i' : Nat, i' < i → f.val i' 0 ≠ f.val i 0
def Plain (f : Fm) (s p : Nat) : Prop := ∀ i : Nat, i < s → PlainI f s p i
theorem plain_inj {f : Fm} {s p : Nat} (h : Plain f s p) : Inj f s := by
  intro i j i0 i1 j0 j1 e
  obtain ⟨i, rfl⟩ := Int.eq_ofNat_of_zero_le i0
  obtain ⟨j, rfl⟩ := Int.eq_ofNat_of_zero_le j0
  rcases Nat.lt_trichotomy i j with z | z | z
  · exact absurd e ((h j (by omega)).2 i z)
  · rw [z]
  · exact absurd e.symm ((h i (by omega)).2 j z)
theorem plain_all {f : Fm} {s p : Nat} (h : Plain f s p) : AllAl f s p := by
  have by' : ∀ (l : Nat) (a : List Int), l ≤ p → a ∈ rowsN s l → ByVal f a := by
    intro l a hl ha k hk
    obtain ⟨e, nd, lo⟩ := mem_rowsN.mp ha
    have le := nd_len s a nd lo
    have val : ∀ t, t < a.length → gv f a t = f.val (a.getD t 0) 0 := by
      intro t ht
      have hx := lo _ (List.mem_of_getElem? (getD_some ht))
      obtain ⟨x, ex⟩ := Int.eq_ofNat_of_zero_le hx.1
      unfold gv
      rw [ex] at hx ⊢
      exact (h x (by omega)).1 t (by omega)
    unfold idt
    rw [val k hk]
    have c0 : ((List.range k).map (gv f a)).count (f.val (a.getD k 0) 0) = 0 := by
      rw [List.count_eq_zero]
      intro hm
      obtain ⟨t, ht, et⟩ := List.mem_map.mp hm
      rw [List.mem_range] at ht
      rw [val t (by omega)] at et
      have h1 := lo _ (List.mem_of_getElem? (getD_some (show t < a.length by omega)))
      have h2 := lo _ (List.mem_of_getElem? (getD_some hk))
      have e2 := plain_inj h _ _ h1.1 h1.2 h2.1 h2.2 et
      have e3 : a[t]? = a[k]? := by rw [getD_some (show t < a.length by omega), getD_some hk, e2]
      have := (List.getElem?_inj (by omega) nd).mp e3
      omega
    rw [c0]
    rfl
  intro l m a b hl hm ha hb
  exact alike_of (plain_inj h) (by' l a hl ha) (by' m b hm hb) (mem_rowsN.mp ha).2.2 (mem_rowsN.mp hb).2.2
theorem all_ones {f : Fm} {s p : Nat} (hp : 1 ≤ p) (h : AllAl f s p) : Ones f s p := fun x b m h0 h1 hm hb => h 1 m [x] b hp hm (one_row h0 h1) hb
/-- a row with this item at this place -/
theorem row_with {s t : Nat} {i : Nat} (hi : i < s) (ht : t < s) : ∃ r, r ∈ rowsN s (t + 1) ∧ r.getD t 0 = (i : Int) := by
  obtain ⟨xs, exs⟩ : ∃ xs, xs = (List.range s).erase i := ⟨_, rfl⟩
  have nd : xs.Nodup := exs ▸ List.nodup_range.erase _
  have ln : s ≤ xs.length + 1 := by
    rw [exs, List.length_erase_of_mem (List.mem_range.mpr hi), List.length_range]
    omega
  have mm : ∀ j ∈ xs, j ≠ i ∧ j < s := fun j hj => by
    rw [exs] at hj
    have := List.nodup_range.mem_erase_iff.mp hj
    exact ⟨this.1, List.mem_range.mp this.2⟩
  have nt : (xs.take t).length = t := by rw [List.length_take]; omega
  refine ⟨(xs.take t).map (fun j : Nat => (j : Int)) ++ [(i : Int)], mem_rowsN.mpr ⟨by rw [List.length_append, List.length_map, nt]; rfl, ?_, fun n hn => ?_⟩, ?_⟩
  · rw [List.nodup_append]
    refine ⟨?_, by simp, fun a ha b hb e => ?_⟩
    · unfold List.Nodup
      rw [List.pairwise_map]
      exact (List.Pairwise.sublist (List.take_sublist _ _) nd).imp fun hab e => hab (by omega)
    · rw [List.mem_singleton] at hb
      obtain ⟨j, hj, rfl⟩ := List.mem_map.mp ha
      have := (mm j (List.mem_of_mem_take hj)).1
      omega
  · rcases List.mem_append.mp hn with h | h
    · obtain ⟨j, hj, rfl⟩ := List.mem_map.mp h
      have := (mm j (List.mem_of_mem_take hj)).2
      omega
    · rw [List.mem_singleton] at h
      omega
  · rw [List.getD_eq_getElem?_getD, List.getElem?_append_right (by rw [List.length_map, nt]; exact Nat.le_refl _), List.length_map, nt, Nat.sub_self]
    rfl
theorem all_plain {f : Fm} {s p : Nat} (hp : 1 ≤ p) (h : AllAl f s p) : Plain f s p := by
  have on := all_ones hp h
  have inj := ones_inj on hp
  intro i hi
  refine ⟨fun t ht => ?_, fun i' hi' e => ?_⟩
  · obtain ⟨r, hr, e⟩ := row_with hi (show t < s by omega)
    have ln := (mem_rowsN.mp hr).1
    have z := ones_at on (show t + 1 ≤ p by omega) hr t (by omega)
    have z1 : gv f r t = f.val (r.getD t 0) 0 := congrArg Prod.fst z
    unfold gv at z1
    rw [e] at z1
    exact z1
  · have := inj i' i (by omega) (by omega) (by omega) (by omega) e
    omega
/-! ### the first wrong pair -/
def FineL (f : Fm) (xs ys : List (List Int)) (i j : Nat) : Prop := ∀ (a b : Nat) (x y : List Int), (a < i ∨ a = i ∧ b < j) → xs[a]? = some x → ys[b]? = some y → Alike f x y
def NoneTo (f : Fm) (s p t l : Nat) : Prop := ∀ t' l' : Nat, (t' < t ∨ t' = t ∧ l' < l) → l' ≤ p → l' ≤ t' → t' - l' ≤ p → ∀ a ∈ rowsN s l', ∀ b ∈ rowsN s (t' - l'), Alike f a b
structure First (f : Fm) (s p : Nat) (t l i j : Nat) (a b : List Int) : Prop where
  lp : l ≤ p
  lt : l ≤ t
  tp : t - l ≤ p
  no : NoneTo f s p t l
  ha : (rowsN s l)[i]? = some a
  hb : (rowsN s (t - l))[j]? = some b
  fine : FineL f (rowsN s l) (rowsN s (t - l)) i j
  na : ¬ Alike f a b
theorem First.eq {f : Fm} {s p t l i j t' l' i' j' : Nat} {a b a' b' : List Int} (h : First f s p t l i j a b) (h' : First f s p t' l' i' j' a' b') : a' = a ∧ b' = b := by
  have e : t = t' ∧ l = l' := by
    apply Classical.byContradiction
    intro ne
    by_cases z : t < t' ∨ t = t' ∧ l < l'
    · exact h.na (h'.no t l z h.lp h.lt h.tp a (List.mem_of_getElem? h.ha) b (List.mem_of_getElem? h.hb))
    · exact h'.na (h.no t' l' (by omega) h'.lp h'.lt h'.tp a' (List.mem_of_getElem? h'.ha) b' (List.mem_of_getElem? h'.hb))
  obtain ⟨rfl, rfl⟩ := e
  have e : i = i' ∧ j = j' := by
    apply Classical.byContradiction
    intro ne
    by_cases z : i < i' ∨ i = i' ∧ j < j'
    · exact h.na (h'.fine i j a b z h.ha h.hb)
    · exact h'.na (h.fine i' j' a' b' (by omega) h'.ha h'.hb)
  obtain ⟨rfl, rfl⟩ := e
  have e1 := h.ha.symm.trans h'.ha
  have e2 := h.hb.symm.trans h'.hb
  exact ⟨(Option.some.inj e1).symm, (Option.some.inj e2).symm⟩
theorem First.notAll {f : Fm} {s p t l i j : Nat} {a b : List Int} (h : First f s p t l i j a b) : ¬ AllAl f s p := fun al => h.na (al l (t - l) a b h.lp h.tp (List.mem_of_getElem? h.ha) (List.mem_of_getElem? h.hb))
theorem First.one {f : Fm} {s p t l i j : Nat} {a b : List Int} (h : First f s p t l i j a b) : a.length = 1 := by
  have ha := List.mem_of_getElem? h.ha
  have hb := List.mem_of_getElem? h.hb
  have la := (mem_rowsN.mp ha).1
  have lb := (mem_rowsN.mp hb).1
  have l0 : l ≠ 0 := fun e => h.na fun j hj i hi => by omega
  have m0 : t - l ≠ 0 := fun e => h.na fun j hj i hi => by omega
  apply Classical.byContradiction
  intro ne
  have on : Ones f s (min (t - 1) p) := fun x b' m h0 h1 hm hb' => h.no (1 + m) 1 (by omega) (by have := h.lp; omega) (by omega) (by omega) [x] (one_row h0 h1) b' (by rw [Nat.add_sub_cancel_left]; exact hb')
  have h1 := h.lp
  have h2 := h.tp
  exact h.na (ones_alike on (by omega) (show l ≤ _ by omega) (show t - l ≤ _ by omega) ha hb)
theorem noneTo_all {f : Fm} {s p : Nat} (h : NoneTo f s p (2 * p + 1) 0) : AllAl f s p := fun l m a b hl hm ha hb => h (l + m) l (by omega) hl (by omega) (by omega) a ha b (by rw [Nat.add_sub_cancel_left]; exact hb)

/-! ### rows_of -/
def RowV (G : Hp) (v : V) (n : List Int) : Prop := ∃ p : Addr, v = .ref p ∧ TupF G p (n.map V.int) ∧ RowOk n
theorem RowV.same {G G' : Hp} (e : Same G G') {v : V} {n : List Int} (h : RowV G v n) : RowV G' v n := by
  obtain ⟨p, h1, h2, h3⟩ := h
  exact ⟨p, h1, h2.same e, h3⟩
theorem rowsV_same {G G' : Hp} (e : Same G G') {us : List V} {rs : List (List Int)} (h : Paired (RowV G) us rs) : Paired (RowV G') us rs := prd_imp (fun _ _ => RowV.same e) h
theorem more_succ (j : Nat) (n : List Int) : more (j + 1) n = more j n ++ (if ((j : Nat) : Int) ∈ n then [] else [n ++ [((j : Nat) : Int)]]) := by
  unfold more
  rw [List.range_succ, List.filter_append, List.map_append]
  congr 1
  by_cases h : ((j : Nat) : Int) ∈ n <;> simp [h]
theorem more_row {s l k j : Nat} {n : List Int} (hs : s ≤ 5) (h : (rowsN s l)[k]? = some n) (hj : j < s) (hn : ((j : Nat) : Int) ∉ n) : RowOk (n ++ [((j : Nat) : Int)]) :=
  rowsN_ok (l := l + 1) (List.mem_flatMap.mpr ⟨n, List.mem_of_getElem? h, mem_more.mpr ⟨j, hj, hn, rfl⟩⟩) hs
theorem pow_le {s l : Nat} (hs : s ≤ 5) (hl : l ≤ 5) : (rowsN s l).length ≤ 3125 := Nat.le_trans (rowsN_len hs l) (Nat.le_trans (Nat.pow_le_pow_right (by decide) hl) (by decide))
theorem part_len {s l k j : Nat} {n : List Int} (hs : s ≤ 5) (hl : l ≤ 5) (hj : j ≤ 5) : (((rowsN s l).take k).flatMap (more s) ++ more j n).length ≤ 20000 := by
  rw [List.length_append]
  have h1 := flat_len s ((rowsN s l).take k)
  have h2 := more_len j n
  have h3 := pow_le hs hl
  have h4 : ((rowsN s l).take k).length ≤ 3125 := by rw [List.length_take]; omega
  have h5 : ((rowsN s l).take k).length * s ≤ 3125 * 5 := Nat.mul_le_mul h4 hs
  omega
def spRowsOf : Sp := fun vs H Q _ => ∃ (G : Hp) (M : List (Addr × HO)) (s l : Nat), vs = [.int (s : Nat), .int (l : Nat)] ∧ Sep G M H ∧ s ≤ 5 ∧ l ≤ 5 ∧
  ∀ (D : Addr) (us : List V) (G' H' : Hp), Same G G' → Sep G' M H' → G' D = some (.lst us) → Paired (RowV G') us (rowsN s l) → Q (.ref D) H'
theorem ok_rows_of (T : Top K mg w) {k : Nat} : FnOk P w K mg base CX0 (k + 1) T.a_rows_of T.d_rows_of ["size", "length"] spRowsOf := by
  refine T.F_rows_of.ok sc_rows_of (fun vs H Q E h => ?_) (fun cdv A outer s0 H vs Q E hr h => ?_)
  · obtain ⟨G, M, s, l, rfl, _⟩ := h
    rfl
  · obtain ⟨G, M, s, l, rfl, S, hs, hl, q⟩ := h
    refine ⟨_, (pss_cons (ps_set (i := 2) sc_rows_of.nd rfl (.inl rfl) (pe_lst (pa_cons (pe_tupF pa_nil) pa_nil)))
      (pss_cons (ps_for PassesOwn.never rfl (pi_range1 (by rfl) T.m_range (pa_cons (xv 1) pa_nil)) (pg_name (i := 3) sc_rows_of.nd rfl (.inl rfl))
      (pss_one (ps_setLc2 (i := 2) (own := [("row", 4), ("item", 5)]) (vs1 := [5]) (by rfl) sc_rows_of.nd rfl rfl (sw_true rfl rfl rfl (by decide +kernel)) (pi_listK K (xv 2)) (blkOk_by (N := ["size", "length", "rows", "count", "row", "item"]) (sc := defScope s_rows_of) (by decide +kernel)) (by decide) (fun _ _ _ _ _ => (pg_name (i := 4) sc_rows_of.nd rfl (.inl rfl))) (fun _ _ _ _ _ => pts_nil) (fun _ _ _ _ _ => (pi_range1 (by rfl) T.m_range (pa_cons (xv 0) pa_nil))) (fun _ _ _ _ _ => (pg_name (i := 5) sc_rows_of.nd rfl (.inl rfl))) (fun _ _ _ _ _ => (pts_one (xt_cmp (notin_seqK K) (xv 5) (xv 4) (by rfl)))) (fun _ _ _ _ _ => (pe_op (op_catFK K) (xv 4) (pe_tupF (pa_cons (xv 5) pa_nil)))))))
      (pss_one (ps_ret (xv 2))))), ?_⟩
    refine ⟨sz, fun e ob ne hob => ⟨sz, fun D nD => ?_⟩⟩
    have S1 := S.newG (o := .frz ob (.tup [])) ne
    have s1 := S.grow (o := .frz ob (.tup [])) ne
    have S2 := S1.newG (o := .lst [.ref e]) nD
    have s2 := S1.grow (o := .lst [.ref e]) nD
    refine ⟨_, rfl, by omega, by omega, for_range (lo := 0) (n := l) (fun i σ H' => ∃ (y3 : Option V) (D : Addr) (us : List V) (G' : Hp), σ = [some (.int (s : Nat)), some (.int (l : Nat)), some (.ref D), y3, none, none] ∧ Same G G' ∧ Sep G' M H' ∧ G' D = some (.lst us) ∧ Paired (RowV G') us (rowsN s i))
      ⟨_, D, [.ref e], _, rfl, s1.trans s2, S2, upd_same, .cons ⟨e, rfl, TupF.same s2 ⟨ob, hob, upd_same⟩, ⟨by decide, List.nodup_nil, fun n h => absurd h (by simp)⟩⟩ .nil⟩ (fun i σ H' hi h => ?_) (fun σ H' h => ?_)⟩
    · obtain ⟨y3, D, us, G1, rfl, s1, S1, hD, hu⟩ := h
      refine ⟨D, rfl, ⟨us, SqL.of (S1.st hD)⟩, fun E nE => loopL (xs := us) (fun k H' => ∃ (G' : Hp) (ws : List V), Same G1 G' ∧ Sep G' ((E, .lst ws) :: M) H' ∧ Paired (RowV G') ws (((rowsN s i).take k).flatMap (more s)))
        ⟨G1, [], Same.refl _, S1.new nE, .nil⟩ (fun k H' p => ?_) (fun k x H' hx p => ?_) (fun H' p => ?_)⟩
      · obtain ⟨G', ws, s', S', _⟩ := p
        exact SqL.of (S'.st (s' _ _ hD))
      · obtain ⟨G', ws, s', S', hw⟩ := p
        obtain ⟨n, hn, r, rfl, hr0, ro⟩ := prd_get hu hx
        have l5 : n.length ≤ 5 := ro.len
        refine ⟨rfl, _, rfl, by omega, by omega, loopR (lo := 0) (n := s) (fun j H2 => ∃ (G2 : Hp) (ws : List V), Same G1 G2 ∧ Sep G2 ((E, .lst ws) :: M) H2 ∧ Paired (RowV G2) ws (((rowsN s i).take k).flatMap (more s) ++ more j n))
          ⟨G', ws, s', S', by rw [show more 0 n = [] from rfl, List.append_nil]; exact hw⟩ (fun j H2 hj p => ?_) (fun H2 p => ?_)⟩
        · obtain ⟨G2, ws, s2, S2, hw⟩ := p
          rw [Int.zero_add]
          have wl := prd_len hw
          have pl := part_len (s := s) (l := i) (k := k) (j := j) (n := n) hs (by omega) (by omega)
          refine ⟨rfl, r, _, rfl, .inr ((hr0.same s2).same S2.1).tu.sq, rfl, ints_flat _, tst (fun e => ?_) (fun e => ?_)⟩
          · have e1 : ((j : Nat) : Int) ∉ n := by
              have z : (!inV (.int (j : Nat)) (n.map V.int)) = true := e
              rw [inV_int] at z
              simpa using z
            refine cat_one S2 (hr0.same s2) (by omega) fun p G3 H3 s3 S3 hp => ⟨ws, S3.hd, smallL (by omega), G3, ws ++ [.ref p], s2.trans s3, S3.set, ?_⟩
            rw [more_succ, if_neg e1, ← List.append_assoc]
            exact (rowsV_same s3 hw).snoc ⟨p, rfl, hp, more_row hs hn hj e1⟩
          · have e1 : ((j : Nat) : Int) ∈ n := by
              have z : (!inV (.int (j : Nat)) (n.map V.int)) = false := e
              rw [inV_int] at z
              simpa using z
            exact ⟨G2, ws, s2, S2, by rw [more_succ, if_pos e1, List.append_nil]; exact hw⟩
        · obtain ⟨G2, ws, s2, S2, hw⟩ := p
          exact ⟨G2, ws, s2, S2, by rw [XL.take_snoc hn, List.flatMap_append, List.flatMap_singleton]; exact hw⟩
      · obtain ⟨G', ws, s', S', hw⟩ := p
        rw [prd_len hu, List.take_length] at hw
        exact ⟨_, E, ws, _, rfl, s1.trans (s'.trans S'.frzS), S'.frz, upd_same, rowsV_same S'.frzS hw⟩
    · obtain ⟨y3, D, us, G1, rfl, s1, S1, hD, hu⟩ := h
      exact q D us G1 H' s1 S1 hD hu

end
end K28
set_option Elab.async false
set_option linter.all false
set_option maxRecDepth 100000
set_option maxHeartbeats 4000000
namespace K28
open PySem PySem.Spec PyProof.Rows L2 XL
section
variable {P : Program} {w : World} {K : PySem.W.Frag} {mg : Str → Option Value} {base : Heap}
/-! ### least_pair -/
def EntF (f : Fm) (G : Hp) (v : V) (x : Addr × List Int) : Prop := Ent f G v x ∧ TupF G x.1 (x.2.map V.int)
theorem EntF.same {f : Fm} {G G' : Hp} (e : Same G G') {v : V} {x : Addr × List Int} (h : EntF f G v x) : EntF f G' v x := ⟨h.1.same e, h.2.same e⟩
def Lst (f : Fm) (s : Nat) (G : Hp) (v : V) (l : Nat) : Prop := ∃ (D : Addr) (us : List V) (xs : List (Addr × List Int)), v = .ref D ∧ G D = some (.lst us) ∧ Paired (EntF f G) us xs ∧ xs.map Prod.snd = rowsN s l
theorem Lst.same {f : Fm} {s : Nat} {G G' : Hp} (e : Same G G') {v : V} {l : Nat} (h : Lst f s G v l) : Lst f s G' v l := by
  obtain ⟨D, us, xs, h1, h2, h3, h4⟩ := h
  exact ⟨D, us, xs, h1, e _ _ h2, prd_imp (fun _ _ => EntF.same e) h3, h4⟩
theorem snd_at {xs : List (Addr × List Int)} {rs : List (List Int)} (e : xs.map Prod.snd = rs) {i : Nat} {x : Addr × List Int} (h : xs[i]? = some x) : rs[i]? = some x.2 := by
  rw [← e, List.getElem?_map, h]
  rfl
theorem at_snd {xs : List (Addr × List Int)} {rs : List (List Int)} (e : xs.map Prod.snd = rs) {i : Nat} {n : List Int} (h : rs[i]? = some n) : ∃ x, xs[i]? = some x ∧ x.2 = n := by
  rw [← e, List.getElem?_map] at h
  exact Option.map_eq_some_iff.mp h
theorem mem_snd {xs : List (Addr × List Int)} {rs : List (List Int)} (e : xs.map Prod.snd = rs) {n : List Int} (h : n ∈ rs) : ∃ (i : Nat) (x : Addr × List Int), xs[i]? = some x ∧ x.2 = n := by
  obtain ⟨i, hi⟩ := List.getElem?_of_mem h
  obtain ⟨x, h1, h2⟩ := at_snd e hi
  exact ⟨i, x, h1, h2⟩
theorem fine_snd {f : Fm} {xs ys : List (Addr × List Int)} {rs qs : List (List Int)} (e1 : xs.map Prod.snd = rs) (e2 : ys.map Prod.snd = qs) {i j : Nat} (h : FineTo f xs ys i j) : FineL f rs qs i j := fun a b x y hab hx hy => by
  obtain ⟨x', h1, rfl⟩ := at_snd e1 hx
  obtain ⟨y', h2, rfl⟩ := at_snd e2 hy
  exact h a b x' y' hab h1 h2
theorem prd_of {α β : Type} {R : α → β → Prop} {as : List α} {bs : List β} (h : Paired R as bs) {i : Nat} {b : β} (hb : bs[i]? = some b) : ∃ a, as[i]? = some a ∧ R a b := by
  have hi := (List.getElem?_eq_some_iff.mp hb).1
  have hl := prd_len h
  have ha := List.getElem?_eq_getElem (show i < as.length by omega)
  obtain ⟨b', h1, h2⟩ := prd_get h ha
  rw [hb] at h1
  exact ⟨_, ha, Option.some.inj h1 ▸ h2⟩
theorem NoneTo.next {f : Fm} {s p t l : Nat} (h : NoneTo f s p t l) (h2 : l ≤ p → l ≤ t → t - l ≤ p → ∀ a ∈ rowsN s l, ∀ b ∈ rowsN s (t - l), Alike f a b) : NoneTo f s p t (l + 1) := fun t' l' hlt c1 c2 c3 => by
  by_cases z : t' < t ∨ t' = t ∧ l' < l
  · exact h t' l' z c1 c2 c3
  · obtain ⟨rfl, rfl⟩ : t' = t ∧ l' = l := by omega
    exact h2 c1 c2 c3
theorem NoneTo.line {f : Fm} {s p t : Nat} (h : NoneTo f s p t (p + 1)) : NoneTo f s p (t + 1) 0 := fun t' l' hlt c1 c2 c3 => h t' l' (by omega) c1 c2 c3
def spLeastPair (C : Addr) : Sp := fun vs H Q _ => ∃ (f : Fm) (G : Hp) (M : List (Addr × HO)) (v : V) (s p : Nat), vs = [v, .int (s : Nat), .int (p : Nat)] ∧ Sep G M H ∧ KeyAt C G v f ∧ s ≤ 5 ∧ p ≤ 5 ∧
  (∀ (G' H' : Hp), AllAl f s p → Same G G' → Sep G' M H' → Q .non H') ∧
  (∀ (t l i j : Nat) (a b : List Int) (E x y : Addr) (G' H' : Hp), First f s p t l i j a b → Same G G' → Sep G' M H' → G' E = some (.tup [.ref x, .ref y]) → RowV G' (.ref x) a → RowV G' (.ref y) b → Q (.ref E) H')
theorem ok_least_pair (T : Top K mg w) (G_Key_idents : FnOk P w K mg base CX0 8 T.a_Key_idents T.d_Key_idents ["self", "row"] (spKIdents T.C_Key))
    (G_first_going_wrong : FnOk P w K mg base CX0 8 T.a_first_going_wrong T.d_first_going_wrong ["olds", "news"] (spFirst K)) (G_rows_of : FnOk P w K mg base CX0 8 T.a_rows_of T.d_rows_of ["size", "length"] spRowsOf) :
    FnOk P w K mg base CX0 9 T.a_least_pair T.d_least_pair ["key", "size", "places"] (spLeastPair T.C_Key) := by
  refine T.F_least_pair.ok sc_least_pair (fun vs H Q E h => ?_) (fun cdv A outer s0 H vs Q E hr h => ?_)
  · obtain ⟨f, G, M, v, s, p, rfl, _⟩ := h
    rfl
  · obtain ⟨f, G, M, v, s, p, rfl, S, hk, hs, hp, q0, q1⟩ := h
    refine ⟨_, (pss_cons (ps_set (i := 3) sc_least_pair.nd rfl (.inl rfl) (pe_lst pa_nil))
      (pss_cons (ps_for PassesOwn.never rfl (pi_range1 (by rfl) T.m_range (pa_cons (pe_op op_addY (xv 2) pe_int) pa_nil)) (pg_name (i := 4) sc_least_pair.nd rfl (.inl rfl))
      (pss_one (ps_expr (pe_bmK K PySem.F.plainAttrs_list PySem.F.slot_list_append PySem.F.type_list_append mt_append (xv 3) (pa_cons (pe_lc (own := [("row", 7)]) (by rfl) sc_least_pair.nd (pi_listK K (pe_call G_rows_of (hr.mono (by omega)) (by rfl) T.g_rows_of T.F_rows_of.kp T.b_rows_of .nil pass0 (pa_cons (xv 1) (pa_cons (xv 4) pa_nil)))) (blkOk_by (N := ["key", "size", "places", "listed", "length", "total", "pair", "row"]) (sc := defScope s_least_pair) (by decide +kernel)) (fun _ _ _ _ _ => (pg_name (i := 7) sc_least_pair.nd rfl (.inl rfl))) (fun _ _ _ _ _ => pts_nil) (fun _ _ _ _ _ => (pe_tup (pa_cons (xv 7) (pa_cons (pe_meth (xv 0) T.cl_Key T.me_Key_idents G_Key_idents (hr.mono (by omega)) T.b_Key_idents .nil pass0 (pa_cons (xv 7) pa_nil)) pa_nil))))) pa_nil)))))
      (pss_cons (ps_for PassesOwn.never rfl (pi_range1 (by rfl) T.m_range (pa_cons (pe_op op_addY (pe_op op_mulY pe_int (xv 2)) pe_int) pa_nil)) (pg_name (i := 5) sc_least_pair.nd rfl (.inl rfl))
      (pss_one (ps_for PassesOwn.never rfl (pi_range1 (by rfl) T.m_range (pa_cons (pe_op op_addY (xv 2) pe_int) pa_nil)) (pg_name (i := 4) sc_least_pair.nd rfl (.inl rfl))
      (pss_one (xs_if (xt_chain op_leY op_leY pe_int (pe_op op_subY (xv 5) (xv 4)) (xv 2))
      (pss_cons (ps_set (i := 6) sc_least_pair.nd rfl (.inl rfl) (pe_call G_first_going_wrong (hr.mono (by omega)) (by rfl) T.g_first_going_wrong T.F_first_going_wrong.kp T.b_first_going_wrong .nil pass0 (pa_cons (pe_ix (ix_k K) (xv 3) (xv 4) (fun _ _ => rfl)) (pa_cons (pe_ix (ix_k K) (xv 3) (pe_op op_subY (xv 5) (xv 4)) (fun _ _ => rfl)) pa_nil))))
      (pss_one (xs_if (xt_cmp op_notN (xv 6) pe_non (nomark _))
      (pss_one (ps_ret (xv 6)))
      pss_nil)))
      pss_nil)))))
      (pss_one (ps_ret pe_non))))), ?_⟩
    refine ⟨sz, fun L nL => ?_⟩
    have S0 := S.new (o := .lst []) nL
    refine ⟨_, rfl, by omega, by omega, for_range (lo := 0) (n := p + 1) (fun i σ H' => ∃ (y4 : Option V) (ls : List V) (G' : Hp), σ = [some v, some (.int (s : Nat)), some (.int (p : Nat)), some (.ref L), y4, none, none, none] ∧ Same G G' ∧ Sep G' ((L, .lst ls) :: M) H' ∧ Paired (Lst f s G') ls (List.range i))
      ⟨_, [], G, rfl, Same.refl _, S0, .nil⟩ (fun i σ H' hi h => ?_) (fun σ H' h => ?_)⟩
    · obtain ⟨y4, ls, G1, rfl, s1, S1, hls⟩ := h
      rw [Int.zero_add]
      have ll := prd_len hls
      rw [List.length_range] at ll
      refine ⟨.inl ⟨rfl, _, SqL.of S1.hd⟩, G1, _, s, i, rfl, S1, hs, by omega, fun D us G2 H2 s2 S2 hD hu => ?_⟩
      have ul := prd_len hu
      have pl := pow_le (l := i) hs (by omega)
      refine ⟨D, rfl, ⟨us, SqL.of (S2.st hD)⟩, fun E nE => lc_list (xs := us) (fun k H' => ∃ (G' : Hp) (ws : List V) (xs : List (Addr × List Int)), Same G2 G' ∧ Sep G' ((E, .lst ws) :: (L, .lst ls) :: M) H' ∧ Paired (EntF f G') ws xs ∧ xs.map Prod.snd = (rowsN s i).take k)
        ⟨G2, [], [], Same.refl _, S2.new nE, .nil, rfl⟩ (fun k H' _ p' => ?_) (fun k y H' hy p' => ?_) (fun H' p' => ?_)⟩
      · obtain ⟨G', ws, xs, s', S', _⟩ := p'
        exact SqL.of (S'.st (s' _ _ hD))
      · obtain ⟨G', ws, xs, s', S', hw, ex⟩ := p'
        obtain ⟨n, hn, r, rfl, hrow, hok⟩ := prd_get hu hy
        have s02 := s1.trans (s2.trans s')
        obtain ⟨kx, dx, u, rfl, hkx, hu0⟩ := hk.same s02
        have kk := hk.same s02
        have wl := prd_len hw
        have xl : xs.length ≤ k := by rw [← List.length_map (f := Prod.snd), ex, List.length_take]; omega
        have kl := (List.getElem?_eq_some_iff.mp hy).1
        refine ⟨rfl, kx, dx, _, rfl, S'.st hkx, rfl, G', _, _, f, r, n, rfl, S', kk, (hrow.same s').tu, hok, fun pp ws2 G3 H3 s3 S3 hp2 pr => ⟨sz, fun t nt => ?_⟩⟩
        have S4 := S3.newG (o := .tup [.ref r, .ref pp]) nt
        have s4 := S3.grow (o := .tup [.ref r, .ref pp]) nt
        have s34 := s3.trans s4
        have hrow4 := hrow.same (s'.trans s34)
        refine ⟨ws, S4.hd, smallL (by omega), _, ws ++ [.ref t], xs ++ [(r, n)], s'.trans s34, S4.set, (prd_imp (fun _ _ => EntF.same s34) hw).snoc ⟨⟨t, pp, rfl, upd_same, hrow4.tu, hok, ws2, hp2.same s4, prd_imp (fun _ _ => Pr.same s4) pr⟩, hrow4⟩, ?_⟩
        rw [XL.take_snoc hn, List.map_append, ex]
        rfl
      · obtain ⟨G', ws, xs, s', S', hw, ex⟩ := p'
        rw [ul, List.take_length] at ex
        have S3 := S'.frz
        have s3 := S'.frzS
        refine ⟨L, ls, _, rfl, rfl, S3.hd, smallL (by omega), _, ls ++ [.ref E], _, rfl, s1.trans (s2.trans (s'.trans s3)), S3.set, ?_⟩
        rw [List.range_succ]
        exact (prd_imp (fun _ _ => Lst.same (s2.trans (s'.trans s3))) hls).snoc ⟨E, ws, xs, rfl, upd_same, prd_imp (fun _ _ => EntF.same s3) hw, ex⟩
    · obtain ⟨y4, ls, G1, rfl, s1, S1, hls⟩ := h
      refine ⟨.inl ⟨by decide, by decide⟩, _, rfl, by omega, by omega, for_range (lo := 0) (n := 2 * p + 1) (fun t σ H2 => ∃ (y4 y5 y6 : Option V) (G2 : Hp), σ = [some v, some (.int (s : Nat)), some (.int (p : Nat)), some (.ref L), y4, y5, y6, none] ∧ Same G1 G2 ∧ Sep G2 ((L, .lst ls) :: M) H2 ∧ NoneTo f s p t 0)
        ⟨_, _, _, G1, rfl, Same.refl _, S1, fun t' l' h => absurd h (by omega)⟩ (fun t σ H2 ht h => ?_) (fun σ H2 h => ?_)⟩
      · obtain ⟨y4, y5, y6, G2, rfl, s2, S2, no⟩ := h
        rw [Int.zero_add]
        refine ⟨_, rfl, by omega, by omega, for_range (lo := 0) (n := p + 1) (fun l σ H3 => ∃ (y4 y6 : Option V) (G3 : Hp), σ = [some v, some (.int (s : Nat)), some (.int (p : Nat)), some (.ref L), y4, some (.int (t : Nat)), y6, none] ∧ Same G1 G3 ∧ Sep G3 ((L, .lst ls) :: M) H3 ∧ NoneTo f s p t l)
          ⟨_, _, G2, rfl, s2, S2, no⟩ (fun l σ H3 hl h => ?_) (fun σ H3 h => ?_)⟩
        · obtain ⟨y4, y6, G3, rfl, s3, S3, no⟩ := h
          rw [Int.zero_add]
          have skip : (¬ (l ≤ t ∧ t - l ≤ p)) → NoneTo f s p t (l + 1) := fun z => no.next fun _ c2 c3 => absurd ⟨c2, c3⟩ z
          refine ⟨fun e1 => ⟨fun e2 => ?_, fun e2 => ?_⟩, fun e1 => ?_⟩
          · have c2 : l ≤ t := by have := of_decide_eq_true e1; omega
            have c3 : t - l ≤ p := by have := of_decide_eq_true e2; omega
            have et : ((t : Nat) : Int) - (l : Nat) = ((t - l : Nat) : Int) := by omega
            obtain ⟨v1, hv1, L1⟩ := prd_of hls (i := l) (List.getElem?_range hl)
            obtain ⟨v2, hv2, L2⟩ := prd_of hls (i := t - l) (List.getElem?_range (by omega))
            obtain ⟨D1, us1, xs1, rfl, h1, p1, e1'⟩ := L1.same s3
            obtain ⟨D2, us2, xs2, rfl, h2, p2, e2'⟩ := L2.same s3
            refine ⟨_, _, .inl (SqL.of S3.hd), atI_nat hv1, _, _, .inl (SqL.of S3.hd), (by rw [et]; exact atI_nat hv2), f, G3, _, D1, D2, us1, us2, xs1, xs2, rfl, S3, h1, h2, prd_imp (fun _ _ h => h.1) p1, prd_imp (fun _ _ h => h.1) p2, fun al => ⟨rfl, ff, fun _ => ?_⟩, fun i j x y E hx hy fine na nE => ⟨rfl, fun _ => ?_, tt⟩⟩
            · refine ⟨_, _, G3, rfl, s3, S3, no.next fun _ _ _ a ha b hb => ?_⟩
              obtain ⟨i, x, hx, rfl⟩ := mem_snd e1' ha
              obtain ⟨j, y, hy, rfl⟩ := mem_snd e2' hb
              exact al i j x y hx hy
            · obtain ⟨_, _, ex⟩ := prd_of p1 hx
              obtain ⟨_, _, ey⟩ := prd_of p2 hy
              obtain ⟨_, _, _, _, rx⟩ := ex.1
              obtain ⟨_, _, _, _, ry⟩ := ey.1
              have s4 := S3.grow (o := .tup [.ref x.1, .ref y.1]) nE
              exact q1 t l i j x.2 y.2 E x.1 y.1 _ _ ⟨by omega, c2, c3, no, snd_at e1' hx, snd_at e2' hy, fine_snd e1' e2' fine, na⟩ (s1.trans (s3.trans s4)) (S3.newG nE).drop upd_same ⟨x.1, rfl, ex.2.same s4, rx.ok⟩ ⟨y.1, rfl, ey.2.same s4, ry.ok⟩
          · exact ⟨_, _, G3, rfl, s3, S3, skip fun z => by have := of_decide_eq_false e2; omega⟩
          · exact ⟨ff, fun _ => ⟨_, _, G3, rfl, s3, S3, skip fun z => by have := of_decide_eq_false e1; omega⟩⟩
        · obtain ⟨y4, y6, G3, rfl, s3, S3, no⟩ := h
          exact ⟨_, _, _, G3, rfl, s3, S3, no.line⟩
      · obtain ⟨y4, y5, y6, G2, rfl, s2, S2, no⟩ := h
        exact q0 G2 H2 (noneTo_all no) (s1.trans s2) S2.drop

end
end K28
set_option Elab.async false
set_option linter.all false
set_option maxRecDepth 100000
set_option maxHeartbeats 4000000
namespace K28
open PySem PySem.Spec PyProof.Rows L2 XL
section
variable {P : Program} {w : World} {K : PySem.W.Frag} {mg : Str → Option Value} {base : Heap}
/-! ### the law's rows -/
def LstV (s : Nat) (G : Hp) (v : V) (l : Nat) : Prop := ∃ (D : Addr) (us : List V), v = .ref D ∧ G D = some (.lst us) ∧ Paired (RowV G) us (rowsN s l)
theorem LstV.same {s : Nat} {G G' : Hp} (e : Same G G') {v : V} {l : Nat} (h : LstV s G v l) : LstV s G' v l := by
  obtain ⟨D, us, h1, h2, h3⟩ := h
  exact ⟨D, us, h1, e _ _ h2, rowsV_same e h3⟩
def spAllRows : Sp := fun vs H Q _ => ∃ (G : Hp) (M : List (Addr × HO)) (s p : Nat), vs = [.int (s : Nat), .int (p : Nat)] ∧ Sep G M H ∧ s ≤ 5 ∧ p ≤ 5 ∧
  ∀ (D : Addr) (ls : List V) (G' H' : Hp), Same G G' → Sep G' M H' → G' D = some (.lst ls) → Paired (LstV s G') ls (List.range (p + 1)) → Q (.ref D) H'
theorem ok_all_rows (T : Top K mg w) {k : Nat} : FnOk P w K mg base CX0 (k + 1) T.a_all_rows T.d_all_rows ["_law_size", "_law_places"] spAllRows := by
  refine T.F_all_rows.ok sc_all_rows (fun vs H Q E h => ?_) (fun cdv A outer s0 H vs Q E hr h => ?_)
  · obtain ⟨G, M, s, p, rfl, _⟩ := h
    rfl
  · obtain ⟨G, M, s, p, rfl, S, hs, hp, q⟩ := h
    refine ⟨_, (pss_cons (ps_set (i := 2) sc_all_rows.nd rfl (.inl rfl) (pe_lst (pa_cons (pe_lst (pa_cons (pe_tupF pa_nil) pa_nil)) pa_nil)))
      (pss_cons (ps_for PassesOwn.never rfl (pi_range1 (by rfl) T.m_range (pa_cons (xv 1) pa_nil)) (pg_name (i := 3) sc_all_rows.nd rfl (.inl rfl))
      (pss_cons (ps_set (i := 4) sc_all_rows.nd rfl (.inl rfl) (pe_lst pa_nil))
      (pss_cons (ps_for PassesOwn.never rfl (pi_listK K (pe_ix (ix_k K) (xv 2) (xv 3) (fun _ _ => rfl))) (pg_name (i := 5) sc_all_rows.nd rfl (.inr rfl))
      (pss_one (ps_expr (pe_bmK K PySem.F.plainAttrs_list PySem.F.slot_list_extend PySem.F.type_list_extend mt_extend (xv 4) (pa_cons (pe_lc (own := [("_law_item", 6)]) (by rfl) sc_all_rows.nd (pi_range1 (by rfl) T.m_range (pa_cons (xv 0) pa_nil)) (blkOk_by (N := ["_law_size", "_law_places", "_law_lists", "_law_length", "_law_longer", "_law_row", "_law_item"]) (sc := defScope s_all_rows) (by decide +kernel)) (fun _ _ _ _ _ => (pg_name (i := 6) sc_all_rows.nd rfl (.inl rfl))) (fun _ _ _ _ _ => (pts_one (xt_cmp (notin_seqK K) (xv 6) (xv 5) (by rfl)))) (fun _ _ _ _ _ => (pe_op (op_catFK K) (xv 5) (pe_tupF (pa_cons (xv 6) pa_nil))))) pa_nil)))))
      (pss_one (ps_expr (pe_bmK K PySem.F.plainAttrs_list PySem.F.slot_list_append PySem.F.type_list_append mt_append (xv 2) (pa_cons (xv 4) pa_nil)))))))
      (pss_one (ps_ret (xv 2))))), ?_⟩
    refine ⟨sz, fun e ob ne hob => ⟨sz, fun D nD => ⟨sz, fun L nL => ?_⟩⟩⟩
    have S1 := S.newG (o := .frz ob (.tup [])) ne
    have s1 := S.grow (o := .frz ob (.tup [])) ne
    have S2 := S1.newG (o := .lst [.ref e]) nD
    have s2 := S1.grow (o := .lst [.ref e]) nD
    have S3 := S2.new (o := .lst [.ref D]) nL
    refine ⟨_, rfl, by omega, by omega, for_range (lo := 0) (n := p) (fun i σ H' => ∃ (y3 y4 y5 : Option V) (ls : List V) (G' : Hp), σ = [some (.int (s : Nat)), some (.int (p : Nat)), some (.ref L), y3, y4, y5, none] ∧ Same G G' ∧ Sep G' ((L, .lst ls) :: M) H' ∧ Paired (LstV s G') ls (List.range (i + 1)))
      ⟨_, _, _, [.ref D], _, rfl, s1.trans s2, S3, .cons ⟨D, [.ref e], rfl, upd_same, .cons ⟨e, rfl, TupF.same s2 ⟨ob, hob, upd_same⟩, ⟨by decide, List.nodup_nil, fun n h => absurd h (by simp)⟩⟩ .nil⟩ .nil⟩ (fun i σ H' hi h => ?_) (fun σ H' h => ?_)⟩
    · obtain ⟨y3, y4, y5, ls, G1, rfl, s1, S1, hls⟩ := h
      rw [Int.zero_add]
      have ll := prd_len hls
      rw [List.length_range] at ll
      refine ⟨sz, fun E nE => ?_⟩
      have S2 := S1.new (o := .lst []) nE
      obtain ⟨v1, hv1, L1⟩ := prd_of hls (i := i) (List.getElem?_range (by omega))
      obtain ⟨D1, us, rfl, hD, hu⟩ := L1
      have ul := prd_len hu
      refine ⟨_, _, .inl (SqL.of S2.sw.hd), atI_nat hv1, D1, rfl, ⟨us, SqL.of (S2.st hD)⟩, for_list (xs := us) (fun k σ H2 => ∃ (y5 : Option V) (G2 : Hp) (ws : List V), σ = [some (.int (s : Nat)), some (.int (p : Nat)), some (.ref L), some (.int (i : Nat)), some (.ref E), y5, none] ∧ Same G1 G2 ∧ Sep G2 ((E, .lst ws) :: (L, .lst ls) :: M) H2 ∧ Paired (RowV G2) ws (((rowsN s i).take k).flatMap (more s)))
        ⟨_, G1, [], rfl, Same.refl _, S2, .nil⟩ (fun k σ H2 _ h => ?_) (fun k x σ H2 hx h => ?_) (fun σ H2 h => ?_)⟩
      · obtain ⟨_, G2, ws, _, s2, S2, _⟩ := h
        exact SqL.of (S2.st (s2 _ _ hD))
      · obtain ⟨y5, G2, ws, rfl, s2, S2, hw⟩ := h
        obtain ⟨n, hn, r, rfl, hr0, ro⟩ := prd_get hu hx
        have l5 : n.length ≤ 5 := ro.len
        have wl := prd_len hw
        have pl0 := part_len (s := s) (l := i) (k := k) (j := 0) (n := n) hs (by omega) (by omega)
        rw [show more 0 n = [] from rfl, List.append_nil] at pl0
        refine ⟨.inl ⟨rfl, _, SqL.of S2.hd⟩, _, rfl, by omega, by omega, fun F nF => lc_range (lo := 0) (n := s) (fun j H3 => ∃ (G3 : Hp) (zs : List V), Same G1 G3 ∧ Sep G3 ((F, .lst zs) :: (E, .lst ws) :: (L, .lst ls) :: M) H3 ∧ Paired (RowV G3) ws (((rowsN s i).take k).flatMap (more s)) ∧ Paired (RowV G3) zs (more j n))
          ⟨G2, [], s2, S2.new nF, hw, .nil⟩ (fun j H3 hj p' => ?_) (fun H3 p' => ?_)⟩
        · obtain ⟨G3, zs, s3, S3, hw3, hz⟩ := p'
          rw [Int.zero_add]
          have zl := prd_len hz
          have ml := more_len j n
          refine ⟨rfl, r, _, rfl, .inr ((hr0.same s3).same S3.1).tu.sq, rfl, ints_flat _, tst (fun e => ?_) (fun e => ?_)⟩
          · have e1 : ((j : Nat) : Int) ∉ n := by
              have z : (!inV (.int (j : Nat)) (n.map V.int)) = true := e
              rw [inV_int] at z
              simpa using z
            refine cat_one S3 (hr0.same s3) (by omega) fun p G4 H4 s4 S4 hp => ⟨zs, S4.hd, smallL (by omega), G4, zs ++ [.ref p], s3.trans s4, S4.set, rowsV_same s4 hw3, ?_⟩
            rw [more_succ, if_neg e1]
            exact (rowsV_same s4 hz).snoc ⟨p, rfl, hp, more_row hs hn hj e1⟩
          · have e1 : ((j : Nat) : Int) ∈ n := by
              have z : (!inV (.int (j : Nat)) (n.map V.int)) = false := e
              rw [inV_int] at z
              simpa using z
            exact ⟨G3, zs, s3, S3, hw3, by rw [more_succ, if_pos e1, List.append_nil]; exact hz⟩
        · obtain ⟨G3, zs, s3, S3, hw3, hz⟩ := p'
          have zl := prd_len hz
          have ml := more_len s n
          refine ⟨E, F, ws, zs, rfl, rfl, S3.sw.hd, S3.hd, small (by omega), ?_⟩
          refine ⟨_, G3, ws ++ zs, rfl, s3, S3.drop.set, ?_⟩
          rw [XL.take_snoc hn, List.flatMap_append, List.flatMap_singleton]
          exact prd_app hw3 hz
      · obtain ⟨y5, G2, ws, rfl, s2, S2, hw⟩ := h
        rw [ul, List.take_length] at hw
        have S3 := S2.frz
        have s3 := S2.frzS
        refine ⟨.inl ⟨rfl, _, SqL.of S3.hd⟩, L, ls, _, rfl, rfl, S3.hd, smallL (by omega), _, _, _, ls ++ [.ref E], _, rfl, s1.trans (s2.trans s3), S3.set, ?_⟩
        rw [List.range_succ]
        exact (prd_imp (fun _ _ => LstV.same (s2.trans s3)) hls).snoc ⟨E, ws, rfl, upd_same, rowsV_same s3 hw⟩
    · obtain ⟨y3, y4, y5, ls, G1, rfl, s1, S1, hls⟩ := h
      exact q L ls _ _ (s1.trans S1.frzS) S1.frz upd_same (prd_imp (fun _ _ => LstV.same S1.frzS) hls)
/-! ### the law's first wrong pair -/
structure RowIdL (f : Fm) (n : List Int) (G : Hp) (r rb : Addr) : Prop where
  row : Tu G r (n.map V.int)
  len : n.length ≤ 5
  id : ∃ ws, G rb = some (.lst ws) ∧ Paired (Pr G) ws (ids f n)
theorem RowIdL.same {f : Fm} {n : List Int} {G G' : Hp} {r rb : Addr} (e : Same G G') (h : RowIdL f n G r rb) : RowIdL f n G' r rb := by
  obtain ⟨ws, h1, h2⟩ := h.id
  exact ⟨h.row.same e, h.len, ws, e _ _ h1, prd_imp (fun _ _ => Pr.same e) h2⟩
def spUnlikeR : Sp := fun vs H Q _ => ∃ (f : Fm) (r1 b1 r2 b2 : Addr) (n1 n2 : List Int), vs = [.ref r1, .ref b1, .ref r2, .ref b2] ∧ RowIdL f n1 H r1 b1 ∧ RowIdL f n2 H r2 b2 ∧ ∀ c : Bool, (c = false ↔ Alike f n1 n2) → Q (.bl c) H
theorem ok_unlike_rows (T : Top K mg w) {k : Nat} : FnOk P w K mg base CX0 (k + 1) T.a_unlike_rows T.d_unlike_rows ["_law_old", "_law_before", "_law_new", "_law_behind"] spUnlikeR := by
  refine T.F_unlike_rows.ok sc_unlike_rows (fun vs H Q E h => ?_) (fun cdv A outer s0 H vs Q E hr h => ?_)
  · obtain ⟨f, r1, b1, r2, b2, n1, n2, rfl, _⟩ := h
    rfl
  · obtain ⟨f, r1, p1, r2, p2, n1, n2, rfl, R1, R2, q⟩ := h
    refine ⟨_, (pss_cons (ps_for PassesOwn.never rfl (pi_range1 (by rfl) T.m_range (pa_cons (pe_callB (cr_lenK K) (by rfl) T.m_len (by decide +kernel) (pa_cons (xv 0) pa_nil)) pa_nil)) (pg_name (i := 4) sc_unlike_rows.nd rfl (.inl rfl))
      (pss_one (ps_for PassesOwn.never rfl (pi_range1 (by rfl) T.m_range (pa_cons (pe_callB (cr_lenK K) (by rfl) T.m_len (by decide +kernel) (pa_cons (xv 2) pa_nil)) pa_nil)) (pg_name (i := 5) sc_unlike_rows.nd rfl (.inl rfl))
      (pss_one (xs_if (xt_cmp (op_neK K hr.units) (pe_cmpR (op_eqK K hr.units) (pe_ix (ix_k K) (xv 1) (xv 4) (fun _ _ => rfl)) (pe_ix (ix_k K) (xv 3) (xv 5) (fun _ _ => rfl)) (nomark _)) (pe_cmpR (op_eqK K hr.units) (pe_ix (ix_k K) (xv 0) (xv 4) (fun _ _ => rfl)) (pe_ix (ix_k K) (xv 2) (xv 5) (fun _ _ => rfl)) (nomark _)) (nomark _))
      (pss_one (ps_ret pe_bl))
      pss_nil)))))
      (pss_one (ps_ret pe_bl))), ?_⟩
    obtain ⟨ws1, hp1, P1⟩ := R1.id
    obtain ⟨ws2, hp2, P2⟩ := R2.id
    have l1 := R1.len
    have l2 := R2.len
    have w1 := prd_len P1
    have w2 := prd_len P2
    rw [ids_len] at w1 w2
    have t1 : SqT K H r1 (n1.map V.int) := R1.row.sq
    have t2 : SqT K H r2 (n2.map V.int) := R2.row.sq
    have L1 : SqL K H p1 ws1 := SqL.of hp1
    have L2' : SqL K H p2 ws2 := SqL.of hp2
    refine ⟨_, .inr t1, _, rfl, by simp, by simp; omega, ?_⟩
    rw [show (((n1.map V.int).length : Nat) : Int).toNat = n1.length by simp]
    refine for_range (lo := 0) (n := n1.length) (fun i σ H' => ∃ (y5 y6 : Option V), σ = [some (.ref r1), some (.ref p1), some (.ref r2), some (.ref p2), y5, y6] ∧ H' = H ∧ ∀ a, a < i → ∀ b, b < n2.length → ((ids f n1)[a]? = (ids f n2)[b]? ↔ n1[a]? = n2[b]?))
      ⟨_, _, rfl, rfl, fun a ha => absurd ha (Nat.not_lt_zero a)⟩ (fun i σ H' hi h => ?_) (fun σ H' h => ?_)
    · obtain ⟨y5, y6, rfl, rfl, fine⟩ := h
      rw [Int.zero_add]
      refine ⟨_, .inr t2, _, rfl, by simp, by simp; omega, ?_⟩
      rw [show (((n2.map V.int).length : Nat) : Int).toNat = n2.length by simp]
      refine for_range (lo := 0) (n := n2.length) (fun j σ H3 => ∃ (y6 : Option V), σ = [some (.ref r1), some (.ref p1), some (.ref r2), some (.ref p2), some (.int (i : Nat)), y6] ∧ H3 = H' ∧ ∀ b, b < j → ((ids f n1)[i]? = (ids f n2)[b]? ↔ n1[i]? = n2[b]?))
        ⟨_, rfl, rfl, fun a ha => absurd ha (Nat.not_lt_zero a)⟩ (fun j σ H3 hj h => ?_) (fun σ H3 h => ?_)
      · obtain ⟨y6, rfl, rfl, fine2⟩ := h
        rw [Int.zero_add]
        have hwi := List.getElem?_eq_getElem (show i < ws1.length by omega)
        have hwj := List.getElem?_eq_getElem (show j < ws2.length by omega)
        obtain ⟨a, ha, pa⟩ := prd_get P1 hwi
        obtain ⟨c, hc, pc⟩ := prd_get P2 hwj
        have ia := pa
        have ic := pc
        obtain ⟨ra, ea, _⟩ := pa
        obtain ⟨rc, ec, _⟩ := pc
        rw [ea] at hwi ia
        rw [ec] at hwj ic
        refine ⟨_, _, .inl L1, atI_nat hwi, _, _, .inl L2', atI_nat hwj, prd a, prd c, ia.dp, ic.dp, prd_shaped a, prd_shaped c, _, _, .inr t1, at_int hi, _, _, .inr t2, at_int hj, fun e => ?_, fun e => ?_⟩
        · refine q true ⟨fun e => (nomatch e), fun al => ?_⟩
          have z := al j hj i hi
          rw [ha, hc, getD_some hi, getD_some hj, Option.some_inj, Option.some_inj] at z
          rw [prd_eqv, decide_eq_true (decide_eq_decide.mpr z)] at e
          cases e
        · have z : (a = c ↔ n1.getD i 0 = n2.getD j 0) := by
            rw [prd_eqv] at e
            have e2 : decide (decide (a = c) = decide (n1.getD i 0 = n2.getD j 0)) = true := by simpa using e
            exact decide_eq_decide.mp (of_decide_eq_true e2)
          refine ⟨_, rfl, rfl, fun b hb => ?_⟩
          rcases Nat.lt_succ_iff_lt_or_eq.mp hb with h | h
          · exact fine2 b h
          · subst h
            rw [ha, hc, getD_some hi, getD_some hj, Option.some_inj, Option.some_inj]
            exact z
      · obtain ⟨y6, rfl, rfl, fine2⟩ := h
        refine ⟨_, _, rfl, rfl, fun a ha b hb => ?_⟩
        rcases Nat.lt_succ_iff_lt_or_eq.mp ha with h | h
        · exact fine a h b hb
        · subst h
          exact fine2 b hb
    · obtain ⟨y5, y6, rfl, rfl, fine⟩ := h
      exact q false ⟨fun _ j hj i hi => fine i hi j hj, fun _ => rfl⟩
def Mark (f : Fm) (G : Hp) (v : V) (n : List Int) : Prop := ∃ (p : Addr) (ws : List V), v = .ref p ∧ G p = some (.lst ws) ∧ Paired (Pr G) ws (ids f n)
theorem Mark.same {f : Fm} {G G' : Hp} (e : Same G G') {v : V} {n : List Int} (h : Mark f G v n) : Mark f G' v n := by
  obtain ⟨p, ws, h1, h2, h3⟩ := h
  exact ⟨p, ws, h1, e _ _ h2, prd_imp (fun _ _ => Pr.same e) h3⟩
def spFirstOf : Sp := fun vs H Q _ => ∃ (f : Fm) (G : Hp) (M : List (Addr × HO)) (v : V) (l1 l2 : Addr) (us1 us2 : List V) (rs1 rs2 : List (List Int)), vs = [v, .ref l1, .ref l2] ∧ Sep G M H ∧ FmAt G v f ∧ f.ok ∧ f.dep ≤ 5 ∧ G l1 = some (.lst us1) ∧ G l2 = some (.lst us2) ∧ Paired (RowV G) us1 rs1 ∧ Paired (RowV G) us2 rs2 ∧ rs2.length ≤ 5000 ∧
  (∀ (E : Addr) (G' H' : Hp), (∀ a ∈ rs1, ∀ b ∈ rs2, Alike f a b) → Same G G' → Sep G' M H' → G' E = some (.lst []) → Q (.ref E) H') ∧
  (∀ (i j : Nat) (a b : List Int) (E x y : Addr) (G' H' : Hp), rs1[i]? = some a → rs2[j]? = some b → FineL f rs1 rs2 i j → ¬ Alike f a b → Same G G' → Sep G' M H' → G' E = some (.lst [.ref x, .ref y]) → RowV G' (.ref x) a → RowV G' (.ref y) b → Q (.ref E) H')
theorem ok_first_of (T : Top K mg w) (G_idents : FnOk P w K mg base CX0 7 T.a_idents T.d_idents ["_law_key", "_law_row"] (spLIdents K)) (G_unlike_rows : FnOk P w K mg base CX0 7 T.a_unlike_rows T.d_unlike_rows ["_law_old", "_law_before", "_law_new", "_law_behind"] spUnlikeR) :
    FnOk P w K mg base CX0 8 T.a_first_of T.d_first_of ["_law_form_here", "_law_olds", "_law_news"] spFirstOf := by
  refine T.F_first_of.ok sc_first_of (fun vs H Q E h => ?_) (fun cdv A outer s0 H vs Q E hr h => ?_)
  · obtain ⟨f, G, M, v, l1, l2, us1, us2, rs1, rs2, rfl, _⟩ := h
    rfl
  · obtain ⟨f, G, M, v, l1, l2, us1, us2, rs1, rs2, rfl, S, hf, ok, hd, h1, h2, p1, p2, len2, q0, q1⟩ := h
    refine ⟨_, (pss_cons (ps_setLc (i := 3) (own := [("_law_row", 7)]) (by rfl) sc_first_of.nd rfl rfl (sw_true rfl rfl rfl (by decide +kernel)) (pi_listK K (xv 2)) (blkOk_by (N := ["_law_form_here", "_law_olds", "_law_news", "_law_marks", "_law_old", "_law_before", "_law_at", "_law_row"]) (sc := defScope s_first_of) (by decide +kernel)) (fun _ _ _ _ _ => (pg_name (i := 7) sc_first_of.nd rfl (.inl rfl))) (fun _ _ _ _ _ => pts_nil) (fun _ _ _ _ _ => (pe_call G_idents (hr.mono (by omega)) (by rfl) T.g_idents T.F_idents.kp T.b_idents .nil pass0 (pa_cons (xv 0) (pa_cons (xv 7) pa_nil)))))
      (pss_cons (ps_for PassesOwn.never rfl (pi_listK K (xv 1)) (pg_name (i := 4) sc_first_of.nd rfl (.inl rfl))
      (pss_cons (ps_set (i := 5) sc_first_of.nd rfl (.inl rfl) (pe_call G_idents (hr.mono (by omega)) (by rfl) T.g_idents T.F_idents.kp T.b_idents .nil pass0 (pa_cons (xv 0) (pa_cons (xv 4) pa_nil))))
      (pss_one (ps_for PassesOwn.never rfl (pi_range1 (by rfl) T.m_range (pa_cons (pe_callB (cr_lenK K) (by rfl) T.m_len (by decide +kernel) (pa_cons (xv 2) pa_nil)) pa_nil)) (pg_name (i := 6) sc_first_of.nd rfl (.inl rfl))
      (pss_one (xs_if (xt_truK K (pe_call G_unlike_rows (hr.mono (by omega)) (by rfl) T.g_unlike_rows T.F_unlike_rows.kp T.b_unlike_rows .nil pass0 (pa_cons (xv 4) (pa_cons (xv 5) (pa_cons (pe_ix (ix_k K) (xv 2) (xv 6) (fun _ _ => rfl)) (pa_cons (pe_ix (ix_k K) (xv 3) (xv 6) (fun _ _ => rfl)) pa_nil))))))
      (pss_one (ps_ret (pe_lst (pa_cons (xv 4) (pa_cons (pe_ix (ix_k K) (xv 2) (xv 6) (fun _ _ => rfl)) pa_nil)))))
      pss_nil))))))
      (pss_one (ps_ret (pe_lst pa_nil))))), ?_⟩
    have u1 := prd_len p1
    have u2 := prd_len p2
    refine ⟨l2, rfl, ⟨us2, SqL.of (S.st h2)⟩, fun D nD => lc_list (xs := us2) (fun k H' => ∃ (G' : Hp) (ws : List V), Same G G' ∧ Sep G' ((D, .lst ws) :: M) H' ∧ Paired (Mark f G') ws (rs2.take k))
      ⟨G, [], Same.refl _, S.new nD, .nil⟩ (fun k H' _ p' => ?_) (fun k y H' hy p' => ?_) (fun H' p' => ?_)⟩
    · obtain ⟨G', ws, s', S', _⟩ := p'
      exact SqL.of (S'.st (s' _ _ h2))
    · obtain ⟨G', ws, s', S', hw⟩ := p'
      obtain ⟨n, hn, r, rfl, hrow, hok⟩ := prd_get p2 hy
      have wl := prd_len hw
      rw [List.length_take] at wl
      have l5 : n.length ≤ 5 := hok.len
      refine ⟨rfl, G', _, v, f, r, n, rfl, S', hf.same' s', ok, hd, (hrow.same s').tu, l5, fun p ws2 G2 H2 s2 S2 hp pr => ?_⟩
      refine ⟨ws, S2.hd, smallL (by omega), G2, ws ++ [.ref p], s'.trans s2, S2.set, ?_⟩
      rw [XL.take_snoc hn]
      exact (prd_imp (fun _ _ => Mark.same s2) hw).snoc ⟨p, ws2, rfl, hp, pr⟩
    · obtain ⟨G1, ws, s1, S1', hw⟩ := p'
      rw [u2, List.take_length] at hw
      have S1 := S1'.frz
      have s1 := s1.trans S1'.frzS
      have hw := prd_imp (fun _ _ => Mark.same S1'.frzS) hw
      have hD : (upd G1 D (.lst ws)) D = some (.lst ws) := upd_same
      generalize upd G1 D (.lst ws) = G1 at *
      have wl := prd_len hw
      refine ⟨l1, rfl, ⟨us1, SqL.of (S1.st (s1 _ _ h1))⟩, for_list (xs := us1) (fun i σ H2 => ∃ (y4 y5 y6 : Option V) (G2 : Hp), σ = [some v, some (.ref l1), some (.ref l2), some (.ref D), y4, y5, y6, none] ∧ Same G1 G2 ∧ Sep G2 M H2 ∧ FineL f rs1 rs2 i 0)
        ⟨_, _, _, G1, rfl, Same.refl _, S1, fun a b x y h => absurd h (by omega)⟩ (fun i σ H2 _ h => ?_) (fun i u σ H2 hu h => ?_) (fun σ H2 h => ?_)⟩
      · obtain ⟨_, _, _, G2, _, s2, S2, _⟩ := h
        exact SqL.of (S2.st ((s1.trans s2) _ _ h1))
      · obtain ⟨y4, y5, y6, G2, rfl, s2, S2, fine⟩ := h
        obtain ⟨n1, hn1, r1, rfl, hr1, ok1⟩ := prd_get p1 hu
        have s02 := s1.trans s2
        have l5 : n1.length ≤ 5 := ok1.len
        refine ⟨G2, _, v, f, r1, n1, rfl, S2, hf.same' s02, ok, hd, (hr1.same s02).tu, l5, fun b1 ws1 G3 H3 s3 S3 hb1 pr1 => ?_⟩
        refine ⟨_, .inl (SqL.of (S3.st ((s02.trans s3) _ _ h2))), _, rfl, by omega, by omega, ?_⟩
        rw [show ((us2.length : Nat) : Int).toNat = us2.length from rfl]
        refine for_range (lo := 0) (n := us2.length) (fun j σ H4 => ∃ (y6 : Option V), σ = [some v, some (.ref l1), some (.ref l2), some (.ref D), some (.ref r1), some (.ref b1), y6, none] ∧ H4 = H3 ∧ FineL f rs1 rs2 i j)
          ⟨_, rfl, rfl, fine⟩ (fun j σ H4 hj h => ?_) (fun σ H4 h => ?_)
        · obtain ⟨y6, rfl, rfl, fine⟩ := h
          rw [Int.zero_add]
          have hj2 := List.getElem?_eq_getElem hj
          obtain ⟨n2, hn2, r2, er2, hr2, ok2⟩ := prd_get p2 hj2
          obtain ⟨m2, hm2, b2, wsb, rfl, hb2, pr2⟩ := prd_of hw hn2
          rw [er2] at hj2
          have l52 : n2.length ≤ 5 := ok2.len
          have s03 := s02.trans s3
          have eL2 : SqL K H4 l2 us2 := SqL.of (S3.st (s03 _ _ h2))
          have eD : SqL K H4 D ws := SqL.of (S3.st ((s2.trans s3) _ _ hD))
          refine ⟨_, _, .inl eL2, atI_nat hj2, _, _, .inl eD, atI_nat hm2, f, r1, b1, r2, b2, n1, n2, rfl, RowIdL.same S3.1 ⟨(hr1.same s03).tu, l5, ws1, hb1, pr1⟩, RowIdL.same ((s2.trans s3).trans S3.1) ⟨(hr2.same s1).tu, l52, wsb, hb2, pr2⟩, fun c hc => ⟨fun e => ⟨_, _, .inl eL2, atI_nat hj2, sz, fun E nE => ?_⟩, fun e => ?_⟩⟩
          · have s4 := S3.grow (o := .lst [.ref r1, .ref r2]) nE
            exact q1 i j n1 n2 E r1 r2 _ _ hn1 hn2 fine (fun al => by rw [hc.mpr al] at e; cases e) (s03.trans s4) (S3.newG nE) upd_same ⟨r1, rfl, hr1.same (s03.trans s4), ok1⟩ ⟨r2, rfl, hr2.same (s03.trans s4), ok2⟩
          · refine ⟨_, rfl, rfl, fun a b x' y' hab hx' hy' => ?_⟩
            by_cases z : a < i ∨ a = i ∧ b < j
            · exact fine a b x' y' z hx' hy'
            · obtain ⟨rfl, rfl⟩ : a = i ∧ b = j := by omega
              rw [hn1] at hx'
              rw [hn2] at hy'
              rw [← Option.some.inj hx', ← Option.some.inj hy']
              exact hc.mp e
        · obtain ⟨y6, rfl, rfl, fine⟩ := h
          refine ⟨_, _, _, G3, rfl, s2.trans s3, S3, fun a b x' y' hab hx' hy' => ?_⟩
          have hb := (List.getElem?_eq_some_iff.mp hy').1
          exact fine a b x' y' (by omega) hx' hy'
      · obtain ⟨y4, y5, y6, G2, rfl, s2, S2, fine⟩ := h
        refine ⟨sz, fun E nE => q0 E _ _ (fun a ha b hb => ?_) (s1.trans (s2.trans (S2.grow nE))) (S2.newG nE) upd_same⟩
        obtain ⟨i, hi⟩ := List.getElem?_of_mem ha
        obtain ⟨j, hj⟩ := List.getElem?_of_mem hb
        refine fine i j a b (.inl ?_) hi hj
        have := (List.getElem?_eq_some_iff.mp hi).1
        omega

end
end K28
set_option Elab.async false
set_option linter.all false
set_option maxRecDepth 100000
set_option maxHeartbeats 4000000
namespace K28
open PySem PySem.Spec PyProof.Rows L2 XL
section
variable {P : Program} {w : World} {K : PySem.W.Frag} {mg : Str → Option Value} {base : Heap}
/-! ### the law's least pair -/
def spLeastL : Sp := fun vs H Q _ => ∃ (f : Fm) (G : Hp) (M : List (Addr × HO)) (v : V) (s p : Nat), vs = [v, .int (s : Nat), .int (p : Nat)] ∧ Sep G M H ∧ FmAt G v f ∧ f.ok ∧ f.dep ≤ 5 ∧ s ≤ 5 ∧ p ≤ 5 ∧
  (∀ (E : Addr) (G' H' : Hp), AllAl f s p → Same G G' → Sep G' M H' → G' E = some (.lst []) → Q (.ref E) H') ∧
  (∀ (t l i j : Nat) (a b : List Int) (E x y : Addr) (G' H' : Hp), First f s p t l i j a b → Same G G' → Sep G' M H' → G' E = some (.lst [.ref x, .ref y]) → RowV G' (.ref x) a → RowV G' (.ref y) b → Q (.ref E) H')
theorem ok_least (T : Top K mg w) (G_all_rows : FnOk P w K mg base CX0 8 T.a_all_rows T.d_all_rows ["_law_size", "_law_places"] spAllRows) (G_first_of : FnOk P w K mg base CX0 8 T.a_first_of T.d_first_of ["_law_form_here", "_law_olds", "_law_news"] spFirstOf) :
    FnOk P w K mg base CX0 9 T.a_least T.d_least ["_law_form_here", "_law_size", "_law_places"] spLeastL := by
  refine T.F_least.ok sc_least (fun vs H Q E h => ?_) (fun cdv A outer s0 H vs Q E hr h => ?_)
  · obtain ⟨f, G, M, v, s, p, rfl, _⟩ := h
    rfl
  · obtain ⟨f, G, M, v, s, p, rfl, S, hf, ok, hd, hs, hp, q0, q1⟩ := h
    refine ⟨_, (pss_cons (ps_set (i := 3) sc_least.nd rfl (.inl rfl) (pe_call G_all_rows (hr.mono (by omega)) (by rfl) T.g_all_rows T.F_all_rows.kp T.b_all_rows .nil pass0 (pa_cons (xv 1) (pa_cons (xv 2) pa_nil))))
      (pss_cons (ps_for PassesOwn.never rfl (pi_range1 (by rfl) T.m_range (pa_cons (pe_op op_addY (pe_op op_mulY pe_int (xv 2)) pe_int) pa_nil)) (pg_name (i := 4) sc_least.nd rfl (.inl rfl))
      (pss_one (ps_for PassesOwn.never rfl (pi_range1 (by rfl) T.m_range (pa_cons (pe_op op_addY (xv 2) pe_int) pa_nil)) (pg_name (i := 5) sc_least.nd rfl (.inl rfl))
      (pss_one (xs_if (PW.pt (xw_and (xt_cmp op_leY pe_int (pe_op op_subY (xv 4) (xv 5)) (nomark _)) (pw_and1 (xt_cmp op_leY (pe_op op_subY (xv 4) (xv 5)) (xv 2) (nomark _)))))
      (pss_cons (ps_set (i := 6) sc_least.nd rfl (.inl rfl) (pe_call G_first_of (hr.mono (by omega)) (by rfl) T.g_first_of T.F_first_of.kp T.b_first_of .nil pass0 (pa_cons (xv 0) (pa_cons (pe_ix (ix_k K) (xv 3) (xv 5) (fun _ _ => rfl)) (pa_cons (pe_ix (ix_k K) (xv 3) (pe_op op_subY (xv 4) (xv 5)) (fun _ _ => rfl)) pa_nil)))))
      (pss_one (xs_if (xt_truK K (xv 6))
      (pss_one (ps_ret (xv 6)))
      pss_nil)))
      pss_nil)))))
      (pss_one (ps_ret (pe_lst pa_nil))))), ?_⟩
    refine ⟨G, M, s, p, rfl, S, hs, hp, fun L ls G1 H1 s1 S1 hL hls => ?_⟩
    have ll := prd_len hls
    rw [List.length_range] at ll
    refine ⟨.inl ⟨by decide, by decide⟩, _, rfl, by omega, by omega, for_range (lo := 0) (n := 2 * p + 1) (fun t σ H2 => ∃ (y4 y5 y6 : Option V) (G2 : Hp), σ = [some v, some (.int (s : Nat)), some (.int (p : Nat)), some (.ref L), y4, y5, y6] ∧ Same G1 G2 ∧ Sep G2 M H2 ∧ NoneTo f s p t 0)
      ⟨_, _, _, G1, rfl, Same.refl _, S1, fun t' l' h => absurd h (by omega)⟩ (fun t σ H2 ht h => ?_) (fun σ H2 h => ?_)⟩
    · obtain ⟨y4, y5, y6, G2, rfl, s2, S2, no⟩ := h
      rw [Int.zero_add]
      refine ⟨_, rfl, by omega, by omega, for_range (lo := 0) (n := p + 1) (fun l σ H3 => ∃ (y5 y6 : Option V) (G3 : Hp), σ = [some v, some (.int (s : Nat)), some (.int (p : Nat)), some (.ref L), some (.int (t : Nat)), y5, y6] ∧ Same G1 G3 ∧ Sep G3 M H3 ∧ NoneTo f s p t l)
        ⟨_, _, G2, rfl, s2, S2, no⟩ (fun l σ H3 hl h => ?_) (fun σ H3 h => ?_)⟩
      · obtain ⟨y5, y6, G3, rfl, s3, S3, no⟩ := h
        rw [Int.zero_add]
        have skip : (¬ (l ≤ t ∧ t - l ≤ p)) → NoneTo f s p t (l + 1) := fun z => no.next fun _ c2 c3 => absurd ⟨c2, c3⟩ z
        refine ⟨fun e1 => ⟨fun e2 => ?_, fun e2 => ?_⟩, fun e1 => ?_⟩
        · have c2 : l ≤ t := by have := of_decide_eq_true e1; omega
          have c3 : t - l ≤ p := by have := of_decide_eq_true e2; omega
          have et : ((t : Nat) : Int) - (l : Nat) = ((t - l : Nat) : Int) := by omega
          obtain ⟨v1, hv1, L1⟩ := prd_of hls (i := l) (List.getElem?_range (by omega))
          obtain ⟨v2, hv2, L2⟩ := prd_of hls (i := t - l) (List.getElem?_range (by omega))
          obtain ⟨D1, us1, rfl, h1, p1⟩ := L1.same s3
          obtain ⟨D2, us2, rfl, h2, p2⟩ := L2.same s3
          have hL3 : SqL K H3 L ls := SqL.of (S3.st (s3 _ _ hL))
          have pl := pow_le (l := t - l) hs (by omega)
          refine ⟨_, _, .inl hL3, atI_nat hv1, _, _, .inl hL3, (by rw [et]; exact atI_nat hv2), f, G3, M, v, D1, D2, us1, us2, _, _, rfl, S3, hf.same' (s1.trans s3), ok, hd, h1, h2, p1, p2, by omega, fun E G4 H4 al s4 S4 hE => ?_, fun i j a b E x y G4 H4 ha hb fine na s4 S4 hE rx ry => ?_⟩
          · exact ⟨_, .inl ⟨[], SqL.of (S4.st hE), rfl⟩, ff, fun _ => ⟨_, _, G4, rfl, s3.trans s4, S4, no.next fun _ _ _ => al⟩⟩
          · exact ⟨_, .inl ⟨_, SqL.of (S4.st hE), rfl⟩, fun _ => q1 t l i j a b E x y G4 H4 ⟨by omega, c2, c3, no, ha, hb, fine, na⟩ (s1.trans (s3.trans s4)) S4 hE rx ry, tt⟩
        · exact ⟨_, _, G3, rfl, s3, S3, skip fun z => by have := of_decide_eq_false e2; omega⟩
        · exact ⟨ff, fun _ => ⟨_, _, G3, rfl, s3, S3, skip fun z => by have := of_decide_eq_false e1; omega⟩⟩
      · obtain ⟨y5, y6, G3, rfl, s3, S3, no⟩ := h
        exact ⟨_, _, _, G3, rfl, s3, S3, no.line⟩
    · obtain ⟨y4, y5, y6, G2, rfl, s2, S2, no⟩ := h
      exact ⟨sz, fun E nE => q0 E _ _ (noneTo_all no) (s1.trans (s2.trans (S2.grow nE))) (S2.newG nE) upd_same⟩
/-! ### the law's plain -/
def spPlain : Sp := fun vs H Q _ => ∃ (f : Fm) (G : Hp) (M : List (Addr × HO)) (v : V) (s p : Nat), vs = [v, .int (s : Nat), .int (p : Nat)] ∧ Sep G M H ∧ FmAt G v f ∧ f.ok ∧ f.dep ≤ 5 ∧ s ≤ 5 ∧ p ≤ 5 ∧
  ∀ (c : Bool) (G' H' : Hp), (c = true ↔ Plain f s p) → Same G G' → Sep G' M H' → Q (.bl c) H'
theorem ok_plain (T : Top K mg w) (G_value : FnOk P w K mg base CX0 6 T.a_value T.d_value ["_law_form_here", "_law_worths"] (spValue 5)) : FnOk P w K mg base CX0 7 T.a_plain T.d_plain ["_law_form_here", "_law_size", "_law_places"] spPlain := by
  refine T.F_plain.ok sc_plain (fun vs H Q E h => ?_) (fun cdv A outer s0 H vs Q E hr h => ?_)
  · obtain ⟨f, G, M, v, s, p, rfl, _⟩ := h
    rfl
  · obtain ⟨f, G, M, v, s, p, rfl, S, hf, ok, hd, hs, hp, q⟩ := h
    refine ⟨_, (xss_cut (ps_set (i := 3) sc_plain.nd rfl (.inl rfl) (xe_if (xt_cmp op_ltY (xv 2) (xv 1) (nomark _)) (xv 2) (xv 1)))
      (pss_cons (ps_set (i := 4) sc_plain.nd rfl (.inl rfl) (pe_lst pa_nil))
      (pss_cons (ps_for PassesOwn.never rfl (pi_range1 (by rfl) T.m_range (pa_cons (xv 1) pa_nil)) (pg_name (i := 5) sc_plain.nd rfl (.inl rfl))
      (pss_cons (ps_set (i := 6) sc_plain.nd rfl (.inl rfl) (pe_call G_value (hr.mono (by omega)) (by rfl) T.g_value T.F_value.kp T.b_value .nil pass0 (pa_cons (xv 0) (pa_cons (pe_disp (pps_cons pe_str (xv 5) (pps_cons pe_str pe_int pps_nil)) (by rfl) (by rfl) (fun z => by cases z) (by decide)) pa_nil))))
      (pss_cons (ps_for PassesOwn.never rfl (pi_range1 (by rfl) T.m_range (pa_cons (xv 3) pa_nil)) (pg_name (i := 7) sc_plain.nd rfl (.inl rfl))
      (pss_one (xs_if (xt_cmp (op_neK K hr.units) (pe_call G_value (hr.mono (by omega)) (by rfl) T.g_value T.F_value.kp T.b_value .nil pass0 (pa_cons (xv 0) (pa_cons (pe_disp (pps_cons pe_str (xv 5) (pps_cons pe_str (xv 7) pps_nil)) (by rfl) (by rfl) (fun z => by cases z) (by decide)) pa_nil))) (xv 6) (nomark _))
      (pss_one (ps_ret pe_bl))
      pss_nil)))
      (pss_cons (xs_if (xt_cmp (in_seqK K) (xv 6) (xv 4) (by rfl))
      (pss_one (ps_ret pe_bl))
      pss_nil)
      (pss_one (ps_expr (pe_bmK K PySem.F.plainAttrs_list PySem.F.slot_list_append PySem.F.type_list_append mt_append (xv 4) (pa_cons (xv 6) pa_nil))))))))
      (pss_one (ps_ret pe_bl))))), ?_⟩
    refine ⟨fun σ H' => σ = [some v, some (.int (s : Nat)), some (.int (p : Nat)), some (.int (min p s : Nat)), none, none, none, none] ∧ H' = H, ⟨fun e => ?_, fun e => ?_⟩, fun σ H' h => ?_⟩
    · have : p < s := by have := of_decide_eq_true e; omega
      have e2 : min p s = p := by omega
      rw [e2]
      exact ⟨rfl, rfl⟩
    · have : ¬ p < s := by have := of_decide_eq_false e; omega
      have e2 : min p s = s := by omega
      rw [e2]
      exact ⟨rfl, rfl⟩
    · obtain ⟨rfl, rfl⟩ := h
      refine ⟨sz, fun L nL => ?_⟩
      have S1 := S.new (o := .lst []) nL
      refine ⟨_, rfl, by omega, by omega, for_range (lo := 0) (n := s) (fun i σ H2 => ∃ (y5 y6 y7 : Option V) (G2 : Hp), σ = [some v, some (.int (s : Nat)), some (.int (p : Nat)), some (.int (min p s : Nat)), some (.ref L), y5, y6, y7] ∧ Same G G2 ∧ Sep G2 ((L, .lst (((List.range i).map fun x : Nat => f.val x 0).map V.int)) :: M) H2 ∧ ∀ x, x < i → PlainI f s p x)
        ⟨_, _, _, G, rfl, Same.refl _, S1, fun x h => absurd h (Nat.not_lt_zero x)⟩ (fun i σ H2 hi h => ?_) (fun σ H2 h => ?_)⟩
      · obtain ⟨y5, y6, y7, G2, rfl, s2, S2, pl⟩ := h
        rw [Int.zero_add]
        intro d nd
        have S3 := S2.new (o := .dK []) nd
        refine ⟨S3.hd, [(.inr "item", .int (i : Nat)), (.inr "at", .int 0)], rfl, by simp, ?_⟩
        rw [env_merge]
        have S4 := S3.set (o' := .dK (env2 (i : Nat) 0))
        refine ⟨_, _, v, f, d, (i : Nat), 0, rfl, S4, hf.same' s2, ok, hd, S4.hd, ?_⟩
        have S5 := S4.drop
        refine ⟨_, rfl, by omega, by omega, for_range (lo := 0) (n := min p s) (fun t σ H3 => ∃ (y7 : Option V), σ = [some v, some (.int (s : Nat)), some (.int (p : Nat)), some (.int (min p s : Nat)), some (.ref L), some (.int (i : Nat)), some (.int (f.val (i : Nat) 0)), y7] ∧ Sep G2 ((L, .lst (((List.range i).map fun x : Nat => f.val x 0).map V.int)) :: M) H3 ∧ ∀ x : Nat, x < t → f.val (i : Nat) x = f.val (i : Nat) 0)
          ⟨_, rfl, S5, fun x h => absurd h (Nat.not_lt_zero x)⟩ (fun t σ H3 ht h => ?_) (fun σ H3 h => ?_)⟩
        · obtain ⟨y7, rfl, S6, al⟩ := h
          rw [Int.zero_add]
          intro d2 nd2
          have S7 := S6.new (o := .dK []) nd2
          refine ⟨S7.hd, [(.inr "item", .int (i : Nat)), (.inr "at", .int (t : Nat))], rfl, by simp, ?_⟩
          rw [env_merge]
          have S8 := S7.set (o' := .dK (env2 (i : Nat) (t : Nat)))
          refine ⟨_, _, v, f, d2, (i : Nat), (t : Nat), rfl, S8, hf.same' s2, ok, hd, S8.hd, fun e => ?_, fun e => ?_⟩
          · have ne : ¬ f.val (i : Nat) (t : Nat) = f.val (i : Nat) 0 := by simpa using e
            exact q false G2 _ ⟨fun e => (nomatch e), fun z => absurd ((z i hi).1 t ht) ne⟩ s2 S8.drop.drop
          · have e2 : f.val (i : Nat) (t : Nat) = f.val (i : Nat) 0 := by simpa using e
            refine ⟨_, rfl, S8.drop, fun x hx => ?_⟩
            rcases Nat.lt_succ_iff_lt_or_eq.mp hx with h | h
            · exact al x h
            · rw [h]; exact e2
        · obtain ⟨y7, rfl, S6, al⟩ := h
          refine ⟨L, _, rfl, .inl (SqL.of S6.hd), rfl, ints_flat _, fun e => ?_, fun e => ?_⟩
          · have e1 : inV (.int (f.val (i : Nat) 0)) (((List.range i).map fun x : Nat => f.val x 0).map V.int) = true := e
            rw [inV_int] at e1
            obtain ⟨x, hx, ex⟩ := List.mem_map.mp (of_decide_eq_true e1)
            rw [List.mem_range] at hx
            exact q false G2 _ ⟨fun e => (nomatch e), fun z => absurd ex ((z i hi).2 x hx)⟩ s2 S6.drop
          · have e1 : inV (.int (f.val (i : Nat) 0)) (((List.range i).map fun x : Nat => f.val x 0).map V.int) = false := e
            rw [inV_int] at e1
            have e2 := of_decide_eq_false e1
            refine ⟨.inl ⟨rfl, _, SqL.of S6.hd⟩, L, _, _, rfl, rfl, S6.hd, smallL (by simp; omega), _, _, _, G2, rfl, s2, ?_, fun x hx => ?_⟩
            · rw [List.range_succ, List.map_append, List.map_append]
              exact S6.set
            · rcases Nat.lt_succ_iff_lt_or_eq.mp hx with h | h
              · exact pl x h
              · rw [h]
                exact ⟨al, fun x' hx' ex => e2 (List.mem_map.mpr ⟨x', List.mem_range.mpr hx', ex⟩)⟩
      · obtain ⟨y5, y6, y7, G2, rfl, s2, S2, pl⟩ := h
        exact q true G2 _ ⟨fun _ => pl, fun _ => rfl⟩ s2 S2.drop
/-! ### the law's menu -/
def RowM (s p : Nat) (G : Hp) (v : V) : Prop := ∃ n l, RowV G v n ∧ l ≤ p ∧ n ∈ rowsN s l
theorem RowM.same {s p : Nat} {G G' : Hp} (e : Same G G') {v : V} (h : RowM s p G v) : RowM s p G' v := by
  obtain ⟨n, l, h1, h2⟩ := h
  exact ⟨n, l, h1.same e, h2⟩
def spMenu : Sp := fun vs H Q _ => ∃ (G : Hp) (M : List (Addr × HO)) (b : Addr) (o : HO) (s p : Nat), vs = [.ref b, .int (s : Nat), .int (p : Nat)] ∧ Sep G ((b, o) :: M) H ∧ Bag G o ∧ s ≤ 5 ∧ p ≤ 5 ∧
  ∀ (m : Addr) (us : List V) (o' : HO) (G' H' : Hp), Same G G' → Bag G' o' → Sep G' ((b, o') :: M) H' → Tu G' m us → (∀ u ∈ us, RowM s p G' u) → us.length ≤ 4 → Q (.ref m) H'
theorem ok_menu_of (T : Top K mg w) {k : Nat} (G_all_rows : FnOk P w K mg base CX0 k T.a_all_rows T.d_all_rows ["_law_size", "_law_places"] spAllRows) (G_pick : FnOk P w K mg base CX0 k T.a_pick T.d_pick ["_law_bag_here", "_law_many"] spPick) (G_choice : FnOk P w K mg base CX0 k T.a_choice T.d_choice ["_law_bag_here", "_law_things"] (spChoice K)) :
    FnOk P w K mg base CX0 (k + 1) T.a_menu_of T.d_menu_of ["_law_bag_here", "_law_size", "_law_places"] spMenu := by
  refine T.F_menu_of.ok sc_menu_of (fun vs H Q E h => ?_) (fun cdv A outer s0 H vs Q E hr h => ?_)
  · obtain ⟨G, M, b, o, s, p, rfl, _⟩ := h
    rfl
  · obtain ⟨G, M, b, o, s, p, rfl, S, B, hs, hp, q⟩ := h
    refine ⟨_, (pss_cons (ps_set (i := 3) sc_menu_of.nd rfl (.inr rfl) (pe_lst pa_nil))
      (pss_cons (ps_for PassesOwn.never rfl (pi_listK K (pe_call G_all_rows (hr.mono (by omega)) (by rfl) T.g_all_rows T.F_all_rows.kp T.b_all_rows .nil pass0 (pa_cons (xv 1) (pa_cons (xv 2) pa_nil)))) (pg_name (i := 4) sc_menu_of.nd rfl (.inl rfl))
      (pss_one (ps_expr (pe_bmK K PySem.F.plainAttrs_list PySem.F.slot_list_extend PySem.F.type_list_extend mt_extend (xv 3) (pa_cons (xv 4) pa_nil)))))
      (pss_one (ps_ret (pe_callTy (call_tupleFK K) (by rfl) T.m_tuple (by decide +kernel) (pa_cons (pe_lc (own := [("_law_step", 5)]) (by rfl) sc_menu_of.nd (pi_range1 (by rfl) T.m_range (pa_cons (pe_op op_addY pe_int (pe_call G_pick (hr.mono (by omega)) (by rfl) T.g_pick T.F_pick.kp T.b_pick .nil pass0 (pa_cons (xv 0) (pa_cons pe_int pa_nil)))) pa_nil)) (blkOk_by (N := ["_law_bag_here", "_law_size", "_law_places", "_law_rows", "_law_length", "_law_step"]) (sc := defScope s_menu_of) (by decide +kernel)) (fun _ _ _ _ _ => (pg_name (i := 5) sc_menu_of.nd rfl (.inl rfl))) (fun _ _ _ _ _ => pts_nil) (fun _ _ _ _ _ => (pe_call G_choice (hr.mono (by omega)) (by rfl) T.g_choice T.F_choice.kp T.b_choice .nil pass0 (pa_cons (xv 0) (pa_cons (xv 3) pa_nil))))) pa_nil)))))), ?_⟩
    refine ⟨sz, fun R nR => ?_⟩
    have S0 := S.new (o := .lst []) nR
    refine ⟨G, _, s, p, rfl, S0, hs, hp, fun L ls G1 H1 s1 S1 hL hls => ?_⟩
    have ll := prd_len hls
    rw [List.length_range] at ll
    refine ⟨L, rfl, ⟨ls, SqL.of (S1.st hL)⟩, for_list (xs := ls) (fun i σ H2 => ∃ (y4 : Option V) (rs : List V), σ = [some (.ref b), some (.int (s : Nat)), some (.int (p : Nat)), some (.ref R), y4, none] ∧ Sep G1 ((R, .lst rs) :: (b, o) :: M) H2 ∧ (∀ u ∈ rs, RowM s p G1 u) ∧ rs.length ≤ i * 3125 ∧ (i ≠ 0 → 0 < rs.length))
      ⟨_, [], rfl, S1, fun u hu => absurd hu (by simp), Nat.le_refl _, fun h => absurd rfl h⟩ (fun i σ H2 _ h => ?_) (fun i u σ H2 hu h => ?_) (fun σ H2 h => ?_)⟩
    · obtain ⟨_, rs, _, S2, _⟩ := h
      exact SqL.of (S2.st hL)
    · obtain ⟨y4, rs, rfl, S2, hrs, rl, r0⟩ := h
      have hi := (List.getElem?_eq_some_iff.mp hu).1
      obtain ⟨l, hl, D, us, rfl, hD, hus⟩ := prd_get hls hu
      rw [List.getElem?_range (by omega)] at hl
      have el : l = i := (Option.some.inj hl).symm
      subst el
      have ul := prd_len hus
      have pl := pow_le (l := l) hs (by omega)
      have rl2 : (rs ++ us).length ≤ (l + 1) * 3125 := by
        rw [List.length_append, Nat.add_mul]
        omega
      refine ⟨.inl ⟨rfl, _, SqL.of S2.hd⟩, R, D, rs, us, rfl, rfl, S2.hd, S2.st hD, small (by omega), _, rs ++ us, rfl, S2.set, fun x hx => ?_, rl2, fun _ => ?_⟩
      · rcases List.mem_append.mp hx with h | h
        · exact hrs x h
        · obtain ⟨k0, hk0⟩ := List.getElem?_of_mem h
          obtain ⟨n, hn, rv⟩ := prd_get hus hk0
          exact ⟨n, l, rv, by omega, List.mem_of_getElem? hn⟩
      · rw [List.length_append]
        by_cases z : l = 0
        · subst z
          rw [ul]
          simp [rowsN]
        · have := r0 z
          omega
    · obtain ⟨y4, rs, rfl, S2, hrs, rl, r0⟩ := h
      have S3 := S2.frz
      have s3 := S2.frzS
      have r1 := r0 (by omega)
      have rs' : ∀ u ∈ rs, RowM s p (upd G1 R (.lst rs)) u := fun u hu => (hrs u hu).same s3
      have hR : (upd G1 R (.lst rs)) R = some (.lst rs) := upd_same
      have B3 := (B.same s1).same s3
      have s03 := s1.trans s3
      generalize upd G1 R (.lst rs) = G3 at *
      refine ⟨G3, M, b, o, 4, rfl, S3, B3, by decide, by decide, fun r4 o4 H4 r40 r41 B4 S4 => ?_⟩
      refine ⟨_, rfl, by omega, by omega, fun D nD => ?_⟩
      refine lc_range (lo := 0) (n := (1 + r4).toNat) (fun i H5 => ∃ (o' : HO) (us : List V), Bag G3 o' ∧ Sep G3 ((D, .lst us) :: (b, o') :: M) H5 ∧ (∀ u ∈ us, RowM s p G3 u) ∧ us.length = i)
        ⟨o4, [], B4, S4.new nD, fun u hu => absurd hu (by simp), rfl⟩ (fun i H5 hi p' => ?_) (fun H5 p' => ?_)
      · obtain ⟨o', us, B5, S5, hus, ul⟩ := p'
        refine ⟨rfl, G3, _, b, o', R, rs, rfl, S5.sw, B5, SqL.of hR, r1, by omega, fun v o6 H6 hv B6 S6 => ⟨us, S6.sw.hd, smallL (by omega), o6, us ++ [v], B6, S6.sw.set, fun x hx => ?_, by rw [List.length_append, ul]; rfl⟩⟩
        rcases List.mem_append.mp hx with h | h
        · exact hus x h
        · rw [List.mem_singleton.mp h]
          exact rs' v hv
      · obtain ⟨o', us, B5, S5, hus, ul⟩ := p'
        refine ⟨D, us, rfl, .inl ⟨SqL.of S5.hd, fun t ob nt hob => ?_⟩⟩
        have S6 := S5.drop
        have s6 := S6.grow (o := .frz ob (.tup us)) nt
        exact q t us o' _ _ (s03.trans s6) (B5.same s6) (S6.newG nt) (TupF.tu ⟨ob, hob, upd_same⟩) (fun u hu => (hus u hu).same s6) (by omega)
end
end K28
set_option Elab.async false
set_option linter.all false
set_option maxRecDepth 100000
set_option maxHeartbeats 4000000
namespace K28
open PySem PySem.Spec PyProof.Rows L2 XL
section
variable {P : Program} {w : World} {K : PySem.W.Frag} {mg : Str → Option Value} {base : Heap}
def FK (G : Hp) (v : V) (f : Fm) : Prop := FmAt G v f ∧ f.ok ∧ f.dep ≤ 5
theorem FK.same {G G' : Hp} (e : Same G G') {v : V} {f : Fm} (h : FK G v f) : FK G' v f := ⟨h.1.same' e, h.2⟩
def RowF (G : Hp) (v : V) : Prop := ∃ (r : Addr) (ns : List Int), v = .ref r ∧ TupF G r (ns.map V.int) ∧ RowOk ns
theorem RowF.same {G G' : Hp} (e : Same G G') {v : V} (h : RowF G v) : RowF G' v := by
  obtain ⟨r, ns, h1, h2, h3⟩ := h
  exact ⟨r, ns, h1, h2.same e, h3⟩
def spLaw (K : PySem.W.Frag) : Sp := fun vs H Q _ => ∃ (a : Addr) (ns : List Int), vs = [.ref a] ∧ SqL K H a (ns.map V.int) ∧ ns.length ≤ 63 ∧ ∀ H', Q (.bl true) H'

def spItemsT (K : PySem.W.Frag) : Sp := fun vs H Q _ => ∃ (t d : Addr) (ns : List Int), vs = [.ref t, .ref d] ∧ Tu H t (ns.map V.int) ∧ Tu H d (ns.map V.int) ∧ ns.length ≤ 100 ∧ Q (.bl true) H
theorem ok_told_itemsT (T : Top K mg w) {k : Nat} (G_number : FnOk P w K mg base CX0 k T.a_number T.d_number ["_law_thing"] spNumber) : FnOk P w K mg base CX0 (k + 1) T.a_told_items T.d_told_items ["_law_told", "_law_due"] (spItemsT K) := by
  refine T.F_told_items.ok sc_told_items (fun vs H Q E h => ?_) (fun cdv A outer s H vs Q E hr h => ?_)
  · obtain ⟨t, d, ns, rfl, _⟩ := h
    rfl
  · obtain ⟨t, d, ns, rfl, ht, hd, hl, q⟩ := h
    refine ⟨_, (pss_cons (xs_if (PW.pt (xw_or (pt_not (xt_truK K (pe_callB (call_isK K) (by rfl) T.m_isinstance (by decide +kernel) (pa_cons (xv 0) (pa_cons (pe_bltn (v := .ty "tuple") (by rfl) T.m_tuple (by decide +kernel) rfl) pa_nil))))) (pw_or1 (xt_cmp (op_neK K hr.units) (pe_callB (cr_lenK K) (by rfl) T.m_len (by decide +kernel) (pa_cons (xv 0) pa_nil)) (pe_callB (cr_lenK K) (by rfl) T.m_len (by decide +kernel) (pa_cons (xv 1) pa_nil)) (nomark _)))))
      (pss_one (ps_ret pe_bl))
      pss_nil)
      (pss_cons (ps_for PassesOwn.never rfl (pi_range1 (by rfl) T.m_range (pa_cons (pe_callB (cr_lenK K) (by rfl) T.m_len (by decide +kernel) (pa_cons (xv 1) pa_nil)) pa_nil)) (pg_name (i := 2) sc_told_items.nd rfl (.inl rfl))
      (pss_one (xs_if (PW.pt (xw_or (pt_not (xt_truK K (pe_call G_number (hr.mono (by omega)) (by rfl) T.g_number T.F_number.kp T.b_number .nil pass0 (pa_cons (pe_ix (ix_k K) (xv 0) (xv 2) (fun _ _ => rfl)) pa_nil)))) (pw_or1 (xt_cmp (op_neK K hr.units) (pe_ix (ix_k K) (xv 0) (xv 2) (fun _ _ => rfl)) (pe_ix (ix_k K) (xv 1) (xv 2) (fun _ _ => rfl)) (nomark _)))))
      (pss_one (ps_ret pe_bl))
      pss_nil)))
      (pss_one (ps_ret pe_bl)))), ?_⟩
    refine ⟨_, _, _, _, true, rfl, .ty _, ht.ty, kit_ty (by decide +kernel), ff, fun _ => ⟨_, .inr ht.sq, _, .inr hd.sq, fun e => ?_, fun _ => ?_⟩⟩
    · rw [decide_eq_true rfl] at e
      cases e
    · refine ⟨_, .inr hd.sq, _, rfl, by simp, by simp; omega, ?_⟩
      rw [show (((ns.map V.int).length : Nat) : Int).toNat = ns.length by simp]
      refine for_range (lo := 0) (n := ns.length) (fun i σ H' => ∃ y2, σ = [some (.ref t), some (.ref d), y2] ∧ H' = H) ⟨_, rfl, rfl⟩ (fun i σ H' hi h => ?_) (fun σ H' h => ?_)
      · obtain ⟨y2, rfl, rfl⟩ := h
        rw [Int.zero_add]
        refine ⟨_, _, .inr ht.sq, at_int hi, _, rfl, ff, fun _ => ⟨_, _, .inr ht.sq, at_int hi, _, _, .inr hd.sq, at_int hi, fun e => ?_, fun _ => ⟨_, rfl, rfl⟩⟩⟩
        rw [decide_eq_true rfl] at e
        cases e
      · obtain ⟨y2, rfl, rfl⟩ := h
        exact q
theorem pair_first {f : Fm} {x y : Addr} {a b : List Int} {i j : Nat} {x' y' : Addr × List Int} (a1 : a.length = 1) (hx : [(x, a), (y, b)][i]? = some x') (hy : [(x, a), (y, b)][j]? = some y') (fi : FineTo f [(x, a), (y, b)] [(x, a), (y, b)] i j) (na : ¬ Alike f a b) (na' : ¬ Alike f x'.2 y'.2) : x' = (x, a) ∧ y' = (y, b) := by
  have aa : Alike f a a := by
    match a, a1 with
    | [x0], _ => exact alike_self f x0
  match i, j with
  | 0, 0 =>
    cases hx
    cases hy
    exact absurd aa na'
  | 0, 1 =>
    cases hx
    cases hy
    exact ⟨rfl, rfl⟩
  | 0, j + 2 => simp at hy
  | 1, j => exact absurd (fi 0 1 (x, a) (y, b) (.inl (by decide)) rfl rfl) na
  | i + 2, j => simp at hx
def spRight (C : Addr) : Sp := fun vs H Q _ => ∃ (f : Fm) (G : Hp) (M : List (Addr × HO)) (kv v : V) (s p : Nat) (m : Addr) (us : List V), vs = [kv, v, .int (s : Nat), .int (p : Nat), .ref m] ∧ Sep G M H ∧ KeyAt C G kv f ∧ FK G v f ∧ s ≤ 5 ∧ 1 ≤ p ∧ p ≤ 5 ∧ Tu G m us ∧ (∀ u ∈ us, RowM s p G u) ∧ us.length ≤ 4 ∧
  ∀ (G' H' : Hp), Same G G' → Sep G' M H' → Q (.bl true) H'
theorem ok_right (T : Top K mg w) (G_least : FnOk P w K mg base CX0 9 T.a_least T.d_least ["_law_form_here", "_law_size", "_law_places"] spLeastL) (G_least_pair : FnOk P w K mg base CX0 9 T.a_least_pair T.d_least_pair ["key", "size", "places"] (spLeastPair T.C_Key))
    (G_plain : FnOk P w K mg base CX0 7 T.a_plain T.d_plain ["_law_form_here", "_law_size", "_law_places"] spPlain) (G_faithful : FnOk P w K mg base CX0 9 T.a_faithful T.d_faithful ["key", "menu"] (spFaithful K T.C_Key))
    (G_least_parting : FnOk P w K mg base CX0 12 T.a_least_parting T.d_least_parting ["key", "menu"] (spLeast T.C_Key)) (G_told_items : FnOk P w K mg base CX0 7 T.a_told_items T.d_told_items ["_law_told", "_law_due"] (spItemsT K)) :
    FnOk P w K mg base CX0 13 T.a_right T.d_right ["_law_key", "_law_form_here", "_law_size", "_law_places", "_law_menu"] (spRight T.C_Key) := by
  refine T.F_right.ok sc_right (fun vs H Q E h => ?_) (fun cdv A outer s0 H vs Q E hr h => ?_)
  · obtain ⟨f, G, M, kv, v, s, p, m, us, rfl, _⟩ := h
    rfl
  · obtain ⟨f, G, M, kv, v, s, p, m, us, rfl, S, hk, ⟨hf, ok, hd⟩, hs, hp1, hp, hm, hus, ul, q⟩ := h
    refine ⟨_, (pss_cons (ps_set (i := 5) sc_right.nd rfl (.inl rfl) (pe_call G_least (hr.mono (by omega)) (by rfl) T.g_least T.F_least.kp T.b_least .nil pass0 (pa_cons (xv 1) (pa_cons (xv 2) (pa_cons (xv 3) pa_nil)))))
      (pss_cons (ps_set (i := 6) sc_right.nd rfl (.inl rfl) (pe_call G_least_pair (hr.mono (by omega)) (by rfl) T.g_least_pair T.F_least_pair.kp T.b_least_pair .nil pass0 (pa_cons (xv 0) (pa_cons (xv 2) (pa_cons (xv 3) pa_nil)))))
      (pss_cons (xs_if (xt_cmp (op_neK K hr.units) (pe_cmpR op_isN (xv 6) pe_non (nomark _)) (pe_call G_plain (hr.mono (by omega)) (by rfl) T.g_plain T.F_plain.kp T.b_plain .nil pass0 (pa_cons (xv 1) (pa_cons (xv 2) (pa_cons (xv 3) pa_nil)))) (nomark _))
      (pss_one (ps_ret pe_bl))
      pss_nil)
      (pss_cons (xs_if (xt_cmp op_isN (xv 6) pe_non (nomark _))
      (pss_one (ps_ret (xe_and (pe_notT (xv 5)) (xe_and (pe_cmpR op_isN (pe_call G_faithful (hr.mono (by omega)) (by rfl) T.g_faithful T.F_faithful.kp T.b_faithful .nil pass0 (pa_cons (xv 0) (pa_cons (xv 4) pa_nil))) pe_non (nomark _)) (pe_one (pe_cmpR op_isN (pe_call G_least_parting (hr.mono (by omega)) (by rfl) T.g_least_parting T.F_least_parting.kp T.b_least_parting .nil pass0 (pa_cons (xv 0) (pa_cons (xv 4) pa_nil))) pe_non (nomark _)))))))
      pss_nil)
      (pss_cons (xs_if (PW.pt (xw_or (pt_not (xt_truK K (xv 5))) (xw_or (pt_not (xt_truK K (pe_callB (call_isK K) (by rfl) T.m_isinstance (by decide +kernel) (pa_cons (xv 6) (pa_cons (pe_bltn (v := .ty "tuple") (by rfl) T.m_tuple (by decide +kernel) rfl) pa_nil))))) (xw_or (xt_cmp (op_neK K hr.units) (pe_callB (cr_lenK K) (by rfl) T.m_len (by decide +kernel) (pa_cons (xv 6) pa_nil)) pe_int (nomark _)) (pw_or1 (xt_cmp (op_neK K hr.units) (pe_callB (cr_lenK K) (by rfl) T.m_len (by decide +kernel) (pa_cons (pe_ix (ix_k K) (xv 5) pe_int (fun _ _ => rfl)) pa_nil)) pe_int (nomark _)))))))
      (pss_one (ps_ret pe_bl))
      pss_nil)
      (pss_cons (xs_if (PW.pt (xw_or (pt_not (xt_truK K (pe_call G_told_items (hr.mono (by omega)) (by rfl) T.g_told_items T.F_told_items.kp T.b_told_items .nil pass0 (pa_cons (pe_ix (ix_k K) (xv 6) pe_int (fun _ _ => rfl)) (pa_cons (pe_ix (ix_k K) (xv 5) pe_int (fun _ _ => rfl)) pa_nil))))) (pw_or1 (pt_not (xt_truK K (pe_call G_told_items (hr.mono (by omega)) (by rfl) T.g_told_items T.F_told_items.kp T.b_told_items .nil pass0 (pa_cons (pe_ix (ix_k K) (xv 6) pe_int (fun _ _ => rfl)) (pa_cons (pe_ix (ix_k K) (xv 5) pe_int (fun _ _ => rfl)) pa_nil))))))))
      (pss_one (ps_ret pe_bl))
      pss_nil)
      (pss_cons (ps_set (i := 7) sc_right.nd rfl (.inl rfl) (pe_call G_faithful (hr.mono (by omega)) (by rfl) T.g_faithful T.F_faithful.kp T.b_faithful .nil pass0 (pa_cons (xv 0) (pa_cons (xv 6) pa_nil))))
      (pss_cons (xs_if (PW.pt (xw_or (pt_not (xt_truK K (pe_callB (call_isK K) (by rfl) T.m_isinstance (by decide +kernel) (pa_cons (xv 7) (pa_cons (pe_bltn (v := .ty "tuple") (by rfl) T.m_tuple (by decide +kernel) rfl) pa_nil))))) (pw_or1 (xt_cmp (op_neK K hr.units) (pe_callB (cr_lenK K) (by rfl) T.m_len (by decide +kernel) (pa_cons (xv 7) pa_nil)) pe_int (nomark _)))))
      (pss_one (ps_ret pe_bl))
      pss_nil)
      (pss_one (ps_ret (xe_and (pe_call G_told_items (hr.mono (by omega)) (by rfl) T.g_told_items T.F_told_items.kp T.b_told_items .nil pass0 (pa_cons (pe_ix (ix_k K) (xv 7) pe_int (fun _ _ => rfl)) (pa_cons (pe_ix (ix_k K) (xv 5) pe_int (fun _ _ => rfl)) pa_nil))) (pe_one (pe_call G_told_items (hr.mono (by omega)) (by rfl) T.g_told_items T.F_told_items.kp T.b_told_items .nil pass0 (pa_cons (pe_ix (ix_k K) (xv 7) pe_int (fun _ _ => rfl)) (pa_cons (pe_ix (ix_k K) (xv 5) pe_int (fun _ _ => rfl)) pa_nil))))))))))))))), ?_⟩
    refine ⟨f, G, M, v, s, p, rfl, S, hf, ok, hd, hs, hp, fun E G1 H1 al s1 S1 hE => ?_, fun t l i j a b E x y G1 H1 fi s1 S1 hE rx ry => ?_⟩
    · refine ⟨f, G1, M, kv, s, p, rfl, S1, hk.same s1, hs, hp, fun G2 H2 _ s2 S2 => ?_, fun t l i j a b E x y G2 H2 fi => absurd al fi.notAll⟩
      have s02 := s1.trans s2
      refine ⟨rfl, f, G2, M, v, s, p, rfl, S2, hf.same' s02, ok, hd, hs, hp, fun c G3 H3 hc s3 S3 => ?_⟩
      have ec : c = true := hc.mpr (all_plain hp1 al)
      subst ec
      refine ⟨ff, fun _ => ⟨rfl, fun _ => ?_, tt⟩⟩
      have s03 := s02.trans s3
      obtain ⟨xs, hxs⟩ : ∃ xs, Paired (fun v (x : Addr × List Int) => RowsAt G3 v x ∧ ∃ l, l ≤ p ∧ x.2 ∈ rowsN s l) us xs := prd_ex fun u hu => by
        obtain ⟨n, l, ⟨r, rfl, h1, h2⟩, h3, h4⟩ := (hus u hu).same s03
        exact ⟨(r, n), ⟨rfl, h1, h2⟩, l, h3, h4⟩
      have fa : FaithL f xs := fun i j x y hx hy => by
        obtain ⟨_, _, _, l1, c1, m1⟩ := prd_of hxs hx
        obtain ⟨_, _, _, l2, c2, m2⟩ := prd_of hxs hy
        exact al l1 l2 x.2 y.2 c1 c2 m1 m2
      have hx3 := prd_imp (fun _ _ h => h.1) hxs
      refine ⟨_, .inl ⟨[], SqL.of (S3.st ((s2.trans s3) _ _ hE)), rfl⟩, fun _ => ?_, tt⟩
      refine ⟨f, G3, M, kv, m, us, xs, rfl, S3, hk.same s03, hm.same s03, hx3, by omega, fun G4 H4 _ s4 S4 => ?_, fun i j x y t G4 H4 hx hy _ na => absurd (fa i j x y hx hy) na⟩
      refine ⟨rfl, fun _ => ?_, tt⟩
      refine ⟨f, G4, M, kv, m, us, xs, rfl, S4, hk.same (s03.trans s4), (hm.same s03).same s4, prd_imp (fun _ _ => RowsAt.same s4) hx3, fun G5 H5 _ s5 S5 => ?_, fun i j k x y it t G5 H5 tr => absurd (fa i j x y tr.hx tr.hy) fun al => alike_iff.mp al k (List.getElem?_eq_some_iff.mp tr.at_).1 tr.part⟩
      exact ⟨rfl, q G5 H5 (s03.trans (s4.trans s5)) S5⟩
    · refine ⟨f, G1, M, kv, s, p, rfl, S1, hk.same s1, hs, hp, fun G2 H2 al s2 S2 => absurd al fi.notAll, fun t' l' i' j' a' b' E2 x2 y2 G2 H2 fi2 s2 S2 hE2 rx2 ry2 => ?_⟩
      obtain ⟨rfl, rfl⟩ := fi.eq fi2
      have a1 := fi.one
      have s02 := s1.trans s2
      refine ⟨rfl, f, G2, M, v, s, p, rfl, S2, hf.same' s02, ok, hd, hs, hp, fun c G3 H3 hc s3 S3 => ?_⟩
      have ec : c = false := by
        cases c
        · rfl
        · exact absurd (plain_all (hc.mp rfl)) fi.notAll
      subst ec
      have s13 := s2.trans s3
      have s03 := s02.trans s3
      obtain ⟨_, ⟨⟩, tx, okx⟩ := rx.same s13
      obtain ⟨_, ⟨⟩, ty, oky⟩ := ry.same s13
      obtain ⟨_, ⟨⟩, tx2, okx2⟩ := rx2.same s3
      obtain ⟨_, ⟨⟩, ty2, oky2⟩ := ry2.same s3
      have hE3 := s13 _ _ hE
      have hE23 := s3 _ _ hE2
      have lb := oky.len
      have la := okx.len
      have q1 : SqL K H3 E [.ref x, .ref y] := SqL.of (S3.st hE3)
      have q2 : SqT K H3 E2 [.ref x2, .ref y2] := SqT.of (S3.st hE23)
      refine ⟨ff, fun _ => ⟨rfl, ff, fun _ => ?_⟩⟩
      refine ⟨_, .inl ⟨_, q1, rfl⟩, ff, fun _ => ⟨_, _, _, _, true, rfl, .ty _, .base (.tup (S3.st hE23)), kit_ty (by decide +kernel), ff, fun _ => ⟨_, .inr q2, ff, fun _ => ⟨_, _, .inl q1, rfl, _, .inr (tx.same S3.1).tu.sq, fun e => ?_, fun _ => ?_⟩⟩⟩⟩
      · rw [List.length_map, a1] at e
        exact absurd e (by decide)
      · refine ⟨_, _, .inr q2, rfl, _, _, .inl q1, rfl, x2, x, _, rfl, (tx2.same S3.1).tu, (tx.same S3.1).tu, by omega, ff, fun _ => ?_⟩
        refine ⟨_, _, .inr q2, rfl, _, _, .inl q1, rfl, y2, y, _, rfl, (ty2.same S3.1).tu, (ty.same S3.1).tu, by omega, ff, fun _ => ?_⟩
        refine ⟨f, G3, M, kv, E2, _, [(x2, _), (y2, _)], rfl, S3, hk.same s03, .inl hE23, .cons ⟨rfl, tx2, okx2⟩ (.cons ⟨rfl, ty2, oky2⟩ .nil), by simp, fun G4 H4 fa => absurd (fa 0 1 _ _ rfl rfl) fi.na, fun i3 j3 x3 y3 t3 G4 H4 hx3 hy3 fine3 na3 s4 S4 ht3 => ?_⟩
        obtain ⟨rfl, rfl⟩ := pair_first a1 hx3 hy3 fine3 fi.na na3
        have q3 : SqT K H4 t3 [.ref x2, .ref y2] := SqT.of (S4.st ht3)
        have q4 : SqL K H4 E [.ref x, .ref y] := SqL.of (S4.st (s4 _ _ hE3))
        refine ⟨_, _, _, _, true, rfl, .ty _, .base (.tup (S4.st ht3)), kit_ty (by decide +kernel), ff, fun _ => ⟨_, .inr q3, ff, fun _ => ?_⟩⟩
        have tu : ∀ {z : Addr} {n : List Int}, TupF G3 z (n.map V.int) → Tu H4 z (n.map V.int) := fun h => ((h.same s4).same S4.1).tu
        refine ⟨_, _, .inr q3, rfl, _, _, .inl q4, rfl, x2, x, _, rfl, tu tx2, tu tx, by omega, fun _ => ?_, tt⟩
        exact ⟨_, _, .inr q3, rfl, _, _, .inl q4, rfl, y2, y, _, rfl, tu ty2, tu ty, by omega, q G4 H4 (s03.trans s4) S4⟩
end
end K28
set_option Elab.async false
set_option linter.all false
set_option maxRecDepth 100000
set_option maxHeartbeats 4000000
namespace K28
open PySem PySem.Spec PyProof.Rows L2 XL
section
variable {P : Program} {w : World} {K : PySem.W.Frag} {mg : Str → Option Value} {base : Heap}
theorem ok_law (T : Top K mg w) (G_bag : FnOk P w K mg base CX0 10 T.a_bag T.d_bag ["_law_script"] (spBag K)) (G_pick : FnOk P w K mg base CX0 3 T.a_pick T.d_pick ["_law_bag_here", "_law_many"] spPick)
    (G_any_key : FnOk P w K mg base CX0 10 T.a_any_key T.d_any_key ["_law_bag_here"] spAnyKey) (G_Key_init : FnOk P w K mg base CX0 7 T.a_Key_init T.d_Key_init ["self", "form"] (spKInit T.C_Key))
    (G_menu_of : FnOk P w K mg base CX0 4 T.a_menu_of T.d_menu_of ["_law_bag_here", "_law_size", "_law_places"] spMenu) (G_right : FnOk P w K mg base CX0 13 T.a_right T.d_right ["_law_key", "_law_form_here", "_law_size", "_law_places", "_law_menu"] (spRight T.C_Key)) :
    FnOk P w K mg base CX0 14 T.a_law T.d_law ["_law_script"] (spLaw K) := by
  refine T.F_law.ok sc_law (fun vs H Q E h => ?_) (fun cdv A outer s H vs Q E hr h => ?_)
  · obtain ⟨a, ns, rfl, _⟩ := h
    rfl
  · obtain ⟨a, ns, rfl, ha, hl, q⟩ := h
    refine ⟨_, (pss_cons (ps_set (i := 1) sc_law.nd rfl (.inl rfl) (pe_call G_bag (hr.mono (by omega)) (by rfl) T.g_bag T.F_bag.kp T.b_bag .nil pass0 (pa_cons (xv 0) pa_nil)))
      (pss_cons (ps_set (i := 2) sc_law.nd rfl (.inl rfl) (pe_lst (pa_cons (pe_call G_any_key (hr.mono (by omega)) (by rfl) T.g_any_key T.F_any_key.kp T.b_any_key .nil pass0 (pa_cons (xv 1) pa_nil)) (pa_cons (pe_call G_any_key (hr.mono (by omega)) (by rfl) T.g_any_key T.F_any_key.kp T.b_any_key .nil pass0 (pa_cons (xv 1) pa_nil)) pa_nil))))
      (pss_cons (ps_setLc (i := 3) (own := [("_law_form_here", 10)]) (by rfl) sc_law.nd rfl rfl (sw_true rfl rfl rfl (by decide +kernel)) (pi_listK K (xv 2)) (blkOk_by (N := ["_law_script", "_law_bag_here", "_law_forms", "_law_both", "_law_size", "_law_places", "_law_menu", "_law_less", "_law_fewer", "_law_other", "_law_form_here"]) (sc := defScope s_law) (by decide +kernel)) (fun _ _ _ _ _ => (pg_name (i := 10) sc_law.nd rfl (.inl rfl))) (fun _ _ _ _ _ => pts_nil) (fun _ _ _ _ _ => (pe_make T.mk_Key G_Key_init (hr.mono (by omega)) (by rfl) T.g_Key T.b_Key_init .nil pass0 (pa_cons (xv 10) pa_nil))))
      (pss_cons (ps_set (i := 4) sc_law.nd rfl (.inl rfl) (pe_op op_addY pe_int (pe_call G_pick (hr.mono (by omega)) (by rfl) T.g_pick T.F_pick.kp T.b_pick .nil pass0 (pa_cons (xv 1) (pa_cons pe_int pa_nil)))))
      (pss_cons (ps_set (i := 5) sc_law.nd rfl (.inl rfl) (pe_op op_addY pe_int (pe_call G_pick (hr.mono (by omega)) (by rfl) T.g_pick T.F_pick.kp T.b_pick .nil pass0 (pa_cons (xv 1) (pa_cons pe_int pa_nil)))))
      (pss_cons (ps_set (i := 6) sc_law.nd rfl (.inl rfl) (pe_call G_menu_of (hr.mono (by omega)) (by rfl) T.g_menu_of T.F_menu_of.kp T.b_menu_of .nil pass0 (pa_cons (xv 1) (pa_cons (xv 4) (pa_cons (xv 5) pa_nil)))))
      (pss_cons (xs_if (pt_not (xt_truK K (pe_call G_right (hr.mono (by omega)) (by rfl) T.g_right T.F_right.kp T.b_right .nil pass0 (pa_cons (pe_ix (ix_k K) (xv 3) pe_int (fun _ _ => rfl)) (pa_cons (pe_ix (ix_k K) (xv 2) pe_int (fun _ _ => rfl)) (pa_cons (xv 4) (pa_cons (xv 5) (pa_cons (xv 6) pa_nil))))))))
      (pss_one (ps_ret pe_bl))
      pss_nil)
      (pss_cons (ps_set (i := 7) sc_law.nd rfl (.inl rfl) (pe_op op_addY pe_int (pe_call G_pick (hr.mono (by omega)) (by rfl) T.g_pick T.F_pick.kp T.b_pick .nil pass0 (pa_cons (xv 1) (pa_cons pe_int pa_nil)))))
      (pss_cons (ps_set (i := 8) sc_law.nd rfl (.inl rfl) (pe_op op_addY pe_int (pe_call G_pick (hr.mono (by omega)) (by rfl) T.g_pick T.F_pick.kp T.b_pick .nil pass0 (pa_cons (xv 1) (pa_cons pe_int pa_nil)))))
      (pss_cons (ps_set (i := 9) sc_law.nd rfl (.inl rfl) (pe_call G_menu_of (hr.mono (by omega)) (by rfl) T.g_menu_of T.F_menu_of.kp T.b_menu_of .nil pass0 (pa_cons (xv 1) (pa_cons (xv 7) (pa_cons (xv 8) pa_nil)))))
      (pss_cons (xs_if (pt_not (xt_truK K (pe_call G_right (hr.mono (by omega)) (by rfl) T.g_right T.F_right.kp T.b_right .nil pass0 (pa_cons (pe_ix (ix_k K) (xv 3) pe_int (fun _ _ => rfl)) (pa_cons (pe_ix (ix_k K) (xv 2) pe_int (fun _ _ => rfl)) (pa_cons (xv 7) (pa_cons (xv 8) (pa_cons (xv 9) pa_nil))))))))
      (pss_one (ps_ret pe_bl))
      pss_nil)
      (pss_one (ps_ret (pe_call G_right (hr.mono (by omega)) (by rfl) T.g_right T.F_right.kp T.b_right .nil pass0 (pa_cons (pe_ix (ix_k K) (xv 3) pe_int (fun _ _ => rfl)) (pa_cons (pe_ix (ix_k K) (xv 2) pe_int (fun _ _ => rfl)) (pa_cons (xv 7) (pa_cons (xv 8) (pa_cons (xv 9) pa_nil))))))))))))))))))), ?_⟩
    refine ⟨H, [], a, ns, rfl, sep0, ha, hl, fun b o1 G1 H1 _ B1 S1 => ?_⟩
    refine ⟨G1, [], b, o1, rfl, S1, B1, fun v1 f1 o2 G2 H2 s2 hf1 ok1 hd1 B2 S2 => ?_⟩
    refine ⟨G2, [], b, o2, rfl, S2, B2, fun v2 f2 oa G3 H3 s3 hf2 ok2 hd2 B3 S3 => ⟨sz, fun L nL => ?_⟩⟩
    obtain ⟨Ga, sa, Sa, hL⟩ := Sep.mk (o := .lst [v1, v2]) S3 nL
    have Ba := B3.same sa
    have hfs : Paired (FK Ga) [v1, v2] [f1, f2] := .cons ⟨hf1.same' (s3.trans sa), ok1, hd1⟩ (.cons ⟨hf2.same' sa, ok2, hd2⟩ .nil)
    refine ⟨L, rfl, ⟨_, SqL.of (Sa.st hL)⟩, fun D nD => lc_at (xs := [v1, v2]) (fun i H' => ∃ (G' : Hp) (ws : List V), Same Ga G' ∧ Sep G' [(D, .lst ws), (b, oa)] H' ∧ Paired (KeyAt T.C_Key G') ws ([f1, f2].take i))
      ⟨Ga, [], Same.refl _, Sa.new nD, .nil⟩ (fun i H' p => ?_) (fun _ => rfl) (fun i x H' hx p => ?_) (fun H' p => ?_)⟩
    · obtain ⟨G', ws, s', S', _⟩ := p
      exact SqL.of (S'.st (s' _ _ hL))
    · obtain ⟨G', ws, s', S', hw⟩ := p
      obtain ⟨f, hf, hfx, okf, hdf⟩ := prd_get hfs hx
      intro y dy ny ndy ne
      have hwl := prd_len hw
      rw [List.length_take] at hwl
      refine ⟨G', _, y, dy, x, f, rfl, S'.new2 ny ndy ne, hfx.same' s', okf, hdf, fun Gb Hb sb Sb => ⟨rfl, ws, ?_⟩⟩
      have Sc := Sb.frz.drop
      have sc := Sb.frzS
      refine ⟨Sc.hd, smallL (by simp at hwl; omega), _, ws ++ [.ref y], s'.trans (sb.trans sc), Sc.set, ?_⟩
      rw [XL.take_snoc hf]
      exact (prd_imp (fun _ _ => KeyAt.same (sb.trans sc)) hw).snoc ⟨y, dy, x, rfl, upd_same, hfx.same' (s'.trans (sb.trans sc)), okf, hdf⟩
    obtain ⟨Gb, ws, sb, Sb, hws⟩ := p
    have hws : Paired (KeyAt T.C_Key Gb) ws [f1, f2] := hws
    have Sc := Sb.frz
    have sc := Sb.frzS
    have hD : upd Gb D (.lst ws) D = some (.lst ws) := upd_same
    have hws := prd_imp (fun _ _ => KeyAt.same sc) hws
    have hfs := prd_imp (fun _ _ => FK.same (sb.trans sc)) hfs
    have hL := (sb.trans sc) _ _ hL
    have Bc := Ba.same (sb.trans sc)
    generalize upd Gb D (.lst ws) = Gc at *
    cases hws with
    | @cons k1 _ ws _ hk1 hws =>
    cases hws with
    | @cons k2 _ ws _ hk2 hws =>
    cases hws
    cases hfs with
    | cons hg1 hfs =>
    cases hfs with
    | cons hg2 _ =>
    -- the first size
    refine ⟨Gc, [], b, oa, 4, rfl, Sc, Bc, by decide, by decide, fun r1 o4 H4 r10 r11 B4 S4 => ?_⟩
    refine ⟨Gc, [], b, o4, 4, rfl, S4, B4, by decide, by decide, fun r2 o5 H5 r20 r21 B5 S5 => ?_⟩
    obtain ⟨r1, rfl⟩ := Int.eq_ofNat_of_zero_le r10
    obtain ⟨r2, rfl⟩ := Int.eq_ofNat_of_zero_le r20
    refine ⟨Gc, [], b, o5, 1 + r1, 1 + r2, rfl, S5, B5, by omega, by omega, fun m us o6 G6 H6 s6 B6 S6 hm hus ul => ?_⟩
    refine ⟨_, _, .inl (SqL.of (S6.st (s6 _ _ hD))), rfl, _, _, .inl (SqL.of (S6.st (s6 _ _ hL))), rfl, f1, G6, _, k1, v1, 1 + r1, 1 + r2, m, us, rfl, S6, hk1.same s6, hg1.same s6, by omega, by omega, by omega, hm, hus, ul, fun G7 H7 s7 S7 => ⟨ff, fun _ => ?_⟩⟩
    have s07 := s6.trans s7
    -- the second size
    refine ⟨G7, [], b, o6, 3, rfl, S7, B6.same s7, by decide, by decide, fun r3 o8 H8 r30 r31 B8 S8 => ?_⟩
    refine ⟨G7, [], b, o8, 3, rfl, S8, B8, by decide, by decide, fun r4 o9 H9 r40 r41 B9 S9 => ?_⟩
    obtain ⟨r3, rfl⟩ := Int.eq_ofNat_of_zero_le r30
    obtain ⟨r4, rfl⟩ := Int.eq_ofNat_of_zero_le r40
    refine ⟨G7, [], b, o9, 1 + r3, 1 + r4, rfl, S9, B9, by omega, by omega, fun m2 us2 o10 G10 H10 s10 B10 S10 hm2 hus2 ul2 => ?_⟩
    have s010 := s07.trans s10
    refine ⟨_, _, .inl (SqL.of (S10.st (s010 _ _ hD))), rfl, _, _, .inl (SqL.of (S10.st (s010 _ _ hL))), rfl, f2, G10, _, k2, v2, 1 + r3, 1 + r4, m2, us2, rfl, S10, hk2.same s010, hg2.same s010, by omega, by omega, by omega, hm2, hus2, ul2, fun G11 H11 s11 S11 => ⟨ff, fun _ => ?_⟩⟩
    have s011 := s010.trans s11
    exact ⟨_, _, .inl (SqL.of (S11.st (s011 _ _ hD))), rfl, _, _, .inl (SqL.of (S11.st (s011 _ _ hL))), rfl, f1, G11, _, k1, v1, 1 + r3, 1 + r4, m2, us2, rfl, S11, hk1.same s011, hg1.same s011, by omega, by omega, by omega, hm2.same s11, fun u hu => (hus2 u hu).same s11, ul2, fun G12 H12 _ _ => q _⟩
theorem law_end {l : PySem.W.OpenLaw} {w : World} {K : PySem.W.Frag} {h : Heap} {mg : Str → Option Value} {fa f : Addr} (X : K.In h) (G : h.Ns mainGlobals mg) (hfa : mg "law" = some (.ref fa))
    (t : ∃ T : Top K mg w, T.a_law = f ∧ ∀ (s : Shared) (v : Value), BindsTo s T.d_law ⟨[v], []⟩ [("_law_script", v)]) :
    ∃ fd : FuncData, (∀ (s : Shared) (v : Value), BindsTo s fd ⟨[v], []⟩ [("_law_script", v)]) ∧ ∀ base : Heap, K.In base → base.Ns mainGlobals mg → FnOk l.prog w K mg base CX0 14 fa fd ["_law_script"] (spLaw K) := by
  obtain ⟨T, _, hb⟩ := t
  have e := hfa.symm.trans T.g_law
  cases e
  refine ⟨T.d_law, hb, fun base _ _ => ?_⟩
  have Gm : FnOk l.prog w K mg base CX0 1 T.a_mixed T.d_mixed _ spMixed := ok_mixed T
  have Gp := ok_pick T Gm
  have Gc := ok_choice T Gp
  have Gp3 : FnOk l.prog w K mg base CX0 3 T.a_pick T.d_pick _ spPick := ok_pick T (k := 1) (ok_mixed T)
  have Gf := ok_form T Gp3 Gc 5
  have Gv := ok_value T (P := l.prog) (base := base) 5
  have Gvo := ok_value_of T (P := l.prog) (base := base) 5
  have Gno := ok_names_of T (P := l.prog) (base := base) 5
  have Gip : FnOk l.prog w K mg base CX0 5 T.a_is_part T.d_is_part _ (spPart K) := ok_is_part T (k := 3) (ok_is_number T) (ok_is_name T)
  have Gcf := ok_check_form T Gip
  have Gcr : FnOk l.prog w K mg base CX0 7 T.a_check_row T.d_check_row _ (spRow K) := ok_check_row T
  have Gki := ok_Key_idents T Gcr (ok_idents_of T Gvo)
  have Gfg := ok_first_going_wrong T (ok_goes_wrong T (k := 6) (P := l.prog) (base := base))
  have Gfa := ok_faithful T Gki Gfg
  have Gid := ok_idents T Gv
  have K1 := ok_Known_init T Gki
  have K2 : FnOk l.prog w K mg base CX0 8 T.a_Known_getitem T.d_Known_getitem _ (spKnGet K T.C_Known T.C_Key) := ok_Known_getitem T
  have K3 : FnOk l.prog w K mg base CX0 8 T.a_Known_setitem T.d_Known_setitem _ (spKnSet K T.C_Known T.C_Key) := ok_Known_setitem T
  have K4 := ok_Known_show T Gki
  have T1 := ok_Things_init T Gcr
  have T2 : FnOk l.prog w K mg base CX0 8 T.a_Things_getitem T.d_Things_getitem _ (spThGet T.C_Things) := ok_Things_getitem T
  have T3 : FnOk l.prog w K mg base CX0 8 T.a_Things_setitem T.d_Things_setitem _ (spThSet T.C_Things) := ok_Things_setitem T
  have T4 := ok_Things_show T Gcr
  have Glp := ok_least_pair T Gki Gfg (ok_rows_of T (k := 7))
  have Gle := ok_least T (ok_all_rows T (k := 7)) (ok_first_of T Gid (ok_unlike_rows T (k := 6)))
  have Gri := ok_right T Gle Glp (ok_plain T Gv) Gfa (ok_least_parting T (ok_is_parting T K1 K2 K3 K4 T1 T2 T3 T4)) (ok_told_itemsT T (ok_number T (k := 5)))
  exact ok_law T (ok_bag T) Gp3 (ok_any_key T Gp3 Gc Gf) (ok_Key_init T Gcf Gno) (ok_menu_of T (ok_all_rows T (k := 2)) Gp3 Gc) Gri
end
theorem top_mk {K : PySem.W.Frag} {W : World} {h : Heap} {mg : Str → Option Value} (X : K.In h) (G : h.Ns mainGlobals mg)
    {C0 : Addr}
    (ca0 : PySem.W.nsIn K mainGlobals "Key" = some (some (.ref C0)))
    {C1 : Addr}
    (ca1 : PySem.W.nsIn K mainGlobals "Known" = some (some (.ref C1)))
    {C2 : Addr}
    (ca2 : PySem.W.nsIn K mainGlobals "Things" = some (some (.ref C2)))
    {f0 : Addr} {od0 an0 : Option Addr} {sl0 : Array (Option Value)} {oc0 kV0 dc0 pm0 cd0 ct0 : Value}
    (a0 : PySem.W.nsIn K mainGlobals "is_name" = some (some (.ref f0)))
    (l0 : K.lookup f0 = some ⟨oc0, od0, .func (PySem.W.fnOf "is_name" "is_name" (defArgs s_is_name) (defBody s_is_name) (defScope s_is_name) .none kV0 dc0 pm0 an0 cd0 ct0), sl0⟩)
    (c0 : PySem.W.codeIn K cd0 "is_name" = true)
    (k0 : PySem.W.keepIn K (.ref f0) = true)
    {f1 : Addr} {od1 an1 : Option Addr} {sl1 : Array (Option Value)} {oc1 kV1 dc1 pm1 cd1 ct1 : Value}
    (a1 : PySem.W.nsIn K mainGlobals "is_number" = some (some (.ref f1)))
    (l1 : K.lookup f1 = some ⟨oc1, od1, .func (PySem.W.fnOf "is_number" "is_number" (defArgs s_is_number) (defBody s_is_number) (defScope s_is_number) .none kV1 dc1 pm1 an1 cd1 ct1), sl1⟩)
    (c1 : PySem.W.codeIn K cd1 "is_number" = true)
    (k1 : PySem.W.keepIn K (.ref f1) = true)
    {f2 : Addr} {od2 an2 : Option Addr} {sl2 : Array (Option Value)} {oc2 kV2 dc2 pm2 cd2 ct2 : Value}
    (a2 : PySem.W.nsIn K mainGlobals "is_part" = some (some (.ref f2)))
    (l2 : K.lookup f2 = some ⟨oc2, od2, .func (PySem.W.fnOf "is_part" "is_part" (defArgs s_is_part) (defBody s_is_part) (defScope s_is_part) .none kV2 dc2 pm2 an2 cd2 ct2), sl2⟩)
    (c2 : PySem.W.codeIn K cd2 "is_part" = true)
    (k2 : PySem.W.keepIn K (.ref f2) = true)
    {f3 : Addr} {od3 an3 : Option Addr} {sl3 : Array (Option Value)} {oc3 kV3 dc3 pm3 cd3 ct3 : Value}
    (a3 : PySem.W.nsIn K mainGlobals "check_form" = some (some (.ref f3)))
    (l3 : K.lookup f3 = some ⟨oc3, od3, .func (PySem.W.fnOf "check_form" "check_form" (defArgs s_check_form) (defBody s_check_form) (defScope s_check_form) .none kV3 dc3 pm3 an3 cd3 ct3), sl3⟩)
    (c3 : PySem.W.codeIn K cd3 "check_form" = true)
    (k3 : PySem.W.keepIn K (.ref f3) = true)
    {f4 : Addr} {od4 an4 : Option Addr} {sl4 : Array (Option Value)} {oc4 kV4 dc4 pm4 cd4 ct4 : Value}
    (a4 : PySem.W.nsIn K mainGlobals "value_of" = some (some (.ref f4)))
    (l4 : K.lookup f4 = some ⟨oc4, od4, .func (PySem.W.fnOf "value_of" "value_of" (defArgs s_value_of) (defBody s_value_of) (defScope s_value_of) .none kV4 dc4 pm4 an4 cd4 ct4), sl4⟩)
    (c4 : PySem.W.codeIn K cd4 "value_of" = true)
    (k4 : PySem.W.keepIn K (.ref f4) = true)
    {f5 : Addr} {od5 an5 : Option Addr} {sl5 : Array (Option Value)} {oc5 kV5 dc5 pm5 cd5 ct5 : Value}
    (a5 : PySem.W.nsIn K mainGlobals "names_of" = some (some (.ref f5)))
    (l5 : K.lookup f5 = some ⟨oc5, od5, .func (PySem.W.fnOf "names_of" "names_of" (defArgs s_names_of) (defBody s_names_of) (defScope s_names_of) .none kV5 dc5 pm5 an5 cd5 ct5), sl5⟩)
    (c5 : PySem.W.codeIn K cd5 "names_of" = true)
    (k5 : PySem.W.keepIn K (.ref f5) = true)
    {f6 : Addr} {od6 an6 : Option Addr} {sl6 : Array (Option Value)} {oc6 kV6 dc6 pm6 cd6 ct6 : Value}
    (a6 : PySem.W.nsIn K mainGlobals "check_row" = some (some (.ref f6)))
    (l6 : K.lookup f6 = some ⟨oc6, od6, .func (PySem.W.fnOf "check_row" "check_row" (defArgs s_check_row) (defBody s_check_row) (defScope s_check_row) .none kV6 dc6 pm6 an6 cd6 ct6), sl6⟩)
    (c6 : PySem.W.codeIn K cd6 "check_row" = true)
    (k6 : PySem.W.keepIn K (.ref f6) = true)
    {f7 : Addr} {od7 an7 : Option Addr} {sl7 : Array (Option Value)} {oc7 kV7 dc7 pm7 cd7 ct7 : Value}
    (a7 : PySem.W.nsIn K mainGlobals "idents_of" = some (some (.ref f7)))
    (l7 : K.lookup f7 = some ⟨oc7, od7, .func (PySem.W.fnOf "idents_of" "idents_of" (defArgs s_idents_of) (defBody s_idents_of) (defScope s_idents_of) .none kV7 dc7 pm7 an7 cd7 ct7), sl7⟩)
    (c7 : PySem.W.codeIn K cd7 "idents_of" = true)
    (k7 : PySem.W.keepIn K (.ref f7) = true)
    {f8 : Addr} {od8 an8 : Option Addr} {sl8 : Array (Option Value)} {oc8 kV8 dc8 pm8 cd8 ct8 : Value}
    (a8 : PySem.W.nsIn K mainGlobals "at_most" = some (some (.ref f8)))
    (l8 : K.lookup f8 = some ⟨oc8, od8, .func (PySem.W.fnOf "at_most" "at_most" (defArgs s_at_most) (defBody s_at_most) (defScope s_at_most) .none kV8 dc8 pm8 an8 cd8 ct8), sl8⟩)
    (c8 : PySem.W.codeIn K cd8 "at_most" = true)
    (k8 : PySem.W.keepIn K (.ref f8) = true)
    {f9 : Addr} {od9 an9 : Option Addr} {sl9 : Array (Option Value)} {oc9 kV9 dc9 pm9 cd9 ct9 : Value}
    (a9 : PySem.W.findIn K (.ref C0) "__init__" = some (some (.ref f9)))
    (i9 : PySem.W.isFn K (.ref f9) = true)
    (l9 : K.lookup f9 = some ⟨oc9, od9, .func (PySem.W.fnOf "__init__" "Key.__init__" (defArgs s_Key_init) (defBody s_Key_init) (defScope s_Key_init) .none kV9 dc9 pm9 an9 cd9 ct9), sl9⟩)
    (c9 : PySem.W.codeIn K cd9 "Key.__init__" = true)
    (k9 : PySem.W.keepIn K (.ref f9) = true)
    {f10 : Addr} {od10 an10 : Option Addr} {sl10 : Array (Option Value)} {oc10 kV10 dc10 pm10 cd10 ct10 : Value}
    {p10 : Addr} {pr10 : List Value}
    (a10 : PySem.W.findIn K (.ref C0) "parts" = some (some (.ref p10)))
    (pg10 : PySem.W.specialIn K (.ref p10) "__get__" = some (some (.builtin "property.__get__")))
    (pt10 : PySem.W.takesIn K (.ref p10) = some true)
    (pc10 : PySem.W.recIn K p10 "property" = some (.ref f10 :: pr10))
    (l10 : K.lookup f10 = some ⟨oc10, od10, .func (PySem.W.fnOf "parts" "Key.parts" (defArgs s_Key_parts) (defBody s_Key_parts) (defScope s_Key_parts) .none kV10 dc10 pm10 an10 cd10 ct10), sl10⟩)
    (c10 : PySem.W.codeIn K cd10 "Key.parts" = true)
    (k10 : PySem.W.keepIn K (.ref f10) = true)
    {f11 : Addr} {od11 an11 : Option Addr} {sl11 : Array (Option Value)} {oc11 kV11 dc11 pm11 cd11 ct11 : Value}
    (a11 : PySem.W.findIn K (.ref C0) "__call__" = some (some (.ref f11)))
    (i11 : PySem.W.isFn K (.ref f11) = true)
    (fi11 : PySem.W.fnIn K f11 = true)
    (l11 : K.lookup f11 = some ⟨oc11, od11, .func (PySem.W.fnOf "__call__" "Key.__call__" (defArgs s_Key_call) (defBody s_Key_call) (defScope s_Key_call) .none kV11 dc11 pm11 an11 cd11 ct11), sl11⟩)
    (c11 : PySem.W.codeIn K cd11 "Key.__call__" = true)
    (k11 : PySem.W.keepIn K (.ref f11) = true)
    {f12 : Addr} {od12 an12 : Option Addr} {sl12 : Array (Option Value)} {oc12 kV12 dc12 pm12 cd12 ct12 : Value}
    (a12 : PySem.W.findIn K (.ref C0) "__le__" = some (some (.ref f12)))
    (i12 : PySem.W.isFn K (.ref f12) = true)
    (l12 : K.lookup f12 = some ⟨oc12, od12, .func (PySem.W.fnOf "__le__" "Key.__le__" (defArgs s_Key_le) (defBody s_Key_le) (defScope s_Key_le) .none kV12 dc12 pm12 an12 cd12 ct12), sl12⟩)
    (c12 : PySem.W.codeIn K cd12 "Key.__le__" = true)
    (k12 : PySem.W.keepIn K (.ref f12) = true)
    {f13 : Addr} {od13 an13 : Option Addr} {sl13 : Array (Option Value)} {oc13 kV13 dc13 pm13 cd13 ct13 : Value}
    (a13 : PySem.W.findIn K (.ref C0) "idents" = some (some (.ref f13)))
    (i13 : PySem.W.isFn K (.ref f13) = true)
    (l13 : K.lookup f13 = some ⟨oc13, od13, .func (PySem.W.fnOf "idents" "Key.idents" (defArgs s_Key_idents) (defBody s_Key_idents) (defScope s_Key_idents) .none kV13 dc13 pm13 an13 cd13 ct13), sl13⟩)
    (c13 : PySem.W.codeIn K cd13 "Key.idents" = true)
    (k13 : PySem.W.keepIn K (.ref f13) = true)
    {f14 : Addr} {od14 an14 : Option Addr} {sl14 : Array (Option Value)} {oc14 kV14 dc14 pm14 cd14 ct14 : Value}
    (a14 : PySem.W.nsIn K mainGlobals "goes_wrong" = some (some (.ref f14)))
    (l14 : K.lookup f14 = some ⟨oc14, od14, .func (PySem.W.fnOf "goes_wrong" "goes_wrong" (defArgs s_goes_wrong) (defBody s_goes_wrong) (defScope s_goes_wrong) .none kV14 dc14 pm14 an14 cd14 ct14), sl14⟩)
    (c14 : PySem.W.codeIn K cd14 "goes_wrong" = true)
    (k14 : PySem.W.keepIn K (.ref f14) = true)
    {f15 : Addr} {od15 an15 : Option Addr} {sl15 : Array (Option Value)} {oc15 kV15 dc15 pm15 cd15 ct15 : Value}
    (a15 : PySem.W.nsIn K mainGlobals "first_going_wrong" = some (some (.ref f15)))
    (l15 : K.lookup f15 = some ⟨oc15, od15, .func (PySem.W.fnOf "first_going_wrong" "first_going_wrong" (defArgs s_first_going_wrong) (defBody s_first_going_wrong) (defScope s_first_going_wrong) .none kV15 dc15 pm15 an15 cd15 ct15), sl15⟩)
    (c15 : PySem.W.codeIn K cd15 "first_going_wrong" = true)
    (k15 : PySem.W.keepIn K (.ref f15) = true)
    {f16 : Addr} {od16 an16 : Option Addr} {sl16 : Array (Option Value)} {oc16 kV16 dc16 pm16 cd16 ct16 : Value}
    (a16 : PySem.W.nsIn K mainGlobals "faithful" = some (some (.ref f16)))
    (l16 : K.lookup f16 = some ⟨oc16, od16, .func (PySem.W.fnOf "faithful" "faithful" (defArgs s_faithful) (defBody s_faithful) (defScope s_faithful) .none kV16 dc16 pm16 an16 cd16 ct16), sl16⟩)
    (c16 : PySem.W.codeIn K cd16 "faithful" = true)
    (k16 : PySem.W.keepIn K (.ref f16) = true)
    {f17 : Addr} {od17 an17 : Option Addr} {sl17 : Array (Option Value)} {oc17 kV17 dc17 pm17 cd17 ct17 : Value}
    (a17 : PySem.W.nsIn K mainGlobals "rows_of" = some (some (.ref f17)))
    (l17 : K.lookup f17 = some ⟨oc17, od17, .func (PySem.W.fnOf "rows_of" "rows_of" (defArgs s_rows_of) (defBody s_rows_of) (defScope s_rows_of) .none kV17 dc17 pm17 an17 cd17 ct17), sl17⟩)
    (c17 : PySem.W.codeIn K cd17 "rows_of" = true)
    (k17 : PySem.W.keepIn K (.ref f17) = true)
    {f18 : Addr} {od18 an18 : Option Addr} {sl18 : Array (Option Value)} {oc18 kV18 dc18 pm18 cd18 ct18 : Value}
    (a18 : PySem.W.nsIn K mainGlobals "least_pair" = some (some (.ref f18)))
    (l18 : K.lookup f18 = some ⟨oc18, od18, .func (PySem.W.fnOf "least_pair" "least_pair" (defArgs s_least_pair) (defBody s_least_pair) (defScope s_least_pair) .none kV18 dc18 pm18 an18 cd18 ct18), sl18⟩)
    (c18 : PySem.W.codeIn K cd18 "least_pair" = true)
    (k18 : PySem.W.keepIn K (.ref f18) = true)
    {f19 : Addr} {od19 an19 : Option Addr} {sl19 : Array (Option Value)} {oc19 kV19 dc19 pm19 cd19 ct19 : Value}
    (a19 : PySem.W.findIn K (.ref C1) "__init__" = some (some (.ref f19)))
    (i19 : PySem.W.isFn K (.ref f19) = true)
    (l19 : K.lookup f19 = some ⟨oc19, od19, .func (PySem.W.fnOf "__init__" "Known.__init__" (defArgs s_Known_init) (defBody s_Known_init) (defScope s_Known_init) .none kV19 dc19 pm19 an19 cd19 ct19), sl19⟩)
    (c19 : PySem.W.codeIn K cd19 "Known.__init__" = true)
    (k19 : PySem.W.keepIn K (.ref f19) = true)
    {f20 : Addr} {od20 an20 : Option Addr} {sl20 : Array (Option Value)} {oc20 kV20 dc20 pm20 cd20 ct20 : Value}
    (a20 : PySem.W.findIn K (.ref C1) "__getitem__" = some (some (.ref f20)))
    (i20 : PySem.W.isFn K (.ref f20) = true)
    (fi20 : PySem.W.fnIn K f20 = true)
    (l20 : K.lookup f20 = some ⟨oc20, od20, .func (PySem.W.fnOf "__getitem__" "Known.__getitem__" (defArgs s_Known_getitem) (defBody s_Known_getitem) (defScope s_Known_getitem) .none kV20 dc20 pm20 an20 cd20 ct20), sl20⟩)
    (c20 : PySem.W.codeIn K cd20 "Known.__getitem__" = true)
    (k20 : PySem.W.keepIn K (.ref f20) = true)
    {f21 : Addr} {od21 an21 : Option Addr} {sl21 : Array (Option Value)} {oc21 kV21 dc21 pm21 cd21 ct21 : Value}
    (a21 : PySem.W.findIn K (.ref C1) "__setitem__" = some (some (.ref f21)))
    (i21 : PySem.W.isFn K (.ref f21) = true)
    (nq21 : PySem.W.noSeq K C1 = true)
    (l21 : K.lookup f21 = some ⟨oc21, od21, .func (PySem.W.fnOf "__setitem__" "Known.__setitem__" (defArgs s_Known_setitem) (defBody s_Known_setitem) (defScope s_Known_setitem) .none kV21 dc21 pm21 an21 cd21 ct21), sl21⟩)
    (c21 : PySem.W.codeIn K cd21 "Known.__setitem__" = true)
    (k21 : PySem.W.keepIn K (.ref f21) = true)
    {f22 : Addr} {od22 an22 : Option Addr} {sl22 : Array (Option Value)} {oc22 kV22 dc22 pm22 cd22 ct22 : Value}
    (a22 : PySem.W.findIn K (.ref C1) "show" = some (some (.ref f22)))
    (i22 : PySem.W.isFn K (.ref f22) = true)
    (l22 : K.lookup f22 = some ⟨oc22, od22, .func (PySem.W.fnOf "show" "Known.show" (defArgs s_Known_show) (defBody s_Known_show) (defScope s_Known_show) .none kV22 dc22 pm22 an22 cd22 ct22), sl22⟩)
    (c22 : PySem.W.codeIn K cd22 "Known.show" = true)
    (k22 : PySem.W.keepIn K (.ref f22) = true)
    {f23 : Addr} {od23 an23 : Option Addr} {sl23 : Array (Option Value)} {oc23 kV23 dc23 pm23 cd23 ct23 : Value}
    (a23 : PySem.W.findIn K (.ref C2) "__init__" = some (some (.ref f23)))
    (i23 : PySem.W.isFn K (.ref f23) = true)
    (l23 : K.lookup f23 = some ⟨oc23, od23, .func (PySem.W.fnOf "__init__" "Things.__init__" (defArgs s_Things_init) (defBody s_Things_init) (defScope s_Things_init) .none kV23 dc23 pm23 an23 cd23 ct23), sl23⟩)
    (c23 : PySem.W.codeIn K cd23 "Things.__init__" = true)
    (k23 : PySem.W.keepIn K (.ref f23) = true)
    {f24 : Addr} {od24 an24 : Option Addr} {sl24 : Array (Option Value)} {oc24 kV24 dc24 pm24 cd24 ct24 : Value}
    (a24 : PySem.W.findIn K (.ref C2) "__getitem__" = some (some (.ref f24)))
    (i24 : PySem.W.isFn K (.ref f24) = true)
    (fi24 : PySem.W.fnIn K f24 = true)
    (l24 : K.lookup f24 = some ⟨oc24, od24, .func (PySem.W.fnOf "__getitem__" "Things.__getitem__" (defArgs s_Things_getitem) (defBody s_Things_getitem) (defScope s_Things_getitem) .none kV24 dc24 pm24 an24 cd24 ct24), sl24⟩)
    (c24 : PySem.W.codeIn K cd24 "Things.__getitem__" = true)
    (k24 : PySem.W.keepIn K (.ref f24) = true)
    {f25 : Addr} {od25 an25 : Option Addr} {sl25 : Array (Option Value)} {oc25 kV25 dc25 pm25 cd25 ct25 : Value}
    (a25 : PySem.W.findIn K (.ref C2) "__setitem__" = some (some (.ref f25)))
    (i25 : PySem.W.isFn K (.ref f25) = true)
    (nq25 : PySem.W.noSeq K C2 = true)
    (l25 : K.lookup f25 = some ⟨oc25, od25, .func (PySem.W.fnOf "__setitem__" "Things.__setitem__" (defArgs s_Things_setitem) (defBody s_Things_setitem) (defScope s_Things_setitem) .none kV25 dc25 pm25 an25 cd25 ct25), sl25⟩)
    (c25 : PySem.W.codeIn K cd25 "Things.__setitem__" = true)
    (k25 : PySem.W.keepIn K (.ref f25) = true)
    {f26 : Addr} {od26 an26 : Option Addr} {sl26 : Array (Option Value)} {oc26 kV26 dc26 pm26 cd26 ct26 : Value}
    (a26 : PySem.W.findIn K (.ref C2) "show" = some (some (.ref f26)))
    (i26 : PySem.W.isFn K (.ref f26) = true)
    (l26 : K.lookup f26 = some ⟨oc26, od26, .func (PySem.W.fnOf "show" "Things.show" (defArgs s_Things_show) (defBody s_Things_show) (defScope s_Things_show) .none kV26 dc26 pm26 an26 cd26 ct26), sl26⟩)
    (c26 : PySem.W.codeIn K cd26 "Things.show" = true)
    (k26 : PySem.W.keepIn K (.ref f26) = true)
    {f27 : Addr} {od27 an27 : Option Addr} {sl27 : Array (Option Value)} {oc27 kV27 dc27 pm27 cd27 ct27 : Value}
    (a27 : PySem.W.nsIn K mainGlobals "is_parting" = some (some (.ref f27)))
    (l27 : K.lookup f27 = some ⟨oc27, od27, .func (PySem.W.fnOf "is_parting" "is_parting" (defArgs s_is_parting) (defBody s_is_parting) (defScope s_is_parting) .none kV27 dc27 pm27 an27 cd27 ct27), sl27⟩)
    (c27 : PySem.W.codeIn K cd27 "is_parting" = true)
    (k27 : PySem.W.keepIn K (.ref f27) = true)
    {f28 : Addr} {od28 an28 : Option Addr} {sl28 : Array (Option Value)} {oc28 kV28 dc28 pm28 cd28 ct28 : Value}
    (a28 : PySem.W.nsIn K mainGlobals "least_parting" = some (some (.ref f28)))
    (l28 : K.lookup f28 = some ⟨oc28, od28, .func (PySem.W.fnOf "least_parting" "least_parting" (defArgs s_least_parting) (defBody s_least_parting) (defScope s_least_parting) .none kV28 dc28 pm28 an28 cd28 ct28), sl28⟩)
    (c28 : PySem.W.codeIn K cd28 "least_parting" = true)
    (k28 : PySem.W.keepIn K (.ref f28) = true)
    {f29 : Addr} {od29 an29 : Option Addr} {sl29 : Array (Option Value)} {oc29 kV29 dc29 pm29 cd29 ct29 : Value}
    (a29 : PySem.W.nsIn K mainGlobals "_law_mixed" = some (some (.ref f29)))
    (l29 : K.lookup f29 = some ⟨oc29, od29, .func (PySem.W.fnOf "_law_mixed" "_law_mixed" (defArgs s_mixed) (defBody s_mixed) (defScope s_mixed) .none kV29 dc29 pm29 an29 cd29 ct29), sl29⟩)
    (c29 : PySem.W.codeIn K cd29 "_law_mixed" = true)
    (k29 : PySem.W.keepIn K (.ref f29) = true)
    {f30 : Addr} {od30 an30 : Option Addr} {sl30 : Array (Option Value)} {oc30 kV30 dc30 pm30 cd30 ct30 : Value}
    (a30 : PySem.W.nsIn K mainGlobals "_law_bag" = some (some (.ref f30)))
    (l30 : K.lookup f30 = some ⟨oc30, od30, .func (PySem.W.fnOf "_law_bag" "_law_bag" (defArgs s_bag) (defBody s_bag) (defScope s_bag) .none kV30 dc30 pm30 an30 cd30 ct30), sl30⟩)
    (c30 : PySem.W.codeIn K cd30 "_law_bag" = true)
    (k30 : PySem.W.keepIn K (.ref f30) = true)
    {f31 : Addr} {od31 an31 : Option Addr} {sl31 : Array (Option Value)} {oc31 kV31 dc31 pm31 cd31 ct31 : Value}
    (a31 : PySem.W.nsIn K mainGlobals "_law_pick" = some (some (.ref f31)))
    (l31 : K.lookup f31 = some ⟨oc31, od31, .func (PySem.W.fnOf "_law_pick" "_law_pick" (defArgs s_pick) (defBody s_pick) (defScope s_pick) .none kV31 dc31 pm31 an31 cd31 ct31), sl31⟩)
    (c31 : PySem.W.codeIn K cd31 "_law_pick" = true)
    (k31 : PySem.W.keepIn K (.ref f31) = true)
    {f32 : Addr} {od32 an32 : Option Addr} {sl32 : Array (Option Value)} {oc32 kV32 dc32 pm32 cd32 ct32 : Value}
    (a32 : PySem.W.nsIn K mainGlobals "_law_choice" = some (some (.ref f32)))
    (l32 : K.lookup f32 = some ⟨oc32, od32, .func (PySem.W.fnOf "_law_choice" "_law_choice" (defArgs s_choice) (defBody s_choice) (defScope s_choice) .none kV32 dc32 pm32 an32 cd32 ct32), sl32⟩)
    (c32 : PySem.W.codeIn K cd32 "_law_choice" = true)
    (k32 : PySem.W.keepIn K (.ref f32) = true)
    {f33 : Addr} {od33 an33 : Option Addr} {sl33 : Array (Option Value)} {oc33 kV33 dc33 pm33 cd33 ct33 : Value}
    (a33 : PySem.W.nsIn K mainGlobals "_law_number" = some (some (.ref f33)))
    (l33 : K.lookup f33 = some ⟨oc33, od33, .func (PySem.W.fnOf "_law_number" "_law_number" (defArgs s_number) (defBody s_number) (defScope s_number) .none kV33 dc33 pm33 an33 cd33 ct33), sl33⟩)
    (c33 : PySem.W.codeIn K cd33 "_law_number" = true)
    (k33 : PySem.W.keepIn K (.ref f33) = true)
    {f34 : Addr} {od34 an34 : Option Addr} {sl34 : Array (Option Value)} {oc34 kV34 dc34 pm34 cd34 ct34 : Value}
    (a34 : PySem.W.nsIn K mainGlobals "_law_form" = some (some (.ref f34)))
    (l34 : K.lookup f34 = some ⟨oc34, od34, .func (PySem.W.fnOf "_law_form" "_law_form" (defArgs s_form) (defBody s_form) (defScope s_form) .none kV34 dc34 pm34 an34 cd34 ct34), sl34⟩)
    (c34 : PySem.W.codeIn K cd34 "_law_form" = true)
    (k34 : PySem.W.keepIn K (.ref f34) = true)
    {f35 : Addr} {od35 an35 : Option Addr} {sl35 : Array (Option Value)} {oc35 kV35 dc35 pm35 cd35 ct35 : Value}
    (a35 : PySem.W.nsIn K mainGlobals "_law_value" = some (some (.ref f35)))
    (l35 : K.lookup f35 = some ⟨oc35, od35, .func (PySem.W.fnOf "_law_value" "_law_value" (defArgs s_value) (defBody s_value) (defScope s_value) .none kV35 dc35 pm35 an35 cd35 ct35), sl35⟩)
    (c35 : PySem.W.codeIn K cd35 "_law_value" = true)
    (k35 : PySem.W.keepIn K (.ref f35) = true)
    {f36 : Addr} {od36 an36 : Option Addr} {sl36 : Array (Option Value)} {oc36 kV36 dc36 pm36 cd36 ct36 : Value}
    (a36 : PySem.W.nsIn K mainGlobals "_law_idents" = some (some (.ref f36)))
    (l36 : K.lookup f36 = some ⟨oc36, od36, .func (PySem.W.fnOf "_law_idents" "_law_idents" (defArgs s_idents) (defBody s_idents) (defScope s_idents) .none kV36 dc36 pm36 an36 cd36 ct36), sl36⟩)
    (c36 : PySem.W.codeIn K cd36 "_law_idents" = true)
    (k36 : PySem.W.keepIn K (.ref f36) = true)
    {f37 : Addr} {od37 an37 : Option Addr} {sl37 : Array (Option Value)} {oc37 kV37 dc37 pm37 cd37 ct37 : Value}
    (a37 : PySem.W.nsIn K mainGlobals "_law_any_key" = some (some (.ref f37)))
    (l37 : K.lookup f37 = some ⟨oc37, od37, .func (PySem.W.fnOf "_law_any_key" "_law_any_key" (defArgs s_any_key) (defBody s_any_key) (defScope s_any_key) .none kV37 dc37 pm37 an37 cd37 ct37), sl37⟩)
    (c37 : PySem.W.codeIn K cd37 "_law_any_key" = true)
    (k37 : PySem.W.keepIn K (.ref f37) = true)
    {f38 : Addr} {od38 an38 : Option Addr} {sl38 : Array (Option Value)} {oc38 kV38 dc38 pm38 cd38 ct38 : Value}
    (a38 : PySem.W.nsIn K mainGlobals "_law_told_items" = some (some (.ref f38)))
    (l38 : K.lookup f38 = some ⟨oc38, od38, .func (PySem.W.fnOf "_law_told_items" "_law_told_items" (defArgs s_told_items) (defBody s_told_items) (defScope s_told_items) .none kV38 dc38 pm38 an38 cd38 ct38), sl38⟩)
    (c38 : PySem.W.codeIn K cd38 "_law_told_items" = true)
    (k38 : PySem.W.keepIn K (.ref f38) = true)
    {f39 : Addr} {od39 an39 : Option Addr} {sl39 : Array (Option Value)} {oc39 kV39 dc39 pm39 cd39 ct39 : Value}
    (a39 : PySem.W.nsIn K mainGlobals "_law_all_rows" = some (some (.ref f39)))
    (l39 : K.lookup f39 = some ⟨oc39, od39, .func (PySem.W.fnOf "_law_all_rows" "_law_all_rows" (defArgs s_all_rows) (defBody s_all_rows) (defScope s_all_rows) .none kV39 dc39 pm39 an39 cd39 ct39), sl39⟩)
    (c39 : PySem.W.codeIn K cd39 "_law_all_rows" = true)
    (k39 : PySem.W.keepIn K (.ref f39) = true)
    {f40 : Addr} {od40 an40 : Option Addr} {sl40 : Array (Option Value)} {oc40 kV40 dc40 pm40 cd40 ct40 : Value}
    (a40 : PySem.W.nsIn K mainGlobals "_law_unlike_rows" = some (some (.ref f40)))
    (l40 : K.lookup f40 = some ⟨oc40, od40, .func (PySem.W.fnOf "_law_unlike_rows" "_law_unlike_rows" (defArgs s_unlike_rows) (defBody s_unlike_rows) (defScope s_unlike_rows) .none kV40 dc40 pm40 an40 cd40 ct40), sl40⟩)
    (c40 : PySem.W.codeIn K cd40 "_law_unlike_rows" = true)
    (k40 : PySem.W.keepIn K (.ref f40) = true)
    {f41 : Addr} {od41 an41 : Option Addr} {sl41 : Array (Option Value)} {oc41 kV41 dc41 pm41 cd41 ct41 : Value}
    (a41 : PySem.W.nsIn K mainGlobals "_law_first_of" = some (some (.ref f41)))
    (l41 : K.lookup f41 = some ⟨oc41, od41, .func (PySem.W.fnOf "_law_first_of" "_law_first_of" (defArgs s_first_of) (defBody s_first_of) (defScope s_first_of) .none kV41 dc41 pm41 an41 cd41 ct41), sl41⟩)
    (c41 : PySem.W.codeIn K cd41 "_law_first_of" = true)
    (k41 : PySem.W.keepIn K (.ref f41) = true)
    {f42 : Addr} {od42 an42 : Option Addr} {sl42 : Array (Option Value)} {oc42 kV42 dc42 pm42 cd42 ct42 : Value}
    (a42 : PySem.W.nsIn K mainGlobals "_law_least" = some (some (.ref f42)))
    (l42 : K.lookup f42 = some ⟨oc42, od42, .func (PySem.W.fnOf "_law_least" "_law_least" (defArgs s_least) (defBody s_least) (defScope s_least) .none kV42 dc42 pm42 an42 cd42 ct42), sl42⟩)
    (c42 : PySem.W.codeIn K cd42 "_law_least" = true)
    (k42 : PySem.W.keepIn K (.ref f42) = true)
    {f43 : Addr} {od43 an43 : Option Addr} {sl43 : Array (Option Value)} {oc43 kV43 dc43 pm43 cd43 ct43 : Value}
    (a43 : PySem.W.nsIn K mainGlobals "_law_plain" = some (some (.ref f43)))
    (l43 : K.lookup f43 = some ⟨oc43, od43, .func (PySem.W.fnOf "_law_plain" "_law_plain" (defArgs s_plain) (defBody s_plain) (defScope s_plain) .none kV43 dc43 pm43 an43 cd43 ct43), sl43⟩)
    (c43 : PySem.W.codeIn K cd43 "_law_plain" = true)
    (k43 : PySem.W.keepIn K (.ref f43) = true)
    {f44 : Addr} {od44 an44 : Option Addr} {sl44 : Array (Option Value)} {oc44 kV44 dc44 pm44 cd44 ct44 : Value}
    (a44 : PySem.W.nsIn K mainGlobals "_law_right" = some (some (.ref f44)))
    (l44 : K.lookup f44 = some ⟨oc44, od44, .func (PySem.W.fnOf "_law_right" "_law_right" (defArgs s_right) (defBody s_right) (defScope s_right) .none kV44 dc44 pm44 an44 cd44 ct44), sl44⟩)
    (c44 : PySem.W.codeIn K cd44 "_law_right" = true)
    (k44 : PySem.W.keepIn K (.ref f44) = true)
    {f45 : Addr} {od45 an45 : Option Addr} {sl45 : Array (Option Value)} {oc45 kV45 dc45 pm45 cd45 ct45 : Value}
    (a45 : PySem.W.nsIn K mainGlobals "_law_menu_of" = some (some (.ref f45)))
    (l45 : K.lookup f45 = some ⟨oc45, od45, .func (PySem.W.fnOf "_law_menu_of" "_law_menu_of" (defArgs s_menu_of) (defBody s_menu_of) (defScope s_menu_of) .none kV45 dc45 pm45 an45 cd45 ct45), sl45⟩)
    (c45 : PySem.W.codeIn K cd45 "_law_menu_of" = true)
    (k45 : PySem.W.keepIn K (.ref f45) = true)
    {f46 : Addr} {od46 an46 : Option Addr} {sl46 : Array (Option Value)} {oc46 kV46 dc46 pm46 cd46 ct46 : Value}
    (a46 : PySem.W.nsIn K mainGlobals "law" = some (some (.ref f46)))
    (l46 : K.lookup f46 = some ⟨oc46, od46, .func (PySem.W.fnOf "law" "law" (defArgs s_law) (defBody s_law) (defScope s_law) .none kV46 dc46 pm46 an46 cd46 ct46), sl46⟩)
    (c46 : PySem.W.codeIn K cd46 "law" = true)
    (k46 : PySem.W.keepIn K (.ref f46) = true)
    (z0 : PySem.W.nsIn K mainGlobals "NotImplemented" = some none)
    (z1 : PySem.W.nsIn K mainGlobals "abs" = some none)
    (z2 : PySem.W.nsIn K mainGlobals "all" = some none)
    (z3 : PySem.W.nsIn K mainGlobals "bool" = some none)
    (z4 : PySem.W.nsIn K mainGlobals "enumerate" = some none)
    (z5 : PySem.W.nsIn K mainGlobals "int" = some none)
    (z6 : PySem.W.nsIn K mainGlobals "isinstance" = some none)
    (z7 : PySem.W.nsIn K mainGlobals "len" = some none)
    (z8 : PySem.W.nsIn K mainGlobals "range" = some none)
    (z9 : PySem.W.nsIn K mainGlobals "str" = some none)
    (z10 : PySem.W.nsIn K mainGlobals "tuple" = some none)
    {w0 : Value}
    (y0 : PySem.W.nsIn K mainGlobals "LETTERS" = some (some w0))
    (x0 : ∃ t, w0 = .str "abcdefghijklmnopqrstuvwxyz" t)
    {w1 : Value}
    (y1 : PySem.W.nsIn K mainGlobals "MOST_LEVELS" = some (some w1))
    (x1 : ∃ t, w1 = .int 5 t)
    {w2 : Value}
    (y2 : PySem.W.nsIn K mainGlobals "MOST_ITEMS" = some (some w2))
    (x2 : ∃ t, w2 = .int 5 t)
    {D0 : Addr} {de0 : Array DictEntry} {dn0 : Nat}
    (da0 : PySem.W.nsIn K mainGlobals "COUNTS" = some (some (.ref D0)))
    (dl0 : K.lookup D0 = some ⟨.type "dict", none, .dict de0 dn0, #[]⟩)
    (dk0 : PySem.W.KeysLit W.params de0.toList)
    (dw0 : (D0 == sysModules) = false)
    {dt0_0 : Tok}
    (dv0_0 : PySem.W.nsIn K D0 "is" = some (some (.int 2 dt0_0)))
    {dt0_1 : Tok}
    (dv0_1 : PySem.W.nsIn K D0 "get" = some (some (.int 2 dt0_1)))
    {dt0_2 : Tok}
    (dv0_2 : PySem.W.nsIn K D0 "sum" = some (some (.int 3 dt0_2)))
    {dt0_3 : Tok}
    (dv0_3 : PySem.W.nsIn K D0 "same" = some (some (.int 3 dt0_3)))
    {dt0_4 : Tok}
    (dv0_4 : PySem.W.nsIn K D0 "pick" = some (some (.int 4 dt0_4)))
    (cg0 : PySem.W.plainGet K C0 Str.empty = true)
    (ch0 : PySem.W.hasDictIn K C0 = true)
    (co0 : PySem.W.plainOver K C0 = true)
    (cs0 : PySem.W.findIn K (.ref C0) "__setattr__" = some (some (.builtin "object.__setattr__")))
    (cf0_0 : PySem.W.findIn K (.ref C0) "form" = some none)
    (cm0 : PySem.W.makesIn K C0 = true)
    (ck0 : PySem.W.keepIn K (.ref C0) = true)
    (ct0_a : PySem.W.findIn K (.ref C0) "__class__" = some (some (.builtin "object.__class__")))
    (ct0_b : PySem.W.specialIn K (.builtin "object.__class__") "__get__" = some (some (.builtin "getset_descriptor.__get__")))
    (ct0_c : PySem.W.takesIn K (.builtin "object.__class__") = some true)
    (ct0_d : PySem.W.mroIn K C0 (.type "object") = some true)
    (cg1 : PySem.W.plainGet K C1 Str.empty = true)
    (ch1 : PySem.W.hasDictIn K C1 = true)
    (co1 : PySem.W.plainOver K C1 = true)
    (cs1 : PySem.W.findIn K (.ref C1) "__setattr__" = some (some (.builtin "object.__setattr__")))
    (cf1_0 : PySem.W.findIn K (.ref C1) "key" = some none)
    (cf1_1 : PySem.W.findIn K (.ref C1) "row" = some none)
    (cf1_2 : PySem.W.findIn K (.ref C1) "known_by" = some none)
    (cf1_3 : PySem.W.findIn K (.ref C1) "numbers" = some none)
    (cm1 : PySem.W.makesIn K C1 = true)
    (ck1 : PySem.W.keepIn K (.ref C1) = true)
    (cg2 : PySem.W.plainGet K C2 Str.empty = true)
    (ch2 : PySem.W.hasDictIn K C2 = true)
    (co2 : PySem.W.plainOver K C2 = true)
    (cs2 : PySem.W.findIn K (.ref C2) "__setattr__" = some (some (.builtin "object.__setattr__")))
    (cf2_0 : PySem.W.findIn K (.ref C2) "row" = some none)
    (cf2_1 : PySem.W.findIn K (.ref C2) "numbers" = some none)
    (cm2 : PySem.W.makesIn K C2 = true)
    (ck2 : PySem.W.keepIn K (.ref C2) = true)
    : ∃ T : Top K mg W, T.a_law = f46 ∧ ∀ (s : Shared) (v : Value), BindsTo s T.d_law ⟨[v], []⟩ [("_law_script", v)] := by
  have F0 := fun_mk (st := s_is_name) l0 c0 k0
  have F1 := fun_mk (st := s_is_number) l1 c1 k1
  have F2 := fun_mk (st := s_is_part) l2 c2 k2
  have F3 := fun_mk (st := s_check_form) l3 c3 k3
  have F4 := fun_mk (st := s_value_of) l4 c4 k4
  have F5 := fun_mk (st := s_names_of) l5 c5 k5
  have F6 := fun_mk (st := s_check_row) l6 c6 k6
  have F7 := fun_mk (st := s_idents_of) l7 c7 k7
  have F8 := fun_mk (st := s_at_most) l8 c8 k8
  have F9 := fun_mk (st := s_Key_init) l9 c9 k9
  have F10 := fun_mk (st := s_Key_parts) l10 c10 k10
  have F11 := fun_mk (st := s_Key_call) l11 c11 k11
  have F12 := fun_mk (st := s_Key_le) l12 c12 k12
  have F13 := fun_mk (st := s_Key_idents) l13 c13 k13
  have F14 := fun_mk (st := s_goes_wrong) l14 c14 k14
  have F15 := fun_mk (st := s_first_going_wrong) l15 c15 k15
  have F16 := fun_mk (st := s_faithful) l16 c16 k16
  have F17 := fun_mk (st := s_rows_of) l17 c17 k17
  have F18 := fun_mk (st := s_least_pair) l18 c18 k18
  have F19 := fun_mk (st := s_Known_init) l19 c19 k19
  have F20 := fun_mk (st := s_Known_getitem) l20 c20 k20
  have F21 := fun_mk (st := s_Known_setitem) l21 c21 k21
  have F22 := fun_mk (st := s_Known_show) l22 c22 k22
  have F23 := fun_mk (st := s_Things_init) l23 c23 k23
  have F24 := fun_mk (st := s_Things_getitem) l24 c24 k24
  have F25 := fun_mk (st := s_Things_setitem) l25 c25 k25
  have F26 := fun_mk (st := s_Things_show) l26 c26 k26
  have F27 := fun_mk (st := s_is_parting) l27 c27 k27
  have F28 := fun_mk (st := s_least_parting) l28 c28 k28
  have F29 := fun_mk (st := s_mixed) l29 c29 k29
  have F30 := fun_mk (st := s_bag) l30 c30 k30
  have F31 := fun_mk (st := s_pick) l31 c31 k31
  have F32 := fun_mk (st := s_choice) l32 c32 k32
  have F33 := fun_mk (st := s_number) l33 c33 k33
  have F34 := fun_mk (st := s_form) l34 c34 k34
  have F35 := fun_mk (st := s_value) l35 c35 k35
  have F36 := fun_mk (st := s_idents) l36 c36 k36
  have F37 := fun_mk (st := s_any_key) l37 c37 k37
  have F38 := fun_mk (st := s_told_items) l38 c38 k38
  have F39 := fun_mk (st := s_all_rows) l39 c39 k39
  have F40 := fun_mk (st := s_unlike_rows) l40 c40 k40
  have F41 := fun_mk (st := s_first_of) l41 c41 k41
  have F42 := fun_mk (st := s_least) l42 c42 k42
  have F43 := fun_mk (st := s_plain) l43 c43 k43
  have F44 := fun_mk (st := s_right) l44 c44 k44
  have F45 := fun_mk (st := s_menu_of) l45 c45 k45
  have F46 := fun_mk (st := s_law) l46 c46 k46
  exact ⟨⟨PySem.W.mg_none_of X G z0,
    PySem.W.mg_none_of X G z1,
    PySem.W.mg_none_of X G z2,
    PySem.W.mg_none_of X G z3,
    PySem.W.mg_none_of X G z4,
    PySem.W.mg_none_of X G z5,
    PySem.W.mg_none_of X G z6,
    PySem.W.mg_none_of X G z7,
    PySem.W.mg_none_of X G z8,
    PySem.W.mg_none_of X G z9,
    PySem.W.mg_none_of X G z10,
    (by obtain ⟨t, e⟩ := x0; exact ⟨t, e ▸ PySem.W.mg_of X G y0⟩),
    (by obtain ⟨t, e⟩ := x1; exact ⟨t, e ▸ PySem.W.mg_of X G y1⟩),
    (by obtain ⟨t, e⟩ := x2; exact ⟨t, e ▸ PySem.W.mg_of X G y2⟩),
    f0,
    _,
    F0,
    F0.binds (ps := ["thing"]) (fun _ _ _ _ _ _ us hl => match us, hl with | [_], _ => rfl),
    PySem.W.mg_of X G a0,
    f1,
    _,
    F1,
    F1.binds (ps := ["thing", "low", "high"]) (fun _ _ _ _ _ _ us hl => match us, hl with | [_, _, _], _ => rfl),
    PySem.W.mg_of X G a1,
    f2,
    _,
    F2,
    F2.binds (ps := ["part"]) (fun _ _ _ _ _ _ us hl => match us, hl with | [_], _ => rfl),
    PySem.W.mg_of X G a2,
    f3,
    _,
    F3,
    F3.binds (ps := ["parts"]) (fun _ _ _ _ _ _ us hl => match us, hl with | [_], _ => rfl),
    PySem.W.mg_of X G a3,
    f4,
    _,
    F4,
    F4.binds (ps := ["parts", "values"]) (fun _ _ _ _ _ _ us hl => match us, hl with | [_, _], _ => rfl),
    PySem.W.mg_of X G a4,
    f5,
    _,
    F5,
    F5.binds (ps := ["parts"]) (fun _ _ _ _ _ _ us hl => match us, hl with | [_], _ => rfl),
    PySem.W.mg_of X G a5,
    f6,
    _,
    F6,
    F6.binds (ps := ["row"]) (fun _ _ _ _ _ _ us hl => match us, hl with | [_], _ => rfl),
    PySem.W.mg_of X G a6,
    f7,
    _,
    F7,
    F7.binds (ps := ["parts", "row"]) (fun _ _ _ _ _ _ us hl => match us, hl with | [_, _], _ => rfl),
    PySem.W.mg_of X G a7,
    f8,
    _,
    F8,
    F8.binds (ps := ["first", "second"]) (fun _ _ _ _ _ _ us hl => match us, hl with | [_, _], _ => rfl),
    PySem.W.mg_of X G a8,
    f9,
    _,
    F9,
    F9.binds (ps := ["self", "form"]) (fun _ _ _ _ _ _ us hl => match us, hl with | [_, _], _ => rfl),
    f10,
    _,
    F10,
    F10.binds (ps := ["self"]) (fun _ _ _ _ _ _ us hl => match us, hl with | [_], _ => rfl),
    f11,
    _,
    F11,
    F11.binds (ps := ["self", "item", "at"]) (fun _ _ _ _ _ _ us hl => match us, hl with | [_, _, _], _ => rfl),
    f12,
    _,
    F12,
    F12.binds (ps := ["self", "other"]) (fun _ _ _ _ _ _ us hl => match us, hl with | [_, _], _ => rfl),
    f13,
    _,
    F13,
    F13.binds (ps := ["self", "row"]) (fun _ _ _ _ _ _ us hl => match us, hl with | [_, _], _ => rfl),
    f14,
    _,
    F14,
    F14.binds (ps := ["old", "before", "new", "behind"]) (fun _ _ _ _ _ _ us hl => match us, hl with | [_, _, _, _], _ => rfl),
    PySem.W.mg_of X G a14,
    f15,
    _,
    F15,
    F15.binds (ps := ["olds", "news"]) (fun _ _ _ _ _ _ us hl => match us, hl with | [_, _], _ => rfl),
    PySem.W.mg_of X G a15,
    f16,
    _,
    F16,
    F16.binds (ps := ["key", "menu"]) (fun _ _ _ _ _ _ us hl => match us, hl with | [_, _], _ => rfl),
    PySem.W.mg_of X G a16,
    f17,
    _,
    F17,
    F17.binds (ps := ["size", "length"]) (fun _ _ _ _ _ _ us hl => match us, hl with | [_, _], _ => rfl),
    PySem.W.mg_of X G a17,
    f18,
    _,
    F18,
    F18.binds (ps := ["key", "size", "places"]) (fun _ _ _ _ _ _ us hl => match us, hl with | [_, _, _], _ => rfl),
    PySem.W.mg_of X G a18,
    f19,
    _,
    F19,
    F19.binds (ps := ["self", "key", "row"]) (fun _ _ _ _ _ _ us hl => match us, hl with | [_, _, _], _ => rfl),
    f20,
    _,
    F20,
    F20.binds (ps := ["self", "item"]) (fun _ _ _ _ _ _ us hl => match us, hl with | [_, _], _ => rfl),
    f21,
    _,
    F21,
    F21.binds (ps := ["self", "item", "number"]) (fun _ _ _ _ _ _ us hl => match us, hl with | [_, _, _], _ => rfl),
    f22,
    _,
    F22,
    F22.binds (ps := ["self", "row"]) (fun _ _ _ _ _ _ us hl => match us, hl with | [_, _], _ => rfl),
    f23,
    _,
    F23,
    F23.binds (ps := ["self", "row"]) (fun _ _ _ _ _ _ us hl => match us, hl with | [_, _], _ => rfl),
    f24,
    _,
    F24,
    F24.binds (ps := ["self", "item"]) (fun _ _ _ _ _ _ us hl => match us, hl with | [_, _], _ => rfl),
    f25,
    _,
    F25,
    F25.binds (ps := ["self", "item", "number"]) (fun _ _ _ _ _ _ us hl => match us, hl with | [_, _, _], _ => rfl),
    f26,
    _,
    F26,
    F26.binds (ps := ["self", "row"]) (fun _ _ _ _ _ _ us hl => match us, hl with | [_, _], _ => rfl),
    f27,
    _,
    F27,
    F27.binds (ps := ["key", "old", "item", "new"]) (fun _ _ _ _ _ _ us hl => match us, hl with | [_, _, _, _], _ => rfl),
    PySem.W.mg_of X G a27,
    f28,
    _,
    F28,
    F28.binds (ps := ["key", "menu"]) (fun _ _ _ _ _ _ us hl => match us, hl with | [_, _], _ => rfl),
    PySem.W.mg_of X G a28,
    f29,
    _,
    F29,
    F29.binds (ps := ["_law_number_here", "_law_turn"]) (fun _ _ _ _ _ _ us hl => match us, hl with | [_, _], _ => rfl),
    PySem.W.mg_of X G a29,
    f30,
    _,
    F30,
    F30.binds (ps := ["_law_script"]) (fun _ _ _ _ _ _ us hl => match us, hl with | [_], _ => rfl),
    PySem.W.mg_of X G a30,
    f31,
    _,
    F31,
    F31.binds (ps := ["_law_bag_here", "_law_many"]) (fun _ _ _ _ _ _ us hl => match us, hl with | [_, _], _ => rfl),
    PySem.W.mg_of X G a31,
    f32,
    _,
    F32,
    F32.binds (ps := ["_law_bag_here", "_law_things"]) (fun _ _ _ _ _ _ us hl => match us, hl with | [_, _], _ => rfl),
    PySem.W.mg_of X G a32,
    f33,
    _,
    F33,
    F33.binds (ps := ["_law_thing"]) (fun _ _ _ _ _ _ us hl => match us, hl with | [_], _ => rfl),
    PySem.W.mg_of X G a33,
    f34,
    _,
    F34,
    F34.binds (ps := ["_law_bag_here", "_law_readable", "_law_levels"]) (fun _ _ _ _ _ _ us hl => match us, hl with | [_, _, _], _ => rfl),
    PySem.W.mg_of X G a34,
    f35,
    _,
    F35,
    F35.binds (ps := ["_law_form_here", "_law_worths"]) (fun _ _ _ _ _ _ us hl => match us, hl with | [_, _], _ => rfl),
    PySem.W.mg_of X G a35,
    f36,
    _,
    F36,
    F36.binds (ps := ["_law_key", "_law_row"]) (fun _ _ _ _ _ _ us hl => match us, hl with | [_, _], _ => rfl),
    PySem.W.mg_of X G a36,
    f37,
    _,
    F37,
    F37.binds (ps := ["_law_bag_here"]) (fun _ _ _ _ _ _ us hl => match us, hl with | [_], _ => rfl),
    PySem.W.mg_of X G a37,
    f38,
    _,
    F38,
    F38.binds (ps := ["_law_told", "_law_due"]) (fun _ _ _ _ _ _ us hl => match us, hl with | [_, _], _ => rfl),
    PySem.W.mg_of X G a38,
    f39,
    _,
    F39,
    F39.binds (ps := ["_law_size", "_law_places"]) (fun _ _ _ _ _ _ us hl => match us, hl with | [_, _], _ => rfl),
    PySem.W.mg_of X G a39,
    f40,
    _,
    F40,
    F40.binds (ps := ["_law_old", "_law_before", "_law_new", "_law_behind"]) (fun _ _ _ _ _ _ us hl => match us, hl with | [_, _, _, _], _ => rfl),
    PySem.W.mg_of X G a40,
    f41,
    _,
    F41,
    F41.binds (ps := ["_law_form_here", "_law_olds", "_law_news"]) (fun _ _ _ _ _ _ us hl => match us, hl with | [_, _, _], _ => rfl),
    PySem.W.mg_of X G a41,
    f42,
    _,
    F42,
    F42.binds (ps := ["_law_form_here", "_law_size", "_law_places"]) (fun _ _ _ _ _ _ us hl => match us, hl with | [_, _, _], _ => rfl),
    PySem.W.mg_of X G a42,
    f43,
    _,
    F43,
    F43.binds (ps := ["_law_form_here", "_law_size", "_law_places"]) (fun _ _ _ _ _ _ us hl => match us, hl with | [_, _, _], _ => rfl),
    PySem.W.mg_of X G a43,
    f44,
    _,
    F44,
    F44.binds (ps := ["_law_key", "_law_form_here", "_law_size", "_law_places", "_law_menu"]) (fun _ _ _ _ _ _ us hl => match us, hl with | [_, _, _, _, _], _ => rfl),
    PySem.W.mg_of X G a44,
    f45,
    _,
    F45,
    F45.binds (ps := ["_law_bag_here", "_law_size", "_law_places"]) (fun _ _ _ _ _ _ us hl => match us, hl with | [_, _, _], _ => rfl),
    PySem.W.mg_of X G a45,
    f46,
    _,
    F46,
    F46.binds (ps := ["_law_script"]) (fun _ _ _ _ _ _ us hl => match us, hl with | [_], _ => rfl),
    PySem.W.mg_of X G a46,
    D0,
    de0,
    dn0,
    PySem.W.mg_of X G da0,
    dl0,
    dk0,
    dw0,
    ⟨_, dv0_0⟩,
    ⟨_, dv0_1⟩,
    ⟨_, dv0_2⟩,
    ⟨_, dv0_3⟩,
    ⟨_, dv0_4⟩,
    C0,
    PySem.W.mg_of X G ca0,
    ⟨cg0, ch0, co0, cs0⟩,
    cf0_0,
    ⟨cm0, a9, i9, ck0⟩,
    ⟨a11, i11, fi11⟩,
    ⟨a12, i12⟩,
    ⟨a13, i13, k13⟩,
    p10,
    ⟨a10, pg10, pt10, ⟨_, pc10⟩⟩,
    ⟨ct0_a, ct0_b, ct0_c, ct0_d, if_pos (beq_self_eq_true _)⟩,
    C1,
    PySem.W.mg_of X G ca1,
    ⟨cg1, ch1, co1, cs1⟩,
    cf1_0,
    cf1_1,
    cf1_2,
    cf1_3,
    ⟨cm1, a19, i19, ck1⟩,
    ⟨a20, i20, fi20⟩,
    ⟨a21, i21, nq21⟩,
    ⟨a22, i22, k22⟩,
    C2,
    PySem.W.mg_of X G ca2,
    ⟨cg2, ch2, co2, cs2⟩,
    cf2_0,
    cf2_1,
    ⟨cm2, a23, i23, ck2⟩,
    ⟨a24, i24, fi24⟩,
    ⟨a25, i25, nq25⟩,
    ⟨a26, i26, k26⟩⟩, rfl, fun s v => .of_eq rfl⟩
end K28
open PySem PySem.W PyProof.Rows
set_option maxHeartbeats 0 in
theorem PySem.Challenge.cw_drawnanew_k28_whole_least_pair_holds : PySem.Challenge.rw_drawnanew_k28_whole_least_pair.Holds := by
  w_on; o_law; k_head; (case hw => w_witness2)
  k_fill
  refine L2.walk_of (l := PySem.Challenge.rw_drawnanew_k28_whole_least_pair) (n := 63) (k := 14) (x := "_law_script") (CX := fun _ => L2.CX0) (sp := fun w => K28.spLaw _) rfl (by decide) rfl ⟨rfl, by decide, by decide⟩ (fun w h Y => PySem.W.kIn_of Y) ?F (fun _ _ a ns hl _ hS => ⟨a, ns, rfl, hS, hl, fun _ => rfl⟩) (fun _ _ _ _ _ h => h)
  case F =>
    intro w mg fa h KX G hmg
    refine' K28.law_end KX G hmg (K28.top_mk (W := w) KX G ?ca0 ?ca1 ?ca2 ?a0 ?l0 ?c0 ?k0 ?a1 ?l1 ?c1 ?k1 ?a2 ?l2 ?c2 ?k2 ?a3 ?l3 ?c3 ?k3 ?a4 ?l4 ?c4 ?k4 ?a5 ?l5 ?c5 ?k5 ?a6 ?l6 ?c6 ?k6 ?a7 ?l7 ?c7 ?k7 ?a8 ?l8 ?c8 ?k8 ?a9 ?i9 ?l9 ?c9 ?k9 ?a10 ?pg10 ?pt10 ?pc10 ?l10 ?c10 ?k10 ?a11 ?i11 ?fi11 ?l11 ?c11 ?k11 ?a12 ?i12 ?l12 ?c12 ?k12 ?a13 ?i13 ?l13 ?c13 ?k13 ?a14 ?l14 ?c14 ?k14 ?a15 ?l15 ?c15 ?k15 ?a16 ?l16 ?c16 ?k16 ?a17 ?l17 ?c17 ?k17 ?a18 ?l18 ?c18 ?k18 ?a19 ?i19 ?l19 ?c19 ?k19 ?a20 ?i20 ?fi20 ?l20 ?c20 ?k20 ?a21 ?i21 ?nq21 ?l21 ?c21 ?k21 ?a22 ?i22 ?l22 ?c22 ?k22 ?a23 ?i23 ?l23 ?c23 ?k23 ?a24 ?i24 ?fi24 ?l24 ?c24 ?k24 ?a25 ?i25 ?nq25 ?l25 ?c25 ?k25 ?a26 ?i26 ?l26 ?c26 ?k26 ?a27 ?l27 ?c27 ?k27 ?a28 ?l28 ?c28 ?k28 ?a29 ?l29 ?c29 ?k29 ?a30 ?l30 ?c30 ?k30 ?a31 ?l31 ?c31 ?k31 ?a32 ?l32 ?c32 ?k32 ?a33 ?l33 ?c33 ?k33 ?a34 ?l34 ?c34 ?k34 ?a35 ?l35 ?c35 ?k35 ?a36 ?l36 ?c36 ?k36 ?a37 ?l37 ?c37 ?k37 ?a38 ?l38 ?c38 ?k38 ?a39 ?l39 ?c39 ?k39 ?a40 ?l40 ?c40 ?k40 ?a41 ?l41 ?c41 ?k41 ?a42 ?l42 ?c42 ?k42 ?a43 ?l43 ?c43 ?k43 ?a44 ?l44 ?c44 ?k44 ?a45 ?l45 ?c45 ?k45 ?a46 ?l46 ?c46 ?k46 ?z0 ?z1 ?z2 ?z3 ?z4 ?z5 ?z6 ?z7 ?z8 ?z9 ?z10 ?y0 ?x0 ?y1 ?x1 ?y2 ?x2 ?da0 ?dl0 ?dk0 ?dw0 ?dv0_0 ?dv0_1 ?dv0_2 ?dv0_3 ?dv0_4 ?cg0 ?ch0 ?co0 ?cs0 ?cf0_0 ?cm0 ?ck0 ?ct0_a ?ct0_b ?ct0_c ?ct0_d ?cg1 ?ch1 ?co1 ?cs1 ?cf1_0 ?cf1_1 ?cf1_2 ?cf1_3 ?cm1 ?ck1 ?cg2 ?ch2 ?co2 ?cs2 ?cf2_0 ?cf2_1 ?cm2 ?ck2)
    (case ca0 => k_is)
    (case ca1 => k_is)
    (case ca2 => k_is)
    (case a0 => k_is)
    (case l0 => k_is)
    (case c0 => k_is)
    (case k0 => k_is)
    (case a1 => k_is)
    (case l1 => k_is)
    (case c1 => k_is)
    (case k1 => k_is)
    (case a2 => k_is)
    (case l2 => k_is)
    (case c2 => k_is)
    (case k2 => k_is)
    (case a3 => k_is)
    (case l3 => k_is)
    (case c3 => k_is)
    (case k3 => k_is)
    (case a4 => k_is)
    (case l4 => k_is)
    (case c4 => k_is)
    (case k4 => k_is)
    (case a5 => k_is)
    (case l5 => k_is)
    (case c5 => k_is)
    (case k5 => k_is)
    (case a6 => k_is)
    (case l6 => k_is)
    (case c6 => k_is)
    (case k6 => k_is)
    (case a7 => k_is)
    (case l7 => k_is)
    (case c7 => k_is)
    (case k7 => k_is)
    (case a8 => k_is)
    (case l8 => k_is)
    (case c8 => k_is)
    (case k8 => k_is)
    (case a9 => k_is)
    (case i9 => k_is)
    (case l9 => k_is)
    (case c9 => k_is)
    (case k9 => k_is)
    (case a10 => k_is)
    (case pg10 => k_is)
    (case pt10 => k_is)
    (case pc10 => k_is)
    (case l10 => k_is)
    (case c10 => k_is)
    (case k10 => k_is)
    (case a11 => k_is)
    (case i11 => k_is)
    (case fi11 => k_is)
    (case l11 => k_is)
    (case c11 => k_is)
    (case k11 => k_is)
    (case a12 => k_is)
    (case i12 => k_is)
    (case l12 => k_is)
    (case c12 => k_is)
    (case k12 => k_is)
    (case a13 => k_is)
    (case i13 => k_is)
    (case l13 => k_is)
    (case c13 => k_is)
    (case k13 => k_is)
    (case a14 => k_is)
    (case l14 => k_is)
    (case c14 => k_is)
    (case k14 => k_is)
    (case a15 => k_is)
    (case l15 => k_is)
    (case c15 => k_is)
    (case k15 => k_is)
    (case a16 => k_is)
    (case l16 => k_is)
    (case c16 => k_is)
    (case k16 => k_is)
    (case a17 => k_is)
    (case l17 => k_is)
    (case c17 => k_is)
    (case k17 => k_is)
    (case a18 => k_is)
    (case l18 => k_is)
    (case c18 => k_is)
    (case k18 => k_is)
    (case a19 => k_is)
    (case i19 => k_is)
    (case l19 => k_is)
    (case c19 => k_is)
    (case k19 => k_is)
    (case a20 => k_is)
    (case i20 => k_is)
    (case fi20 => k_is)
    (case l20 => k_is)
    (case c20 => k_is)
    (case k20 => k_is)
    (case a21 => k_is)
    (case i21 => k_is)
    (case nq21 => k_is)
    (case l21 => k_is)
    (case c21 => k_is)
    (case k21 => k_is)
    (case a22 => k_is)
    (case i22 => k_is)
    (case l22 => k_is)
    (case c22 => k_is)
    (case k22 => k_is)
    (case a23 => k_is)
    (case i23 => k_is)
    (case l23 => k_is)
    (case c23 => k_is)
    (case k23 => k_is)
    (case a24 => k_is)
    (case i24 => k_is)
    (case fi24 => k_is)
    (case l24 => k_is)
    (case c24 => k_is)
    (case k24 => k_is)
    (case a25 => k_is)
    (case i25 => k_is)
    (case nq25 => k_is)
    (case l25 => k_is)
    (case c25 => k_is)
    (case k25 => k_is)
    (case a26 => k_is)
    (case i26 => k_is)
    (case l26 => k_is)
    (case c26 => k_is)
    (case k26 => k_is)
    (case a27 => k_is)
    (case l27 => k_is)
    (case c27 => k_is)
    (case k27 => k_is)
    (case a28 => k_is)
    (case l28 => k_is)
    (case c28 => k_is)
    (case k28 => k_is)
    (case a29 => k_is)
    (case l29 => k_is)
    (case c29 => k_is)
    (case k29 => k_is)
    (case a30 => k_is)
    (case l30 => k_is)
    (case c30 => k_is)
    (case k30 => k_is)
    (case a31 => k_is)
    (case l31 => k_is)
    (case c31 => k_is)
    (case k31 => k_is)
    (case a32 => k_is)
    (case l32 => k_is)
    (case c32 => k_is)
    (case k32 => k_is)
    (case a33 => k_is)
    (case l33 => k_is)
    (case c33 => k_is)
    (case k33 => k_is)
    (case a34 => k_is)
    (case l34 => k_is)
    (case c34 => k_is)
    (case k34 => k_is)
    (case a35 => k_is)
    (case l35 => k_is)
    (case c35 => k_is)
    (case k35 => k_is)
    (case a36 => k_is)
    (case l36 => k_is)
    (case c36 => k_is)
    (case k36 => k_is)
    (case a37 => k_is)
    (case l37 => k_is)
    (case c37 => k_is)
    (case k37 => k_is)
    (case a38 => k_is)
    (case l38 => k_is)
    (case c38 => k_is)
    (case k38 => k_is)
    (case a39 => k_is)
    (case l39 => k_is)
    (case c39 => k_is)
    (case k39 => k_is)
    (case a40 => k_is)
    (case l40 => k_is)
    (case c40 => k_is)
    (case k40 => k_is)
    (case a41 => k_is)
    (case l41 => k_is)
    (case c41 => k_is)
    (case k41 => k_is)
    (case a42 => k_is)
    (case l42 => k_is)
    (case c42 => k_is)
    (case k42 => k_is)
    (case a43 => k_is)
    (case l43 => k_is)
    (case c43 => k_is)
    (case k43 => k_is)
    (case a44 => k_is)
    (case l44 => k_is)
    (case c44 => k_is)
    (case k44 => k_is)
    (case a45 => k_is)
    (case l45 => k_is)
    (case c45 => k_is)
    (case k45 => k_is)
    (case a46 => k_is)
    (case l46 => k_is)
    (case c46 => k_is)
    (case k46 => k_is)
    (case z0 => k_is)
    (case z1 => k_is)
    (case z2 => k_is)
    (case z3 => k_is)
    (case z4 => k_is)
    (case z5 => k_is)
    (case z6 => k_is)
    (case z7 => k_is)
    (case z8 => k_is)
    (case z9 => k_is)
    (case z10 => k_is)
    (case y0 => k_is)
    (case x0 => exact ⟨_, rfl⟩)
    (case y1 => k_is)
    (case x1 => exact ⟨_, rfl⟩)
    (case y2 => k_is)
    (case x2 => exact ⟨_, rfl⟩)
    (case da0 => k_is)
    (case dl0 => k_is)
    (case dk0 => k_keys)
    (case dw0 => rfl)
    (case dv0_0 => k_is)
    (case dv0_1 => k_is)
    (case dv0_2 => k_is)
    (case dv0_3 => k_is)
    (case dv0_4 => k_is)
    (case cg0 => k_is)
    (case ch0 => k_is)
    (case co0 => k_is)
    (case cs0 => k_is)
    (case cf0_0 => k_is)
    (case cm0 => k_is)
    (case ck0 => k_is)
    (case ct0_a => k_is)
    (case ct0_b => k_is)
    (case ct0_c => k_is)
    (case ct0_d => k_is)
    (case cg1 => k_is)
    (case ch1 => k_is)
    (case co1 => k_is)
    (case cs1 => k_is)
    (case cf1_0 => k_is)
    (case cf1_1 => k_is)
    (case cf1_2 => k_is)
    (case cf1_3 => k_is)
    (case cm1 => k_is)
    (case ck1 => k_is)
    (case cg2 => k_is)
    (case ch2 => k_is)
    (case co2 => k_is)
    (case cs2 => k_is)
    (case cf2_0 => k_is)
    (case cf2_1 => k_is)
    (case cm2 => k_is)
    (case ck2 => k_is)
