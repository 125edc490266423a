import PyProof.Rows.All
import Wide.All
import OpenK.AllK
import Wide.FinOn
import HandS.ForMost
import HandS.Flow
import HandS.IsInst
import HandS.Wide
import HandS.Walk
import PyProof.Rows.IntBool
import HandS.Property
import HandS.Star
import HandS.OwnEq
import HandS.SetFor
import KE.GoesEnum
import KE.GoesMore
import HandS.Strs
import HandS.Deep
import HandS.TupAny
import KE.KRevSl
import KE.KOpsOwn
import HandS.ForExc
import HandS.FStr
import HandS.ExcField
import HandS.ExcIs
import HandS.ExcSuper
import KE.KExcSuper
import KE.KExcIs
import HandS.OwnIter
import HandS.IterNext
import HandS.Text
import HandS.Zip
import HandS.HotCalls
import PyProof.ReprRoads
import HandS.Ends
import PyProof.AutoSeq1
import HandS.IterVal
import HandS.Conv
import PyProof.StrLawsRepr
import PySem.Challenge.RW_drawnanew_k18_whole_points
set_option Elab.async false
set_option linter.all false
set_option maxRecDepth 100000
set_option maxHeartbeats 4000000
/-! XBase: readings that compute, over the hand layer; the heap cut into a part that only grows and cells that change. -/
namespace XL
open PySem PySem.Spec PyProof.Rows L2
abbrev St := L2.St

/-! ### a reading may be exchanged for a stronger one -/
theorem pe_str {X : Cx} {e : Expr} {t t' : TE} (h : PE X e t) (k : ∀ σ H Q, t' σ H Q → t σ H Q) : PE X e t' := ⟨fun pins s σ H Q I q => h.run pins s σ H Q I (k σ H Q q)⟩
theorem pt_str {X : Cx} {e : Expr} {t t' : TT} (h : PT X e t) (k : ∀ σ H Q, t' σ H Q → t σ H Q) : PT X e t' := ⟨fun pins s σ H Q I q => h.run pins s σ H Q I (k σ H Q q)⟩
theorem ps_str {X : Cx} {e : Stmt} {t t' : TS} (h : PS X e t) (k : ∀ D σ H, t' D σ H → t D σ H) : PS X e t' := ⟨fun pins s σ H D I q => h.run pins s σ H D I (k D σ H q)⟩
theorem or_str {X : Cx} {f : Value → Value → Sem Value} {r r' : R2} (h : OpR X f r) (k : ∀ x y H Q, r' x y H Q → r x y H Q) : OpR X f r' := fun pins s σ H x y v u Q I rx ry q => h pins s σ H x y v u Q I rx ry (k x y H Q q)
theorem cr_str {X : Cx} {f : Value} {r r' : List V → Hp → VK → Prop} (h : CallR X f r) (k : ∀ xs H Q, r' xs H Q → r xs H Q) : CallR X f r' := fun pins s σ H xs us Q I rx q => h pins s σ H xs us Q I rx (k xs H Q q)
theorem OpR.or {X : Cx} {f : Value → Value → Sem Value} {r r' : R2} (h : OpR X f r) (h' : OpR X f r') : OpR X f (fun x y H Q => r x y H Q ∨ r' x y H Q) := by
  intro pins s σ H x y v u Q I rx ry q
  rcases q with q | q
  · exact h pins s σ H x y v u Q I rx ry q
  · exact h' pins s σ H x y v u Q I rx ry q

/-! ### names -/
def nth : St → Nat → Option V
  | [], _ => none
  | x :: _, 0 => x
  | _ :: r, n + 1 => nth r n
theorem nth_get : ∀ {σ : St} {i : Nat} {v : V}, nth σ i = some v → σ[i]? = some (some v)
  | [], _, _, h => nomatch h
  | _ :: _, 0, _, h => congrArg some h
  | _ :: r, n + 1, _, h => by
    rw [List.getElem?_cons_succ]
    exact nth_get (σ := r) h
def xVar (i : Nat) : TE := fun σ H Q => match nth σ i with
  | some v => Q v H
  | none => False
section
variable {X : Cx} {a b c : Expr} {ta tb tc : TE} {pos : Pos} {tA tB' : TT} {rest : List Expr}
theorem xv (i : Nat) {x : Str} {pos : Pos} (hN : X.N[i]? = some x := by rfl) (hv : Vis X.env.scope x := by first | exact Or.inl rfl | exact Or.inr (Or.inl rfl) | exact Or.inr (Or.inr rfl)) (hd : (x == ("__debug__" : Str)) = false := by decide)
    (hcd : (x == ("__classdict__" : Str)) = false := by decide) : PE X (.Name x pos) (xVar i) := pe_str (pe_var hN hv hd hcd) fun σ H Q h => by
  unfold xVar at h
  cases e : nth σ i with
  | none => rw [e] at h; exact h.elim
  | some v => rw [e] at h; exact ⟨v, nth_get e, h⟩

/-! ### arithmetic -/
theorem op_mul_ib : OpR X (binaryOp .Mult) (fun x y H Q => ∃ i k, x = .int i ∧ y = .bl k ∧ Q (.int (i * b2i k)) H) := by
  intro pins s σ H x y v u Q I rx ry h
  obtain ⟨i, k, rfl, rfl, q⟩ := h
  obtain ⟨t, rfl⟩ := rx
  cases ry
  refine PySem.IntBool.mul_int_bool ?_
  have e : (if k = true then (1 : Int) else 0) = b2i k := by cases k <;> rfl
  rw [e]
  exact ⟨.int (i * b2i k), H, I.tok _, ⟨_, rfl⟩, q⟩
def yAdd : R2 := fun x y H Q => match x, y with
  | .int i, .int j => Q (.int (i + j)) H
  | .int i, .bl k => Q (.int (i + b2i k)) H
  | .str a, .str b => a.length + b.length ≤ sizeLine ∧ ∀ r : Str, r = a ++ b → Q (.str r) H
  | .ref l, .ref b => rCat (.ref l) (.ref b) H Q
  | _, _ => False
theorem op_addY : OpR X (binaryOp .Add) yAdd := by
  refine or_str (OpR.or (op_add (X := X)) (OpR.or (op_add_ib (X := X)) (OpR.or (op_add_str (X := X)) (op_cat (X := X))))) fun x y H Q h => ?_
  unfold yAdd at h
  split at h
  · exact .inl ⟨_, _, rfl, rfl, h⟩
  · exact .inr (.inl ⟨_, _, rfl, rfl, h⟩)
  · exact .inr (.inr (.inl ⟨_, _, rfl, rfl, h.1, h.2 _ rfl⟩))
  · exact .inr (.inr (.inr h))
  · exact h.elim
def ySub : R2 := fun x y H Q => match x, y with
  | .int i, .int j => Q (.int (i - j)) H
  | _, _ => False
theorem op_subY : OpR X (binaryOp .Sub) ySub := by
  refine or_str (op_sub (X := X)) fun x y H Q h => ?_
  unfold ySub at h
  split at h
  · exact ⟨_, _, rfl, rfl, h⟩
  · exact h.elim
def yMul : R2 := fun x y H Q => match x, y with
  | .int i, .int j => CMul i j ∧ Q (.int (i * j)) H
  | .int i, .bl k => Q (.int (i * b2i k)) H
  | .ref l, .int k => rRep (.ref l) (.int k) H Q
  | _, _ => False
theorem op_mulY : OpR X (binaryOp .Mult) yMul := by
  refine or_str (OpR.or (op_mul (X := X)) (OpR.or (op_mul_ib (X := X)) (op_rep (X := X)))) fun x y H Q h => ?_
  unfold yMul at h
  split at h
  · exact .inl ⟨_, _, rfl, rfl, h.1, h.2⟩
  · exact .inr (.inl ⟨_, _, rfl, rfl, h⟩)
  · exact .inr (.inr h)
  · exact h.elim
def yMod : R2 := fun x y H Q => match x, y with
  | .int i, .int j => 0 < j ∧ ∀ r : Int, r = i % j → 0 ≤ r → r < j → Q (.int r) H
  | _, _ => False
theorem op_modY : OpR X (binaryOp .Mod) yMod := by
  refine or_str (op_mod (X := X)) fun x y H Q h => ?_
  unfold yMod at h
  split at h
  · exact ⟨_, _, rfl, rfl, h.1, h.2 _ rfl (Int.emod_nonneg _ (by have := h.1; omega)) (Int.emod_lt_of_pos _ h.1)⟩
  · exact h.elim
def yDiv : R2 := fun x y H Q => match x, y with
  | .int i, .int j => (0 < j ∧ j < 1073741824) ∧ ∀ r : Int, r = i / j → (0 ≤ i → 0 ≤ r) → Q (.int r) H
  | _, _ => False
theorem op_divY : OpR X (binaryOp .FloorDiv) yDiv := by
  refine or_str (op_fdiv (X := X)) fun x y H Q h => ?_
  unfold yDiv at h
  split at h
  · exact ⟨_, _, rfl, rfl, h.1, h.2 _ rfl (fun h0 => Int.ediv_nonneg h0 (by have := h.1.1; omega))⟩
  · exact h.elim
def yPow : R2 := fun x y H Q => match x, y with
  | .int i, .int j => CPow i j ∧ ∀ r : Int, r = i ^ j.toNat → Q (.int r) H
  | _, _ => False
theorem op_powY : OpR X (binaryOp .Pow) yPow := by
  refine or_str (op_pow (X := X)) fun x y H Q h => ?_
  unfold yPow at h
  split at h
  · exact ⟨_, _, rfl, rfl, h.1, h.2 _ rfl⟩
  · exact h.elim

/-! ### comparisons -/
def yCmp (p : Int → Int → Bool) : R2 := fun x y H Q => match x, y with
  | .int i, .int j => Q (.bl (p i j)) H
  | _, _ => False
theorem yCmp_rI {p : Int → Int → Bool} {x y : V} {H : Hp} {Q : VK} (h : yCmp p x y H Q) : rI0 (fun i j => .bl (p i j)) x y H Q := by
  unfold yCmp at h
  split at h
  · exact ⟨_, _, rfl, rfl, h⟩
  · exact h.elim
theorem op_ltY : OpR X (compareOp .Lt) (yCmp fun i j => decide (i < j)) := or_str (op_lt (X := X)) fun _ _ _ _ h => yCmp_rI h
theorem op_leY : OpR X (compareOp .LtE) (yCmp fun i j => decide (i ≤ j)) := or_str (op_le (X := X)) fun _ _ _ _ h => yCmp_rI h
theorem op_gtY : OpR X (compareOp .Gt) (yCmp fun i j => decide (j < i)) := or_str (op_gt (X := X)) fun _ _ _ _ h => yCmp_rI h
theorem op_geY : OpR X (compareOp .GtE) (yCmp fun i j => decide (j ≤ i)) := or_str (op_ge (X := X)) fun _ _ _ _ h => yCmp_rI h
def yEq (K : PySem.W.Frag) : R2 := fun x y H Q => match x, y with
  | .int i, .int j => Q (.bl (decide (i = j))) H
  | .str i, .str j => Q (.bl (decide (i = j))) H
  | .bl i, .bl j => Q (.bl (decide (i = j))) H
  | .ref a, .ref b => rEqD K (.ref a) (.ref b) H Q
  | x, y => scal x y = true ∧ Q (.bl (decide (x = y))) H
def yNe (K : PySem.W.Frag) : R2 := fun x y H Q => match x, y with
  | .int i, .int j => Q (.bl (!decide (i = j))) H
  | .str i, .str j => Q (.bl (!decide (i = j))) H
  | .bl i, .bl j => Q (.bl (!decide (i = j))) H
  | .ref a, .ref b => rNeD K (.ref a) (.ref b) H Q
  | x, y => scal x y = true ∧ Q (.bl (!decide (x = y))) H
theorem deci {i j : Int} : decide (V.int i = V.int j) = decide (i = j) := by by_cases h : i = j <;> simp [h]
theorem decs {i j : Str} : decide (V.str i = V.str j) = decide (i = j) := by by_cases h : i = j <;> simp [h]
theorem decb {i j : Bool} : decide (V.bl i = V.bl j) = decide (i = j) := by by_cases h : i = j <;> simp [h]
theorem op_eqY (hu : X.A.units + 64 < cLine) : OpR X (compareOp .Eq) (yEq X.K) := by
  refine or_str (OpR.or (op_eq (X := X)) (op_eqD hu)) fun x y H Q h => ?_
  unfold yEq at h
  split at h
  · exact .inl ⟨rfl, by rw [deci]; exact h⟩
  · exact .inl ⟨rfl, by rw [decs]; exact h⟩
  · exact .inl ⟨rfl, by rw [decb]; exact h⟩
  · exact .inr h
  · exact .inl h
theorem op_neY (hu : X.A.units + 64 < cLine) : OpR X (compareOp .NotEq) (yNe X.K) := by
  refine or_str (OpR.or (op_ne (X := X)) (op_neD hu)) fun x y H Q h => ?_
  unfold yNe at h
  split at h
  · exact .inl ⟨rfl, by rw [deci]; exact h⟩
  · exact .inl ⟨rfl, by rw [decs]; exact h⟩
  · exact .inl ⟨rfl, by rw [decb]; exact h⟩
  · exact .inr h
  · exact .inl h

/-! ### tests -/
/-- a bool as a test -/
def xB (t : TE) : TT := fun σ H Q => t σ H fun x H1 => match x with
  | .bl c => Q c H1
  | _ => False
theorem pe_mono {X : Cx} {e : Expr} {t : TE} (_h : PE X e t) : True := trivial
theorem xt_cmp {op : CmpOp} {r : R2} (ho : OpR X (compareOp op) r) (ha : PE X a ta) (hb : PE X b tb) (hm : behindInMarks op b = false) : PT X (.Compare a [op] [b] pos) (xB (tOp r ta tb)) := by
  refine ⟨fun pins s σ H Q I h => ?_⟩
  refine wpAny_isTrue_Compare1 (thn (ha.run pins s σ H _ I h) fun v s1 ⟨x, H1, I1, r1, q1⟩ => thn (hb.run pins s1 σ H1 _ I1 q1) fun u s2 ⟨y, H2, I2, r2, q2⟩ =>
    thn (ho pins s2 σ H2 x y v u _ I2 r1 r2 q2) fun c s3 ⟨z, H3, I3, r3, q3⟩ => ?_) hm
  cases z with
  | bl k =>
    cases r3
    exact wpAny_truthy_bool ⟨H3, I3, q3⟩
  | _ => exact False.elim q3
theorem xt_val {e : Expr} {t : TE} (h : PE X e t) (he : ∀ whole, isTrue e X.env whole = (do let v ← whole; standAt e.pos; holding [v] (truthy v)) := by intro _; rfl) : PT X e (xB t) := by
  refine ⟨fun pins s σ H Q I hw => ?_⟩
  refine isTrue_plain (thn (h.run pins s σ H _ I hw) fun v s1 ⟨x, H1, I1, r1, q1⟩ => ?_) (he _)
  cases x with
  | bl k =>
    cases r1
    exact wpAny_truthy_bool ⟨H1, I1, q1⟩
  | _ => exact False.elim q1
/-- the truth of a value -/
def yTru (K : PySem.W.Frag) (x : V) (H : Hp) (Q : Bool → Hp → Prop) : Prop := match x with
  | .bl c => Q c H
  | .int i => Q (i != 0) H
  | .non => Q false H
  | x => ∃ k, TruV K x H k ∧ Q k H
def xTru (K : PySem.W.Frag) (t : TE) : TT := fun σ H Q => t σ H fun x H1 => yTru K x H1 Q
theorem xt_tru (ha : PE X a ta) (he : ∀ whole, isTrue a X.env whole = (do let v ← whole; standAt a.pos; holding [v] (truthy v)) := by intro _; rfl) : PT X a (xTru X.K ta) := by
  have hq : PE X a (fun σ H Q => ta σ H Q) := ha
  refine ⟨fun pins s σ H Q I hw => ?_⟩
  refine isTrue_plain (thn (ha.run pins s σ H _ I hw) fun v s1 ⟨x, H1, I1, r1, q1⟩ => ?_) (he _)
  have q2 : ∃ k, TruV X.K x H1 k ∧ Q k H1 := by
    change yTru X.K x H1 Q at q1
    unfold yTru at q1
    split at q1
    · exact ⟨_, rfl, q1⟩
    · exact ⟨_, rfl, q1⟩
    · exact ⟨_, rfl, q1⟩
    · exact q1
  exact tru_ok pins s1 σ H1 x v Q I1 r1 q2
def xAnd (t u : TT) : TT := fun σ H Q => t σ H fun c H1 => (c = true → u σ H1 Q) ∧ (c = false → Q false H1)
def xOr (t u : TT) : TT := fun σ H Q => t σ H fun c H1 => (c = true → Q true H1) ∧ (c = false → u σ H1 Q)
theorem xw_and (ha : PT X a tA) (hb : PW X (.BoolOp .And (b :: rest) pos) tB') : PW X (.BoolOp .And (a :: b :: rest) pos) (xAnd tA tB') := by
  refine ⟨fun wh pins s0 σ H Q J h => ?_⟩
  refine isTrue_and (thn (ha.run pins s0 σ H _ J h) fun k s2 ⟨H2, J2, q2⟩ => ?_)
  cases k with
  | true => exact hb.run wh pins s2 σ H2 Q J2 (q2.1 rfl)
  | false => exact ⟨H2, J2, q2.2 rfl⟩
theorem xw_or (ha : PT X a tA) (hb : PW X (.BoolOp .Or (b :: rest) pos) tB') : PW X (.BoolOp .Or (a :: b :: rest) pos) (xOr tA tB') := by
  refine ⟨fun wh pins s0 σ H Q J h => ?_⟩
  refine isTrue_or (thn (ha.run pins s0 σ H _ J h) fun k s2 ⟨H2, J2, q2⟩ => ?_)
  cases k with
  | true => exact ⟨H2, J2, q2.1 rfl⟩
  | false => exact hb.run wh pins s2 σ H2 Q J2 (q2.2 rfl)
/-- and, or, not as values: of bools -/
def xAndV (ta tb : TE) : TE := fun σ H Q => ta σ H fun x H1 => match x with
  | .bl c => (c = true → tb σ H1 Q) ∧ (c = false → Q (.bl false) H1)
  | _ => False
def xOrV (ta tb : TE) : TE := fun σ H Q => ta σ H fun x H1 => match x with
  | .bl c => (c = true → Q (.bl true) H1) ∧ (c = false → tb σ H1 Q)
  | _ => False
def xNotV (ta : TE) : TE := fun σ H Q => ta σ H fun x H1 => match x with
  | .bl c => Q (.bl (!c)) H1
  | _ => False
theorem xe_and (ha : PE X a ta) (hb : PE X (.BoolOp .And (b :: rest) pos) tb) : PE X (.BoolOp .And (a :: b :: rest) pos) (xAndV ta tb) := by
  refine ⟨fun pins s0 σ H Q J h => ?_⟩
  refine BoolOp_and (thn (ha.run pins s0 σ H _ J h) fun v s2 ⟨x, H2, J2, r2, q2⟩ => ?_)
  cases x with
  | bl k =>
    cases r2
    refine wpAny_truthy_bool ?_
    cases k with
    | true => exact hb.run pins s2 σ H2 Q J2 (q2.1 rfl)
    | false => exact ⟨.bl false, H2, J2, rfl, q2.2 rfl⟩
  | _ => exact False.elim q2
theorem xe_or (ha : PE X a ta) (hb : PE X (.BoolOp .Or (b :: rest) pos) tb) : PE X (.BoolOp .Or (a :: b :: rest) pos) (xOrV ta tb) := by
  refine ⟨fun pins s0 σ H Q J h => ?_⟩
  refine BoolOp_or (thn (ha.run pins s0 σ H _ J h) fun v s2 ⟨x, H2, J2, r2, q2⟩ => ?_)
  cases x with
  | bl k =>
    cases r2
    refine wpAny_truthy_bool ?_
    cases k with
    | true => exact ⟨.bl true, H2, J2, rfl, q2.1 rfl⟩
    | false => exact hb.run pins s2 σ H2 Q J2 (q2.2 rfl)
  | _ => exact False.elim q2
theorem xe_not (ha : PE X a ta) : PE X (.UnaryOp .Not a pos) (xNotV ta) := by
  refine ⟨fun pins s0 σ H Q J h => ?_⟩
  refine UnaryOp_ (thn (ha.run pins s0 σ H _ J h) fun v s2 ⟨x, H2, J2, r2, q2⟩ => ?_)
  cases x with
  | bl k =>
    cases r2
    exact not_of (wpAny_truthy_bool ⟨.bl (!k), H2, J2, rfl, q2⟩)
  | _ => exact False.elim q2
/-- a if t else b -/
def xIf (t : TT) (ta tb : TE) : TE := fun σ H Q => t σ H fun c H1 => (c = true → ta σ H1 Q) ∧ (c = false → tb σ H1 Q)
theorem xe_if {c : Expr} (hc : PT X c tA) (ha : PE X a ta) (hb : PE X b tb) : PE X (.IfExp c a b pos) (xIf tA ta tb) := by
  refine ⟨fun pins s0 σ H Q J h => ?_⟩
  refine wpAny_IfExp (thn (hc.run pins s0 σ H _ J h) fun k s2 ⟨H2, J2, q2⟩ => ?_)
  cases k with
  | true => exact ha.run pins s2 σ H2 Q J2 (q2.1 rfl)
  | false => exact hb.run pins s2 σ H2 Q J2 (q2.2 rfl)
/-- if t: .. else: .. -/
def xIfS (c : TT) (t u : TS) : TS := fun D σ H => c σ H fun b H1 => (b = true → t D σ H1) ∧ (b = false → u D σ H1)
theorem xs_if {c : Expr} {as bs : List Stmt} {tc : TT} {t u : TS} (hc : PT X c tc) (ha : PSs X as t) (hb : PSs X bs u) : PS X (.If c as bs pos) (xIfS tc t u) := by
  refine ⟨fun pins s0 σ H D J h => ?_⟩
  refine wpAny_If (thn (hc.run pins s0 σ H _ J h) fun k s2 ⟨H2, J2, q2⟩ => ?_)
  cases k with
  | true => exact ha.run pins s2 σ H2 D J2 (q2.1 rfl)
  | false => exact hb.run pins s2 σ H2 D J2 (q2.2 rfl)

/-! ### calls of built-ins -/
def yLen (K : PySem.W.Frag) : List V → Hp → VK → Prop := fun xs H Q => match xs with
  | [.str y] => y.length ≤ sizeLine ∧ Q (.int y.length) H
  | [.ref p] => ∃ ys, (SqL K H p ys ∨ SqT K H p ys) ∧ Q (.int ys.length) H
  | _ => False
theorem cr_len : CallR X (.builtin "len") (yLen X.K) := by
  refine cr_str (call_len (X := X)) fun xs H Q h => ?_
  unfold yLen at h
  split at h
  · exact ⟨_, _, rfl, ⟨h.1, rfl⟩, h.2⟩
  · obtain ⟨ys, hy, q⟩ := h
    rcases hy with hy | hy
    · exact ⟨_, _, rfl, .inl ⟨ys, hy, rfl⟩, q⟩
    · exact ⟨_, _, rfl, .inr ⟨ys, hy, rfl⟩, q⟩
  · exact h.elim
def yInt : List V → Hp → VK → Prop := fun xs H Q => match xs with
  | [.int i] => Q (.int i) H
  | [.bl k] => Q (.int (if k then 1 else 0)) H
  | [.str z] => ∃ n, PySem.intText? z = some n ∧ z.length ≤ 640 ∧ Q (.int n) H
  | _ => False
theorem cr_int : CallR X (.type "int") yInt := by
  refine cr_str (CallR.or (call_int1 (X := X)) (call_int_str (X := X))) fun xs H Q h => ?_
  unfold yInt at h
  split at h
  · exact .inl (.inl ⟨_, rfl, h⟩)
  · exact .inl (.inr ⟨_, rfl, h⟩)
  · obtain ⟨n, h1, h2, q⟩ := h
    exact .inr ⟨_, n, rfl, h1, h2, q⟩
  · exact h.elim
def yAbs : List V → Hp → VK → Prop := fun xs H Q => match xs with
  | [.int i] => Q (.int i.natAbs) H
  | _ => False
theorem cr_abs : CallR X (.builtin "abs") yAbs := by
  refine cr_str (call_abs (X := X)) fun xs H Q h => ?_
  unfold yAbs at h
  split at h
  · rename_i i
    refine ⟨i, rfl, ?_⟩
    have e : (if i < 0 then -i else i) = (i.natAbs : Int) := by split <;> omega
    rw [e]
    exact h
  · exact h.elim
def yStr : List V → Hp → VK → Prop := fun xs H Q => match xs with
  | [.int i] => i.natAbs.log2 < 1920 ∧ Q (.str (toString i)) H
  | _ => False
theorem cr_strI : CallR X (.type "str") yStr := by
  refine cr_str (call_str_int (X := X)) fun xs H Q h => ?_
  unfold yStr at h
  split at h
  · exact ⟨_, rfl, h.1, h.2⟩
  · exact h.elim
def yIx (K : PySem.W.Frag) : R2 := fun x y H Q => match x, y with
  | .ref p, .int i => ∃ xs v, (SqL K H p xs ∨ SqT K H p xs) ∧ atI xs i = some v ∧ Q v H
  | .str z, .int i => ∃ c, z.length ≤ sizeLine ∧ atI z.cps.toList i = some c ∧ Q (.str ⟨#[c]⟩) H
  | _, _ => False
theorem ix_y : IxR X (yIx X.K) := by
  intro value slice pins s σ H x y v u Q I rx ry h hs
  refine ix_seq (X := X) value slice pins s σ H x y v u Q I rx ry ?_ hs
  unfold yIx at h
  split at h
  · obtain ⟨xs, z, h1, h2, q⟩ := h
    rcases h1 with h1 | h1
    · exact .inl ⟨_, xs, _, z, rfl, rfl, h1, h2, q⟩
    · exact .inr (.inl ⟨_, xs, _, z, rfl, rfl, h1, h2, q⟩)
  · obtain ⟨k, h1, h2, q⟩ := h
    exact .inr (.inr ⟨_, _, k, rfl, rfl, h1, h2, q⟩)
  · exact h.elim
end

/-! ### the heap: what only grows, and the cells that change -/
def Sep (G : Hp) (M : List (Addr × HO)) (H : Hp) : Prop := Same G H ∧ (∀ p ∈ M, H p.1 = some p.2 ∧ G p.1 = none) ∧ (M.map (·.1)).Nodup
section
variable {G G' H H' : Hp} {M : List (Addr × HO)} {p a b : Addr} {o o' u : HO}
theorem same_upd (h : H p = none) : Same H (upd H p o) := fun b x e => by
  rw [upd_ne (ne_of_none e h)]
  exact e
theorem sep0 : Sep H [] H := ⟨Same.refl H, (fun _ h => nomatch h), List.nodup_nil⟩
theorem Sep.st (S : Sep G M H) (h : G a = some o) : H a = some o := S.1 a o h
theorem Sep.hd (S : Sep G ((a, o) :: M) H) : H a = some o := (S.2.1 _ List.mem_cons_self).1
theorem Sep.at (S : Sep G M H) (h : (a, o) ∈ M) : H a = some o := (S.2.1 _ h).1
theorem Sep.fresh (S : Sep G M H) (h : H p = none) : G p = none := S.1.free h
theorem Sep.new (S : Sep G M H) (h : H p = none) : Sep G ((p, o) :: M) (upd H p o) := by
  refine ⟨S.1.trans (same_upd h), fun q hq => ?_, ?_⟩
  · rcases List.mem_cons.mp hq with rfl | hq
    · exact ⟨upd_same, S.fresh h⟩
    · exact ⟨same_upd h _ _ (S.2.1 q hq).1, (S.2.1 q hq).2⟩
  · rw [List.map_cons, List.nodup_cons]
    refine ⟨fun hm => ?_, S.2.2⟩
    obtain ⟨q, hq, e⟩ := List.mem_map.mp hm
    have z := (S.2.1 q hq).1
    rw [e, h] at z
    cases z
theorem Sep.newG (S : Sep G M H) (h : H p = none) : Sep (upd G p o) M (upd H p o) := by
  refine ⟨fun b x e => ?_, fun q hq => ?_, S.2.2⟩
  · by_cases hb : b = p
    · subst hb
      rw [upd_same] at e ⊢
      exact e
    · rw [upd_ne hb] at e ⊢
      exact S.1 b x e
  · have z := S.2.1 q hq
    refine ⟨same_upd h _ _ z.1, ?_⟩
    rw [upd_ne (ne_of_none z.1 h)]
    exact z.2
theorem Sep.grow (S : Sep G M H) (h : H p = none) : Same G (upd G p o) := same_upd (S.fresh h)
theorem Sep.set (S : Sep G ((a, o) :: M) H) : Sep G ((a, o') :: M) (upd H a o') := by
  have hn := S.2.2
  rw [List.map_cons, List.nodup_cons] at hn
  have ha := S.2.1 _ List.mem_cons_self
  refine ⟨fun b x e => ?_, fun q hq => ?_, S.2.2⟩
  · rw [upd_ne (ne_of_none e ha.2)]
    exact S.1 b x e
  · rcases List.mem_cons.mp hq with rfl | hq
    · exact ⟨upd_same, ha.2⟩
    · refine ⟨?_, (S.2.1 q (List.mem_cons_of_mem _ hq)).2⟩
      rw [upd_ne (show q.1 ≠ a from fun e => hn.1 (by have z : q.1 ∈ M.map (·.1) := List.mem_map_of_mem hq
                                                      rw [e] at z; exact z))]
      exact (S.2.1 q (List.mem_cons_of_mem _ hq)).1
theorem Sep.frz (S : Sep G ((a, o) :: M) H) : Sep (upd G a o) M H := by
  have hn := S.2.2
  rw [List.map_cons, List.nodup_cons] at hn
  have ha := S.2.1 _ List.mem_cons_self
  refine ⟨fun b x e => ?_, fun q hq => ?_, hn.2⟩
  · by_cases hb : b = a
    · subst hb
      rw [upd_same] at e
      cases e
      exact ha.1
    · rw [upd_ne hb] at e
      exact S.1 b x e
  · have z := S.2.1 q (List.mem_cons_of_mem _ hq)
    refine ⟨z.1, ?_⟩
    rw [upd_ne (show q.1 ≠ a from fun e => hn.1 (by have z : q.1 ∈ M.map (·.1) := List.mem_map_of_mem hq
                                                    rw [e] at z; exact z))]
    exact z.2
theorem Sep.none (S : Sep G ((a, o) :: M) H) : G a = none := (S.2.1 _ List.mem_cons_self).2
theorem Sep.frzS (S : Sep G ((a, o) :: M) H) : Same G (upd G a o) := same_upd S.none
theorem Sep.drop {q : Addr × HO} (S : Sep G (q :: M) H) : Sep G M H := by
  have hn := S.2.2
  rw [List.map_cons, List.nodup_cons] at hn
  exact ⟨S.1, fun p hp => S.2.1 p (List.mem_cons_of_mem _ hp), hn.2⟩
theorem Sep.perm {M' : List (Addr × HO)} (S : Sep G M H) (h : M.Perm M') : Sep G M' H :=
  ⟨S.1, fun q hq => S.2.1 q (h.mem_iff.mpr hq), (h.map _).nodup_iff.mp S.2.2⟩
theorem Sep.sw {q r : Addr × HO} (S : Sep G (q :: r :: M) H) : Sep G (r :: q :: M) H := S.perm (List.Perm.swap _ _ _)
theorem same_l {K : PySem.W.Frag} {xs : List V} (e : Same H H') (h : SqL K H a xs) : SqL K H' a xs := e.seq h
theorem same_t {K : PySem.W.Frag} {xs : List V} (e : Same H H') (h : SqT K H a xs) : SqT K H' a xs := by
  rcases h with (h | ⟨o, h⟩) | h
  · exact .inl (.inl (e _ _ h))
  · exact .inl (.inr ⟨o, e _ _ h⟩)
  · exact .inr h
theorem Sep.l {K : PySem.W.Frag} {xs : List V} (S : Sep G M H) (h : SqL K G a xs) : SqL K H a xs := same_l S.1 h
theorem Sep.t {K : PySem.W.Frag} {xs : List V} (S : Sep G M H) (h : SqT K G a xs) : SqT K H a xs := same_t S.1 h
end
mutual
theorem dp_same {K : PySem.W.Frag} {H H' : Hp} (e : Same H H') : ∀ {d : PyData} {v : V}, Dp K H v d → Dp K H' v d
  | _, _, .non => .non
  | _, _, .bl b => .bl b
  | _, _, .int i => .int i
  | _, _, .str x => .str x
  | _, _, .lst h hs => .lst (same_l e h) (dpa_same e hs)
  | _, _, .tup h hs => .tup (same_t e h) (dpa_same e hs)
theorem dpa_same {K : PySem.W.Frag} {H H' : Hp} (e : Same H H') : ∀ {ds : List PyData} {vs : List V}, DpAll K H vs ds → DpAll K H' vs ds
  | _, _, .nil => .nil
  | _, _, .cons h hs => .cons (dp_same e h) (dpa_same e hs)
end

/-! ### loops by what has been gone through -/
theorem take_pre {α : Type} {xs : List α} {i : Nat} {x : α} (h : xs[i]? = some x) : xs = xs.take i ++ x :: xs.drop (i + 1) ∧ xs.take (i + 1) = xs.take i ++ [x] := by
  have hi : i < xs.length := (List.getElem?_eq_some_iff.mp h).1
  have e : xs[i] = x := (List.getElem?_eq_some_iff.mp h).2
  refine ⟨?_, ?_⟩
  · rw [← e, List.getElem_cons_drop, List.take_append_drop]
  · rw [List.take_add_one, h]
    rfl
section
variable {K : PySem.W.Frag} {a : Addr} {xs : List V} {g : TG} {tb : TS} {D : Ends} {σ : L2.St} {H : Hp}
theorem for_pre (Pv : List V → L2.St → Hp → Prop) (h0 : Pv [] σ H) (hl : ∀ pre σ H, Pv pre σ H → SqL K H a xs)
    (hs : ∀ pre x post σ H, xs = pre ++ x :: post → Pv pre σ H → g x σ H fun σ2 H2 => tb { D with nx := Pv (pre ++ [x]), ct := Pv (pre ++ [x]), bk := D.nx } σ2 H2) (hd : ∀ σ H, Pv xs σ H → D.nx σ H) :
    ∃ W : Nat → Nat → L2.St → Hp → Prop, (∃ m, W 0 m σ H) ∧ ∀ i m σ H, W i m σ H →
      ((Itl K a).stop i H ∧ D.nx σ H) ∨ ((Itl K a).go i H ∧ ∃ N : L2.St → Hp → Prop, (∀ σ' H', N σ' H' → ∃ m', m' < m ∧ W (i + 1) m' σ' H') ∧ ∀ x H', (Itl K a).yld i H x H' → g x σ H' fun σ2 H2 => tb { D with nx := N, ct := N, bk := D.nx } σ2 H2) :=
  for_list (fun i => Pv (xs.take i)) h0 (fun i σ H _ p => hl _ σ H p) (fun i x σ H hx p => by
    rw [(take_pre hx).2]
    exact hs _ x _ σ H (take_pre hx).1 p) (fun σ H p => hd σ H (by rw [List.take_length] at p; exact p))
theorem for_preT (Pv : List V → L2.St → Hp → Prop) (h0 : Pv [] σ H) (hl : ∀ pre σ H, Pv pre σ H → SqT K H a xs)
    (hs : ∀ pre x post σ H, xs = pre ++ x :: post → Pv pre σ H → g x σ H fun σ2 H2 => tb { D with nx := Pv (pre ++ [x]), ct := Pv (pre ++ [x]), bk := D.nx } σ2 H2) (hd : ∀ σ H, Pv xs σ H → D.nx σ H) :
    ∃ W : Nat → Nat → L2.St → Hp → Prop, (∃ m, W 0 m σ H) ∧ ∀ i m σ H, W i m σ H →
      ((Itt K a).stop i H ∧ D.nx σ H) ∨ ((Itt K a).go i H ∧ ∃ N : L2.St → Hp → Prop, (∀ σ' H', N σ' H' → ∃ m', m' < m ∧ W (i + 1) m' σ' H') ∧ ∀ x H', (Itt K a).yld i H x H' → g x σ H' fun σ2 H2 => tb { D with nx := N, ct := N, bk := D.nx } σ2 H2) :=
  for_tup (fun i => Pv (xs.take i)) h0 (fun i σ H _ p => hl _ σ H p) (fun i x σ H hx p => by
    rw [(take_pre hx).2]
    exact hs _ x _ σ H (take_pre hx).1 p) (fun σ H p => hd σ H (by rw [List.take_length] at p; exact p))
/-- for i, x in enumerate(xs) -/
theorem for_enum {i j : Nat} (Pv : List V → L2.St → Hp → Prop) (h0 : Pv [] σ H) (hl : ∀ pre σ H, Pv pre σ H → SqL K H a xs)
    (hs : ∀ pre x post σ H T, xs = pre ++ x :: post → Pv pre σ H → H T = none →
      tb { D with nx := Pv (pre ++ [x]), ct := Pv (pre ++ [x]), bk := D.nx } ((σ.set i (some (.int (pre.length : Nat)))).set j (some x)) (upd H T (.tup [.int (pre.length : Nat), x]))) (hd : ∀ σ H, Pv xs σ H → D.nx σ H) :
    ∃ W : Nat → Nat → L2.St → Hp → Prop, (∃ m, W 0 m σ H) ∧ ∀ k m σ H, W k m σ H →
      ((Ite K a).stop k H ∧ D.nx σ H) ∨ ((Ite K a).go k H ∧ ∃ N : L2.St → Hp → Prop, (∀ σ' H', N σ' H' → ∃ m', m' < m ∧ W (k + 1) m' σ' H') ∧ ∀ x H', (Ite K a).yld k H x H' →
        (gTup K 2 (gCons (gName i) (gCons (gName j) gNil))) x σ H' fun σ2 H2 => tb { D with nx := N, ct := N, bk := D.nx } σ2 H2) := by
  refine ⟨fun k m σ H => m = xs.length - k ∧ k ≤ xs.length ∧ Pv (xs.take k) σ H, ⟨xs.length, by simp, Nat.zero_le _, h0⟩, ?_⟩
  rintro k m σ H ⟨rfl, hk, p⟩
  have q := hl _ σ H p
  by_cases hlt : k < xs.length
  · refine .inr ⟨⟨xs, xs[k], q, by simp [hlt]⟩, Pv (xs.take (k + 1)), fun σ' H' p' => ⟨xs.length - (k + 1), by omega, rfl, hlt, p'⟩, fun v H' y => ?_⟩
    obtain ⟨T, x, rfl, nT, rfl, hx⟩ := y
    have hx := hx xs q
    refine ⟨T, _, rfl, SqT.of upd_same, rfl, _, _, rfl, _, _, rfl, rfl, ?_⟩
    have z := hs _ x _ σ H T (take_pre hx).1 p nT
    rw [(take_pre hx).2]
    rw [show (xs.take k).length = k by rw [List.length_take]; omega] at z
    exact z
  · have e : k = xs.length := by omega
    subst e
    rw [List.take_length] at p
    exact .inl ⟨⟨xs, q, Nat.le_refl _⟩, hd σ H p⟩
/-- [e for x in xs] -/
theorem lc_pre {te : TE} {vs : List Nat} {i : Nat} {H1 : Hp} {L : Addr} {Qd : Hp → Prop} (Pv : List V → Hp → Prop) (h0 : Pv [] (upd H1 L (.lst []))) (hl : ∀ pre H, Pv pre H → SqL K H a xs)
    (hw : ∀ x, wipe ((wipe σ vs).set i (some x)) vs = wipe σ vs)
    (hs : ∀ pre x post H, xs = pre ++ x :: post → Pv pre H → te ((wipe σ vs).set i (some x)) H fun y H4 => ∃ acc, H4 L = some (.lst acc) ∧ acc.length < sizeLine ∧ Pv (pre ++ [x]) (upd H4 L (.lst (acc ++ [y])))) (hd : ∀ H, Pv xs H → Qd H) :
    ∃ W : Nat → Nat → Hp → Prop, (∃ m, W 0 m (upd H1 L (.lst []))) ∧ ∀ k m H, W k m H →
      ((Itl K a).stop k H ∧ Qd H) ∨ ((Itl K a).go k H ∧ ∃ Nx : Hp → Prop, (∀ H', Nx H' → ∃ m', m' < m ∧ W (k + 1) m' H') ∧ ∀ x H', (Itl K a).yld k H x H' → gName i x (wipe σ vs) H' fun σ2 H2 => wipe σ2 vs = wipe σ vs ∧ tYes σ2 H2 fun b H3 =>
        if b = true then te σ2 H3 fun y H4 => ∃ acc, H4 L = some (.lst acc) ∧ acc.length < sizeLine ∧ Nx (upd H4 L (.lst (acc ++ [y]))) else Nx H3) :=
  lc_list (fun k => Pv (xs.take k)) h0 (fun k H _ p => hl _ H p) (fun k x H hx p => ⟨hw x, by
    rw [(take_pre hx).2]
    exact hs _ x _ H (take_pre hx).1 p⟩) (fun H p => hd H (by rw [List.take_length] at p; exact p))
/-- [e for x in range(n)] -/
theorem lc_rng {te : TE} {vs : List Nat} {i : Nat} {n : Nat} {lo : Int} {H1 : Hp} {L : Addr} {Qd : Hp → Prop} (Pv : Nat → Hp → Prop) (h0 : Pv 0 (upd H1 L (.lst [])))
    (hw : ∀ x, wipe ((wipe σ vs).set i (some x)) vs = wipe σ vs)
    (hs : ∀ k H, k < n → Pv k H → te ((wipe σ vs).set i (some (.int (lo + k)))) H fun y H4 => ∃ acc, H4 L = some (.lst acc) ∧ acc.length < sizeLine ∧ Pv (k + 1) (upd H4 L (.lst (acc ++ [y])))) (hd : ∀ H, Pv n H → Qd H) :
    ∃ W : Nat → Nat → Hp → Prop, (∃ m, W 0 m (upd H1 L (.lst []))) ∧ ∀ k m H, W k m H →
      ((Itr lo n).stop k H ∧ Qd H) ∨ ((Itr lo n).go k H ∧ ∃ Nx : Hp → Prop, (∀ H', Nx H' → ∃ m', m' < m ∧ W (k + 1) m' H') ∧ ∀ x H', (Itr lo n).yld k H x H' → gName i x (wipe σ vs) H' fun σ2 H2 => wipe σ2 vs = wipe σ vs ∧ tYes σ2 H2 fun b H3 =>
        if b = true then te σ2 H3 fun y H4 => ∃ acc, H4 L = some (.lst acc) ∧ acc.length < sizeLine ∧ Nx (upd H4 L (.lst (acc ++ [y]))) else Nx H3) :=
  lc_range (lo := lo) (n := n) Pv h0 (fun k H hk p => ⟨hw _, hs k H hk p⟩) hd
end
/-! ### places of lists -/
theorem atI_in {α : Type} {xs : List α} {i : Int} (h0 : 0 ≤ i) (h1 : i < xs.length) : ∃ v, atI xs i = some v ∧ v ∈ xs := by
  obtain ⟨j, rfl⟩ : ∃ j : Nat, i = (j : Int) := ⟨i.toNat, by omega⟩
  have hj : j < xs.length := by omega
  exact ⟨xs[j], atI_nat (List.getElem?_eq_getElem hj), List.getElem_mem hj⟩
theorem small {n : Nat} (h : n ≤ 100000) : n ≤ sizeLine := Nat.le_trans h (by decide)
theorem smallL {n : Nat} (h : n < 100000) : n < sizeLine := Nat.lt_of_lt_of_le h (by decide)
theorem sz {n : Nat} (h : Nat.ble n 100000 = true := by rfl) : n ≤ sizeLine := small (Nat.le_of_ble_eq_true h)
theorem seqIdx {i : Int} {n : Nat} (h0 : 0 ≤ i) (h1 : i < n) : seqIndex? i n = some i.toNat := by
  unfold seqIndex?
  have e : (if i < 0 then i + n else i) = i := by rw [if_neg (by omega)]
  simp only [e]
  rw [if_pos (by simp; omega)]
theorem atN {α : Type} {xs : List α} {i : Int} {v : α} (h0 : 0 ≤ i) (h : atI xs i = some v) : xs[i.toNat]? = some v := by
  obtain ⟨j, rfl⟩ : ∃ j : Nat, i = (j : Int) := ⟨i.toNat, by omega⟩
  unfold atI ixN at h
  rw [if_pos (by omega)] at h
  split at h
  · simpa using h
  · cases h
theorem mem_erase {α : Type} {xs : List α} {k : Nat} {y : α} (h : y ∈ xs.eraseIdx k) : y ∈ xs := List.mem_of_mem_eraseIdx h
/-- the i-th of a paired list -/
theorem prd_get {α β : Type} {F : α → β → Prop} : ∀ {xs : List α} {ys : List β} {i : Nat} {x : α}, Paired F xs ys → xs[i]? = some x → ∃ y, ys[i]? = some y ∧ F x y
  | _, _, _, _, .nil, h => by simp at h
  | _, _, 0, _, .cons r _, h => by
    simp at h
    subst h
    exact ⟨_, rfl, r⟩
  | _, _, i + 1, _, .cons _ t, h => by
    rw [List.getElem?_cons_succ] at h
    obtain ⟨y, h1, h2⟩ := prd_get t h
    exact ⟨y, by rw [List.getElem?_cons_succ]; exact h1, h2⟩
theorem prd_len {α β : Type} {F : α → β → Prop} : ∀ {xs : List α} {ys : List β}, Paired F xs ys → xs.length = ys.length
  | _, _, .nil => rfl
  | _, _, .cons _ t => congrArg (· + 1) (prd_len t)
theorem prd_imp {α β : Type} {F F' : α → β → Prop} (k : ∀ x y, F x y → F' x y) : ∀ {xs : List α} {ys : List β}, Paired F xs ys → Paired F' xs ys
  | _, _, .nil => .nil
  | _, _, .cons r t => .cons (k _ _ r) (prd_imp k t)
theorem prd_app {α β : Type} {F : α → β → Prop} : ∀ {xs xs' : List α} {ys ys' : List β}, Paired F xs ys → Paired F xs' ys' → Paired F (xs ++ xs') (ys ++ ys')
  | _, _, _, _, .nil, s => s
  | _, _, _, _, .cons r t, s => .cons r (prd_app t s)
theorem prd_take {α β : Type} {F : α → β → Prop} : ∀ {xs : List α} {ys : List β} (n : Nat), Paired F xs ys → Paired F (xs.take n) (ys.take n)
  | _, _, 0, _ => .nil
  | _, _, _ + 1, .nil => .nil
  | _, _, n + 1, .cons r t => .cons r (prd_take n t)
/-- each has a partner -/
theorem prd_ex {α β : Type} {F : α → β → Prop} : ∀ {xs : List α}, (∀ x ∈ xs, ∃ y, F x y) → ∃ ys, Paired F xs ys
  | [], _ => ⟨[], .nil⟩
  | x :: r, h => by
    obtain ⟨y, hy⟩ := h x List.mem_cons_self
    obtain ⟨ys, hs⟩ := prd_ex fun x hx => h x (List.mem_cons_of_mem _ hx)
    exact ⟨y :: ys, .cons hy hs⟩
theorem prd_mem {α β : Type} {F : α → β → Prop} {x : α} : ∀ {xs : List α} {ys : List β}, Paired F xs ys → x ∈ xs → ∃ y ∈ ys, F x y
  | _, _, .nil, h => nomatch h
  | _, _, .cons (b := b) r t, h => by
    rcases List.mem_cons.mp h with rfl | h
    · exact ⟨b, List.mem_cons_self, r⟩
    · obtain ⟨y, h1, h2⟩ := prd_mem t h
      exact ⟨y, List.mem_cons_of_mem _ h1, h2⟩
/-- a statement and what follows it, with a word J between them -/
def xCut (t u : TS) : TS := fun D σ H => ∃ J : L2.St → Hp → Prop, t { D with nx := J } σ H ∧ ∀ σ' H', J σ' H' → u D σ' H'
theorem xss_cut {X : Cx} {st : Stmt} {sts : List Stmt} {t u : TS} (h1 : PS X st t) (h2 : PSs X sts u) : PSs X (st :: sts) (xCut t u) := by
  refine ⟨fun pins s0 σ H D I h => ?_⟩
  obtain ⟨J, hj, hu⟩ := h
  refine wpAny_execs_cons (thn (h1.run pins s0 σ H { D with nx := J } I hj) fun fl s2 q => ?_)
  cases fl with
  | next =>
    obtain ⟨σ2, H2, I2, q2⟩ := q
    exact h2.run pins s2 σ2 H2 D I2 (hu σ2 H2 q2)
  | _ => exact q
section
variable {K : PySem.W.Frag} {a : Addr} {xs : List V} {σ : L2.St}
/-- [e for x in xs], by the turn -/
theorem lc_at {te : TE} {vs : List Nat} {i : Nat} {H1 : Hp} {L : Addr} {Qd : Hp → Prop} (Pv : Nat → Hp → Prop) (h0 : Pv 0 (upd H1 L (.lst []))) (hl : ∀ k H, Pv k H → SqL K H a xs)
    (hw : ∀ x, wipe ((wipe σ vs).set i (some x)) vs = wipe σ vs)
    (hs : ∀ k x H, xs[k]? = some x → Pv k H → te ((wipe σ vs).set i (some x)) H fun y H4 => ∃ acc, H4 L = some (.lst acc) ∧ acc.length < sizeLine ∧ Pv (k + 1) (upd H4 L (.lst (acc ++ [y])))) (hd : ∀ H, Pv xs.length H → Qd H) :
    ∃ W : Nat → Nat → Hp → Prop, (∃ m, W 0 m (upd H1 L (.lst []))) ∧ ∀ k m H, W k m H →
      ((Itl K a).stop k H ∧ Qd H) ∨ ((Itl K a).go k H ∧ ∃ Nx : Hp → Prop, (∀ H', Nx H' → ∃ m', m' < m ∧ W (k + 1) m' H') ∧ ∀ x H', (Itl K a).yld k H x H' → gName i x (wipe σ vs) H' fun σ2 H2 => wipe σ2 vs = wipe σ vs ∧ tYes σ2 H2 fun b H3 =>
        if b = true then te σ2 H3 fun y H4 => ∃ acc, H4 L = some (.lst acc) ∧ acc.length < sizeLine ∧ Nx (upd H4 L (.lst (acc ++ [y]))) else Nx H3) :=
  lc_list Pv h0 (fun k H _ p => hl _ H p) (fun k x H hx p => ⟨hw x, hs _ x H hx p⟩) hd
end
theorem take_snoc {α : Type} {xs : List α} {i : Nat} {x : α} (h : xs[i]? = some x) : xs.take (i + 1) = xs.take i ++ [x] := (take_pre h).2
theorem ff {A : Prop} (h : false = true) : A := nomatch h
theorem tt {A : Prop} (h : true = false) : A := nomatch h
/-! ### the same with the written part K said (within a comprehension the reading must not name its context) -/
section
variable {X : Cx} (K : PySem.W.Frag) {a b e o : Expr} {es : List Expr} {ta tb te to : TE} {t : TA} {pos : Pos} {tg : Expr}
theorem ix_k (h : X.K = K := by rfl) : IxR X (yIx K) := h ▸ ix_y
theorem cr_lenK (h : X.K = K := by rfl) : CallR X (.builtin "len") (yLen K) := h ▸ cr_len
theorem op_eqK (hu : X.A.units + 64 < cLine) (h : X.K = K := by rfl) : OpR X (compareOp .Eq) (yEq K) := h ▸ op_eqY hu
theorem op_neK (hu : X.A.units + 64 < cLine) (h : X.K = K := by rfl) : OpR X (compareOp .NotEq) (yNe K) := h ▸ op_neY hu
theorem xt_truK (ha : PE X a ta) (h : X.K = K := by rfl) (he : ∀ whole, isTrue a X.env whole = (do let v ← whole; standAt a.pos; holding [v] (truthy v)) := by intro _; rfl) : PT X a (xTru K ta) := h ▸ xt_tru ha he
theorem call_isK (h : X.K = K := by rfl) : CallR X (.builtin "isinstance") (rIsi K) := h ▸ call_isi
def yList (K : PySem.W.Frag) : List V → Hp → VK → Prop := fun xs H Q => ∃ p ys, xs = [.ref p] ∧ (SqL K H p ys ∨ SqT K H p ys) ∧ ∀ l, H l = none → Q (.ref l) (upd H l (.lst ys))
theorem call_listK (h : X.K = K := by rfl) : CallR X (.type "list") (yList K) := h ▸ call_list_of
def yTup (K : PySem.W.Frag) : List V → Hp → VK → Prop := fun xs H Q => ∃ p ys, xs = [.ref p] ∧ ((SqL K H p ys ∧ ∀ l, H l = none → Q (.ref l) (upd H l (.tup ys))) ∨ (SqT K H p ys ∧ Q (.ref p) H))
theorem call_tupleK (h : X.K = K := by rfl) : CallR X (.type "tuple") (yTup K) := h ▸ call_tuple_of
theorem cr_sumK (hc : X.calm = true) (h : X.K = K := by rfl) : CallR X (.builtin "sum") (rSum K) := h ▸ cr_sum hc
theorem sl_listK (h : X.K = K := by rfl) : SlR X (rSlL K) := h ▸ sl_list
theorem pi_listK (ha : PE X a ta) (h : X.K = K := by rfl) : PI X tg a (iList K ta) := h ▸ pi_list ha
theorem pi_tupK (ha : PE X a ta) (h : X.K = K := by rfl) : PI X tg a (iTup K ta) := h ▸ pi_tup ha
theorem pe_bmK {T id : String} {name : Str} {apos cpos : Pos} {r : V → List V → Hp → VK → Prop} (pa : PlainAttrs T) (slot : Slot T name id) (hty : typeOf (.builtin id) = pure (.type "method_descriptor")) (hm : MtR X id r) (ho : PE X o to) (ha : PA X (e :: es) t) (hK : X.K = K := by rfl)
    (hbase : attributeBase o name X.env (eval o X.env) = eval o X.env := by rfl)
    (hfew : ((backTo cpos (starEach (e :: es) X.env)).all (fun x => !x.1) && (backToKw cpos (keywordEach [] X.env)).all (fun x => x.1.isSome)
      && decide ((e :: es).length + ([] : List Keyword).length + (if ([] : List Keyword).isEmpty then 0 else 1) < 30)) = true := by rfl)
    (hline : (apos.endLine == cpos.line) = true := by rfl) (hs : starEach (e :: es) X.env = (false, eval e X.env) :: starEach es X.env := by rfl) (hplain : (backTo cpos (starEach es X.env)).any (·.1) = false := by rfl) :
    PE X (.Call (.Attribute o name apos) (e :: es) [] cpos) (tBM K T r to t) := hK ▸ pe_bm pa slot hty hm ho ha hbase hfew hline hs hplain
end
section
variable {X : Cx} {a b c o : Expr} {ta tb tc : TE} {pos : Pos}
/-- a op1 b op2 c, b asked once -/
def xChain (r r' : R2) (ta tb tc : TE) : TE := fun σ H Q => ta σ H fun x H1 => tb σ H1 fun y H2 => r x y H2 fun z H3 => match z with
  | .bl k => (k = true → tc σ H3 fun w' H4 => r' y w' H4 Q) ∧ (k = false → Q (.bl false) H3)
  | _ => False
theorem xe_chain {op op' : CmpOp} {r r' : R2} (ho : OpR X (compareOp op) r) (ho' : OpR X (compareOp op') r') (ha : PE X a ta) (hb : PE X b tb) (hc : PE X c tc)
    (hm : lastMarks [op, op'] [b, c] = false := by with_unfolding_all rfl) : PE X (.Compare a [op, op'] [b, c] pos) (xChain r r' ta tb tc) := by
  refine ⟨fun pins s0 σ H Q J h => ?_⟩
  refine Compare_chain (thn (ha.run pins s0 σ H _ J h) fun v s1 ⟨x, H1, J1, r1, q1⟩ => chain_link (thn (hb.run pins s1 σ H1 _ J1 q1) fun u s2 ⟨y, H2, J2, r2, q2⟩ =>
    thn (ho pins s2 σ H2 x y v u _ J2 r1 r2 q2) fun d s3 ⟨z, H3, J3, r3, q3⟩ => ?_)) hm
  cases z with
  | bl k =>
    cases r3
    refine wpAny_truthy_bool ?_
    cases k with
    | false => exact ite_ff ⟨.bl false, H3, J3, rfl, q3.2 rfl⟩
    | true => exact ite_tt (chain_last (thn (hc.run pins s3 σ H3 _ J3 (q3.1 rfl)) fun w' s4 ⟨z', H4, J4, r4, q4⟩ => ho' pins s4 σ H4 y z' u w' Q J4 r2 r4 q4))
  | _ => exact False.elim q3
theorem xt_chain {op op' : CmpOp} {r r' : R2} (ho : OpR X (compareOp op) r) (ho' : OpR X (compareOp op') r') (ha : PE X a ta) (hb : PE X b tb) (hc : PE X c tc)
    (hm : lastMarks [op, op'] [b, c] = false := by with_unfolding_all rfl) : PT X (.Compare a [op, op'] [b, c] pos) (xB (xChain r r' ta tb tc)) := by
  refine ⟨fun pins s0 σ H Q J h => ?_⟩
  refine isTrue_chain (thn (ha.run pins s0 σ H _ J h) fun v s1 ⟨x, H1, J1, r1, q1⟩ => test_link (thn (hb.run pins s1 σ H1 _ J1 q1) fun u s2 ⟨y, H2, J2, r2, q2⟩ =>
    thn (ho pins s2 σ H2 x y v u _ J2 r1 r2 q2) fun d s3 ⟨z, H3, J3, r3, q3⟩ => ?_)) hm
  cases z with
  | bl k =>
    cases r3
    refine wpAny_truthy_bool ?_
    cases k with
    | false => exact ite_ff ⟨H3, J3, q3.2 rfl⟩
    | true =>
      refine ite_tt (test_last (thn (hc.run pins s3 σ H3 _ J3 (q3.1 rfl)) fun w' s4 ⟨z', H4, J4, r4, q4⟩ => thn (ho' pins s4 σ H4 y z' u w' _ J4 r2 r4 q4) fun d' s5 ⟨z2, H5, J5, r5, q5⟩ => ?_))
      cases z2 with
      | bl k2 =>
        cases r5
        exact wpAny_truthy_bool ⟨H5, J5, q5⟩
      | _ => exact False.elim q5
  | _ => exact False.elim q3
/-- while: a word with its measure -/
def xWhile (c : TT) (tb : TS) : TS := fun D σ H => ∃ W : Nat → L2.St → Hp → Prop, (∃ m, W m σ H) ∧ ∀ m σ H, W m σ H → c σ H fun b H1 =>
  (b = true → tb { D with nx := fun σ' H' => ∃ m', m' < m ∧ W m' σ' H', ct := fun σ' H' => ∃ m', m' < m ∧ W m' σ' H', bk := D.nx } σ H1) ∧ (b = false → D.nx σ H1)
theorem xs_while {c : Expr} {body : List Stmt} {tc : TT} {tb : TS} (hp : PassesOwn (model X.prog X.w) X.A X.env X.xe) (hc : PT X c tc) (hb : PSs X body tb) : PS X (.While c body [] pos) (xWhile tc tb) := by
  refine ⟨fun pins s0 σ H D J h => ?_⟩
  obtain ⟨W, ⟨m0, w0⟩, turn⟩ := h
  refine wpAny_While (codeAny_whileLoop (fun n s' => ∃ σ' H', L2.Inv X pins σ' H' s' ∧ W n σ' H') ?_ m0 ⟨σ, H, J, w0⟩)
  rintro n s1 ⟨σ1, H1, J1, w1⟩
  refine wpAny_passesOwn hp (thn (hc.run pins s1 σ1 H1 _ J1 (turn n σ1 H1 w1)) fun k s2 ⟨H2, J2, q2⟩ => ?_)
  cases k with
  | true =>
    rw [if_pos rfl]
    refine wpAny_passesOwn hp (thn (hb.run pins s2 σ1 H2 _ J2 (q2.1 rfl)) fun f s3 q3 => ?_)
    cases f with
    | next =>
      obtain ⟨σ3, H3, J3, m', hm, w3⟩ := q3
      exact ⟨m', hm, σ3, H3, J3, w3⟩
    | cont =>
      obtain ⟨σ3, H3, J3, m', hm, w3⟩ := q3
      exact ⟨m', hm, σ3, H3, J3, w3⟩
    | brk => exact q3
    | ret v => exact q3
  | false =>
    rw [if_neg Bool.false_ne_true]
    exact wpAny_execs_nil ⟨σ1, H2, J2, q2.2 rfl⟩
/-- a comparison by an own method (__le__ ..) of two instances of C -/
def yOwn (C : Addr) (sp : Sp) (E : XK) : R2 := fun x y H Q => ∃ a b dx dy fs gs, x = .ref a ∧ y = .ref b ∧ H a = some (.ins C dx fs) ∧ H b = some (.ins C dy gs) ∧ sp [.ref a, .ref b] H Q E
theorem op_own {CX : CXT} {C f : Addr} {fd : FuncData} {ps : List Str} {sp : Sp} {E : XK} {op : CmpOp} {n : Nat} (hop : compareOp op = richCompare op) (F : FnOk X.prog X.w X.K X.mg X.base CX n f fd ps sp)
    (hs : PySem.W.findIn X.K (.ref C) (cmpInfo op).2.1 = some (some (.ref f))) (hf : PySem.W.isFn X.K (.ref f) = true) (hb : Binds X.K fd ps []) (hx : Passes CX X E) (hr : Room n X.A) : OpR X (compareOp op) (yOwn C sp E) := by
  intro pins s σ H x y u v Q I rx ry h
  obtain ⟨a, b, dx, dy, fs, gs, rfl, rfl, ha, hb', hsp⟩ := h
  cases rx
  cases ry
  rw [hop]
  obtain ⟨mA, J1, _⟩ := ins_get I.hok ha
  obtain ⟨mB, J2, _⟩ := ins_get I.hok hb'
  obtain ⟨od, J1, _⟩ := J1.look
  obtain ⟨od', J2, _⟩ := J2.look
  obtain ⟨m, hF⟩ := I.fr
  refine PySem.W.cmp_K (op := op) (tb := .ref C) hr.units0 hF I.ok.mod.kin J1 J2.type (by simp [PySem.W.notFirst]) hs hf ?_
  have hl := F.len _ _ _ _ hsp
  refine wpAny_mono (run_fn (us := [.ref a, .ref b]) (vs := [.ref a, .ref b]) (dvs := []) F hr hb .nil hx I (.cons rfl (.cons rfl .nil)) hsp) (fun v s' q => ?_) fun _ _ e => e
  obtain ⟨z, H', I', rz, q⟩ := q
  have fin : EP X pins σ Q v s' := ⟨z, H', I', rz, q⟩
  cases v <;> first | exact fin | (cases z <;> first | exact absurd (show _ = _ from rz) (by intro e; cases e) | (obtain ⟨_, e⟩ := rz; cases e))
variable (K : PySem.W.Frag)
theorem pe_fldK {f : Str} (ha : PE X a ta) (hb : attributeBase a f X.env (eval a X.env) = eval a X.env := by rfl) (h : X.K = K := by rfl) : PE X (.Attribute a f pos) (tFld K ta f) := h ▸ pe_fld ha hb
theorem in_seqK (h : X.K = K := by rfl) : OpR X (compareOp .In) (rIn K false) := h ▸ op_in_seq
theorem notin_seqK (h : X.K = K := by rfl) : OpR X (compareOp .NotIn) (rIn K true) := h ▸ op_notIn_seq
theorem mt_countK (h : X.K = K := by rfl) : MtR X "list.count" (rCntI K) := h ▸ mt_lcount
theorem cr_allK (hc : X.calm = true) (h : X.K = K := by rfl) : CallR X (.builtin "all") (rAll K) := h ▸ cr_all hc
theorem cr_anyK (hc : X.calm = true) (h : X.K = K := by rfl) : CallR X (.builtin "any") (rAny K) := h ▸ cr_any hc
end
theorem xe_glob {X : Cx} {x z : Str} {pos : Pos} (hg : Gl X x) (hm : ∃ t, X.mg x = some (.str z t)) (hd : (x == ("__debug__" : Str)) = false := by decide) : PE X (.Name x pos) (tC (.str z)) := by
  obtain ⟨t, hm⟩ := hm
  exact pe_glob hg hm ⟨_, rfl⟩ hd
theorem xe_globI {X : Cx} {x : Str} {z : Int} {pos : Pos} (hg : Gl X x) (hm : ∃ t, X.mg x = some (.int z t)) (hd : (x == ("__debug__" : Str)) = false := by decide) : PE X (.Name x pos) (tC (.int z)) := by
  obtain ⟨t, hm⟩ := hm
  exact pe_glob hg hm ⟨_, rfl⟩ hd
theorem prd_unsnoc {α β : Type} {F : α → β → Prop} {x : α} : ∀ {xs : List α} {ys : List β}, Paired F (xs ++ [x]) ys → ∃ ys' y, ys = ys' ++ [y] ∧ Paired F xs ys' ∧ F x y
  | [], _, .cons r .nil => ⟨[], _, rfl, .nil, r⟩
  | _ :: xs, _, .cons (b := b) r t => by
    obtain ⟨ys', y, rfl, h1, h2⟩ := prd_unsnoc (xs := xs) t
    exact ⟨b :: ys', y, rfl, .cons r h1, h2⟩
theorem nil_or_snoc {α : Type} (xs : List α) : xs = [] ∨ ∃ ys y, xs = ys ++ [y] := by
  rcases List.eq_nil_or_concat xs with h | ⟨ys, y, h⟩
  · exact .inl h
  · exact .inr ⟨ys, y, by simpa using h⟩
theorem pg_tupK {X : Cx} (K : PySem.W.Frag) (n : Nat) {es : List Expr} {k : Nat} {pos : Pos} {t : TGs} (h : PGs X es t) (hc : X.calm = true := by rfl) (hK : X.K = K := by rfl)
    (hn : (assignEach es X.env).length = n := by rfl) (hst : (assignEach es X.env).findIdx? (·.1) = none := by rfl) : PG X (.Tuple es k pos) (gTup K n t) := hK ▸ pg_tup hc h hn hst
theorem perm_erase {α : Type} : ∀ {xs : List α} {i : Nat} {x : α}, xs[i]? = some x → (x :: xs.eraseIdx i).Perm xs
  | [], _, _, h => by simp at h
  | y :: r, 0, x, h => by
    simp at h
    subst h
    exact List.Perm.refl _
  | y :: r, i + 1, x, h => by
    rw [List.getElem?_cons_succ] at h
    exact (List.Perm.swap _ _ _).trans (List.Perm.cons _ (perm_erase h))
theorem Sep.new2 {G H : Hp} {M : List (Addr × HO)} {x dx : Addr} {o u : HO} (S : Sep G M H) (h1 : H x = Option.none) (h2 : H dx = Option.none) (ne : dx ≠ x) : Sep G ((x, o) :: (dx, u) :: M) (upd (upd H dx u) x o) :=
  (S.new h2).new (by rw [upd_ne (Ne.symm ne)]; exact h1)
end XL
set_option Elab.async false
set_option linter.all false
set_option maxRecDepth 100000
set_option maxHeartbeats 4000000
/-! XIter: enumerate of a tuple. -/
namespace XL
open PySem PySem.Spec PyProof.Rows L2
theorem meets_enum1 {v : Value} {o : Obj} {Hq : Heap → Prop} (B : Begins v o Hq) :
    Meets (Builtin.«enumerate.__new__» ⟨[.type "enumerate", v], []⟩) (fun _ R s => Hq s.heap ∧
      R (.ok (.ret (.ref (s.heap.push o).objs.size))) { s with heap := (s.heap.push o).push { cls := .type "enumerate", data := .fields #[.none, .bool false, .ref s.heap.objs.size, rawInt 0, .none, .none] } }) :=
  .of_wp fun prog w A R s z => by
    obtain ⟨hp, g, d, tk, os⟩ := s
    obtain ⟨z1, z2⟩ := z
    have hsub := sub_enumerate
    have begin1 : ∀ {A' : Around} {E : Value → Shared → Prop} {Q : Value → Shared → Prop}, Q (.ref hp.objs.size) ⟨hp.push o, g, d, tk, os⟩ → wpAny (model prog w) A' (pyIter v) Q E ⟨hp, g, d, tk, os⟩ := fun q => B.iter prog w _ _ ⟨hp, g, d, tk, os⟩ _ z1 q
    wp_walk using begin1
    refine wpAny_stack_any fun st => wpAny_pure ?_
    split
    · rename_i c _ _ _ _ _
      cases (c == Value.type "enumerate") <;> (wp_walk using begin1; exact ⟨_, rfl, z2⟩)
    · wp_walk using begin1
      exact ⟨_, rfl, z2⟩
theorem call_enum1 {prog : Program} {w : World} {A : Around} {E : Value → Shared → Prop} {s : Shared} {v : Value} {o : Obj} {Hq : Heap → Prop} {Q : Value → Shared → Prop} (B : Begins v o Hq) (h1 : Hq s.heap)
    (k : ∀ h', IsEnum h' (s.heap.objs.size + 1) s.heap.objs.size 0 .none → h'.get? s.heap.objs.size = some o → (∀ b o, s.heap.get? b = some o → h'.get? b = some o) → Q (.ref (s.heap.objs.size + 1)) { s with heap := h' }) :
    wpAny (model prog w) A (call (.type "enumerate") [v]) Q E s := by
  refine callType_new F.called_enumerate (by decide) (F.typeCall_enumerate_1 _) (F.newCall_enumerate_1 _) (fun ob => F.args_object_init_2 ob _) F.entry_enumerate_new (meets_enum1 B) ⟨h1, ?_⟩
  have hz : (s.heap.push o).objs.size = s.heap.objs.size + 1 := Heap.size_push ..
  show _ ∧ _
  rw [hz]
  have he : IsEnum ((s.heap.push o).push { cls := .type "enumerate", data := .fields #[.none, .bool false, .ref s.heap.objs.size, rawInt 0, .none, .none] }) (s.heap.objs.size + 1) s.heap.objs.size 0 .none := by
    have z := Heap.get?_push_size (s.heap.push o) (o := { cls := .type "enumerate", data := .fields #[.none, .bool false, .ref s.heap.objs.size, rawInt 0, .none, .none] }) rfl
    rw [hz] at z
    exact z
  exact ⟨⟨_, he, rfl⟩, k _ he (Heap.get?_push_of_some _ (Heap.get?_push_size _ B.free)) fun b o x => Heap.get?_push_of_some _ (Heap.get?_push_of_some _ x)⟩
/-- the tuple at a, each item in a new pair -/
def IteT (K : PySem.W.Frag) (a : Addr) : It :=
  ⟨fun i H => ∃ (xs : List V) (x : V), SqT K H a xs ∧ xs[i]? = some x, fun i H v H' => ∃ T x, v = .ref T ∧ H T = none ∧ H' = upd H T (.tup [.int (i : Nat), x]) ∧ ∀ xs, SqT K H a xs → xs[i]? = some x, fun i H => ∃ xs : List V, SqT K H a xs ∧ xs.length ≤ i⟩
theorem turn_enumT {P : Program} {w : World} {K : PySem.W.Frag} {elts : List Expr} {kk : Nat} {tpos : Pos} (a e it : Addr) (hai : a ≠ it) (hae : a ≠ e) :
    Turn P w K (.Tuple elts kk tpos) (IteT K a) [e, it] e (fun i h => (∃ old, IsEnum h e it ((i : Nat) : Int) old) ∧ h.IsTupleIter it a i ∧ e ≠ it) where
  mem := by simp
  obj := fun i h st b hb => by
    obtain ⟨⟨old, he⟩, ⟨o, ho, hc, hd⟩, _⟩ := st
    have q : b = e ∨ b = it := by simpa using hb
    rcases q with z | z
    · rw [z]; exact ⟨_, he, fun v q => nomatch q⟩
    · rw [z]; exact ⟨o, ho, fun v q => by rw [hd] at q; cases q⟩
  keep := fun i h h' st k => let ⟨⟨old, he⟩, hi, hne⟩ := st; ⟨⟨old, k e (by simp) _ he⟩, hi.at fun o q => k it (by simp) o q, hne⟩
  item := by
    intro X hP hw hK hc i pins s σ H E I hf st hg
    subst hP hw hK
    obtain ⟨⟨old, he⟩, hit, hne⟩ := st
    obtain ⟨xs, x, hq, hx⟩ := hg
    obtain ⟨its, rv, p, hz⟩ := I.tuple hq
    obtain ⟨u, hu, ru⟩ := rv.get hx
    have hel : e < s.heap.objs.size := Heap.lt_size he
    have hil : it < s.heap.objs.size := by obtain ⟨_, q, _⟩ := hit; exact Heap.lt_size q
    have hlen : i < its.toArray.size := by
      have z := (List.getElem?_eq_some_iff.mp hu).1
      simpa using z
    refine wpAny_pyNext_enum_itemC (c := ((i : Nat) : Int)) (Draws.tuple (A := X.A.in1) (I.ok.hd hc) it a hai its.toArray) he ⟨hit, p⟩ hlen hne (by simp; exact ⟨hne, fun z => hae z.symm⟩) fun y h' tk hy ho st' hT hsz hk => ?_
    have ey : y = u := by
      have z : its[i]? = some y := by simpa using hy
      rw [hu] at z
      exact (Option.some.inj z).symm
    subst ey
    refine ⟨_, rfl, wpAny_letOwnedTupleGo_enum (s := { s with heap := h', toks := tk + 1 }) ho fun h'' he' sb => ?_⟩
    have hT2 : h''.get? s.heap.objs.size = some { cls := .type "tuple", data := .seq #[.int i tk, y] } := (sb.2 _ (Nat.ne_of_gt hel)).trans hT
    have new : ObjOk X.prog X.w (upd H s.heap.objs.size (.tup [.int (i : Nat), x])) h'' s.heap.objs.size (.tup [.int (i : Nat), x]) :=
      ⟨by show 2 ≤ sizeLine; decide, [.int i tk, y], .cons ⟨_, rfl⟩ (.cons ru .nil), ⟨_, hT2, rfl, _, rfl⟩⟩
    have I1 : L2.Inv X pins σ (upd H s.heap.objs.size (.tup [.int (i : Nat), x])) { s with heap := h'', toks := tk + 1 } :=
      I.turnedNew (ch := [e, it]) (fun b ob hb q => (sb.2 b (fun z => hb (by simp [z]))).trans (hk b ob (fun z => hb (by simp [z])) (fun z => hb (by simp [z])) q)) hf (Nat.le_refl _) new
    refine ⟨.ref s.heap.objs.size, _, I1, rfl, ⟨_, x, rfl, I.hok.fresh (Nat.le_refl _), rfl, fun ys hy => by rw [I.tuple_inj hy hq]; exact hx⟩, ⟨⟨y, ?_⟩, st'.1.at fun o q => (sb.2 it (Ne.symm hne)).trans q, hne⟩, fun b hb => ?_⟩
    · have e1 : ((i + 1 : Nat) : Int) = (i : Int) + 1 := by omega
      rw [e1]; exact he'
    · have hb2 : b < s.heap.objs.size := by
        have q : b = e ∨ b = it := by simpa using hb
        rcases q with z | z
        · rw [z]; exact hel
        · rw [z]; exact hil
      rw [upd_ne (Nat.ne_of_lt hb2)]
      exact (hf b hb).1
  done := by
    intro X hP hw hK hc i pins s σ H E I hf st hg
    subst hP hw hK
    obtain ⟨⟨old, he⟩, hit, hne⟩ := st
    obtain ⟨xs, hq, hx⟩ := hg
    obtain ⟨its, rv, p, hz⟩ := I.tuple hq
    obtain ⟨f0, f1, f2, f3, f4, f5⟩ := hf it (by simp)
    have hl := rv.length
    have D := Draws.tuple (prog := X.prog) (w := X.w) (A := X.A.in1) (I.ok.hd hc) it a hai its.toArray
    by_cases hi : i = its.toArray.size
    · subst hi
      exact wpAny_pyNext_enum_endD D he ⟨hit, p⟩ fun h' eb => ⟨rfl, I.turned (t' := s.toks) (fun b o hb q => eb b o hb q) f0 f1 f3 f4 f5⟩
    · have D2 : Draws X.prog X.w X.A.in1 it [it, a] i (fun _ _ => False) (fun j h => (j = i ∨ False) ∧ h.IsTupleIter it a i ∧ h.IsTuple a its.toArray) := {
        live := fun _ _ st => let ⟨o, ho, _⟩ := st.2.1; ⟨o, ho⟩
        frame := fun _ _ _ st hk => ⟨st.1, st.2.1.at fun o e => hk it (by simp) o e, st.2.2.at fun o e => hk a (by simp) o e⟩
        item := fun j s Q E hj st hQ => by
          rcases st.1 with z | z
          · omega
          · exact z.elim
        done := fun s Q E st hE => wpAny_nextOf_tuple_end (I.ok.hd hc) st.2.1 st.2.2 (by
          simp only [List.getElem?_toArray]
          exact List.getElem?_eq_none_iff.mpr (by omega)) hE }
      exact wpAny_pyNext_enum_endD D2 he ⟨.inl rfl, hit, p⟩ fun h' eb => ⟨rfl, I.turned (t' := s.toks) (fun b o hb q => eb b o hb q) f0 f1 f3 f4 f5⟩
  self := fun A i s Q E st h => let ⟨⟨_, he⟩, _⟩ := st; wpAny_pyIter_enum he h
def iEnumT (K : PySem.W.Frag) (ta : TA) : TI := fun σ H R => ta σ H fun vs H1 => ∃ a xs, vs = [.ref a] ∧ SqT K H1 a xs ∧ R (IteT K a) H1
theorem pi_enumT {X : Cx} {e : Expr} {ta : TA} {p pos tpos : Pos} {elts : List Expr} {kk : Nat} (hg : Gl X "enumerate") (hm : X.mg "enumerate" = none) (ha : PA X [e] ta) (hs : starEach [e] X.env = [(false, eval e X.env)] := by rfl) :
    PI X (.Tuple elts kk tpos) (.Call (.Name "enumerate" p) [e] [] pos) (iEnumT X.K ta) := by
  refine ⟨fun pins s σ H R I h => ?_⟩
  refine Call_ (ld_blt I hg hm boot_enumerate (PyProof.Rows.callWith_type1 (thn (ha.run pos pins s σ H _ I h) fun us s1 ⟨vs, H1, I1, r1, q1⟩ => ?_) hs rfl))
  obtain ⟨a, xs, ex, hq, q⟩ := q1
  subst ex
  cases r1 with
  | cons r rr =>
    cases rr
    cases r
    obtain ⟨its, rv, p', hz⟩ := I1.tuple hq
    have hal : a < s1.heap.objs.size := by obtain ⟨o, ho, _⟩ := p'; exact Heap.lt_size ho
    refine call_enum1 (begins_tuple a its.toArray) p' fun h' he hit hk => wpAny_pyIter_enum he ?_
    have I2 : L2.Inv X pins σ H1 { s1 with heap := h' } := I1.kept (t' := s1.toks) hk
    refine ⟨s1.heap.objs.size + 1, [s1.heap.objs.size + 1, s1.heap.objs.size], _, _, H1, rfl, I2, turn_enumT a (s1.heap.objs.size + 1) s1.heap.objs.size (Nat.ne_of_lt hal) (Nat.ne_of_lt (Nat.lt_succ_of_lt hal)), ⟨⟨.none, he⟩, ⟨_, hit, rfl, rfl⟩, Nat.succ_ne_self _⟩, fun b hb => ?_, q⟩
    have q' : b = s1.heap.objs.size + 1 ∨ b = s1.heap.objs.size := by simpa using hb
    have hle : s1.heap.objs.size ≤ b := by
      rcases q' with z | z
      · rw [z]; exact Nat.le_add_right _ _
      · rw [z]; exact Nat.le_refl _
    exact I1.fpOk hle (I1.hok.fresh hle)
theorem for_enumT {K : PySem.W.Frag} {a : Addr} {xs : List V} {tb : TS} {D : Ends} {σ : L2.St} {H : Hp} {i j : Nat} (Pv : Nat → L2.St → Hp → Prop) (h0 : Pv 0 σ H) (hl : ∀ k σ H, Pv k σ H → SqT K H a xs)
    (hs : ∀ k x σ H T, xs[k]? = some x → Pv k σ H → H T = none →
      tb { D with nx := Pv (k + 1), ct := Pv (k + 1), bk := D.nx } ((σ.set i (some (.int (k : Nat)))).set j (some x)) (upd H T (.tup [.int (k : Nat), x]))) (hd : ∀ σ H, Pv xs.length σ H → D.nx σ H) :
    ∃ W : Nat → Nat → L2.St → Hp → Prop, (∃ m, W 0 m σ H) ∧ ∀ k m σ H, W k m σ H →
      ((IteT K a).stop k H ∧ D.nx σ H) ∨ ((IteT K a).go k H ∧ ∃ N : L2.St → Hp → Prop, (∀ σ' H', N σ' H' → ∃ m', m' < m ∧ W (k + 1) m' σ' H') ∧ ∀ x H', (IteT K a).yld k H x H' →
        (gTup K 2 (gCons (gName i) (gCons (gName j) gNil))) x σ H' fun σ2 H2 => tb { D with nx := N, ct := N, bk := D.nx } σ2 H2) := by
  refine ⟨fun k m σ H => m = xs.length - k ∧ k ≤ xs.length ∧ Pv k σ H, ⟨xs.length, by simp, Nat.zero_le _, h0⟩, ?_⟩
  rintro k m σ H ⟨rfl, hk, p⟩
  have q := hl _ σ H p
  by_cases hlt : k < xs.length
  · refine .inr ⟨⟨xs, xs[k], q, by simp [hlt]⟩, Pv (k + 1), fun σ' H' p' => ⟨xs.length - (k + 1), by omega, rfl, hlt, p'⟩, fun v H' y => ?_⟩
    obtain ⟨T, x, rfl, nT, rfl, hx⟩ := y
    refine ⟨T, _, rfl, SqT.of upd_same, rfl, _, _, rfl, _, _, rfl, rfl, ?_⟩
    exact hs k x σ H T (hx xs q) p nT
  · have e : k = xs.length := by omega
    subst e
    exact .inl ⟨⟨xs, q, Nat.le_refl _⟩, hd σ H p⟩
end XL
set_option Elab.async false
set_option linter.all false
set_option maxRecDepth 100000
set_option maxHeartbeats 4000000
/-! XDeep: x in t, t.index(x), items data of any depth, t a list or a tuple. -/
namespace XL
open PySem PySem.Spec PyProof.Rows L2
section
variable {X : Cx} (K : PySem.W.Frag)
def rInX (K : PySem.W.Frag) (neg : Bool) : R2 := fun x y H Q => ∃ d ds, Dp K H x d ∧ (Dp K H y (.list ds) ∨ Dp K H y (.tuple ds)) ∧ SeqAt.shaped d = true ∧ PyData.canLayAll0 ds = true ∧ Q (.bl (if neg then !(ds.any fun z => PyData.eqv z d) else ds.any fun z => PyData.eqv z d)) H
theorem in_deepK (hu : X.A.units + 65 < cLine) (h : X.K = K := by rfl) : OpR X (compareOp .In) (rInX K false) := by
  subst h
  intro pins s σ H x y v u Q I rx ry h
  obtain ⟨d, ds, hd, he, sd, se, q⟩ := h
  obtain ⟨as, r1⟩ := Dp.reads I d x v hd rx
  rcases he with he | he
  · obtain ⟨bs, r2⟩ := Dp.reads I (.list ds) y u he ry
    exact SeqAt.in_list_reads r2 r1 se (SeqAt.canLay_of_shaped sd) (room_in_shaped sd hu) ⟨.bl _, H, I, rfl, q⟩
  · obtain ⟨bs, r2⟩ := Dp.reads I (.tuple ds) y u he ry
    exact SeqAt.in_tuple_reads r2 r1 se (SeqAt.canLay_of_shaped sd) (room_in_shaped sd hu) ⟨.bl _, H, I, rfl, q⟩
theorem notin_deepK (hu : X.A.units + 65 < cLine) (h : X.K = K := by rfl) : OpR X (compareOp .NotIn) (rInX K true) := by
  subst h
  intro pins s σ H x y v u Q I rx ry h
  obtain ⟨d, ds, hd, he, sd, se, q⟩ := h
  obtain ⟨as, r1⟩ := Dp.reads I d x v hd rx
  rcases he with he | he
  · obtain ⟨bs, r2⟩ := Dp.reads I (.list ds) y u he ry
    exact SeqAt.notIn_list_reads r2 r1 se (SeqAt.canLay_of_shaped sd) (room_in_shaped sd hu) ⟨.bl _, H, I, rfl, q⟩
  · obtain ⟨bs, r2⟩ := Dp.reads I (.tuple ds) y u he ry
    exact SeqAt.notIn_tuple_reads r2 r1 se (SeqAt.canLay_of_shaped sd) (room_in_shaped sd hu) ⟨.bl _, H, I, rfl, q⟩
/-- t.index(x), t a tuple: the first place of an equal one -/
def rIndexT (K : PySem.W.Frag) : V → List V → Hp → VK → Prop := fun x xs H Q => ∃ (a : Addr) (y : V) (d : PyData) (ds : List PyData) (j : Nat) (z : PyData), x = V.ref a ∧ xs = [y] ∧ Dp K H (V.ref a) (.tuple ds) ∧ Dp K H y d ∧
  PyData.canLayAll0 ds = true ∧ SeqAt.shaped d = true ∧ ds[j]? = some z ∧ PyData.eqv z d = true ∧ (∀ (m : Nat) (z' : PyData), m < j → ds[m]? = some z' → PyData.eqv z' d = false) ∧ Q (.int (j : Nat)) H
theorem mt_tindexK (hu : X.A.units + 65 < cLine) (h : X.K = K := by rfl) : MtR X "tuple.index" (rIndexT K) := by
  subst h
  intro pins s σ H x xs v us Q I rx rxs h
  obtain ⟨a, y, d, ds, j, z, rfl, rfl, hl, hy, hxs, sd, hz, hzj, hno, q⟩ := h
  cases rx
  cases rxs with
  | cons ry rt =>
    rename_i uy ut
    cases rt
    obtain ⟨bs, r1⟩ := Dp.reads I d y uy hy ry
    have hroom : X.A.units + 1 + min (PyData.depthAll ds) d.depth < cLine := room_in_shaped sd hu
    cases hl with
    | tup hs ha =>
      obtain ⟨its, rv, ⟨⟨cls, dd, data, sls⟩, ho, hc, n, hdt⟩, hlen⟩ := I.tuple hs
      simp only at hc hdt
      subst hc hdt
      obtain ⟨as, h4⟩ := Dp.readsAll I ds _ its ha rv
      have hn : its.length = ds.length := SeqAt.ReadsAll.length ds its as h4
      have hmap : its.map (SeqAt.readOf s.heap) = ds := SeqAt.readsAll_map ds its as hxs h4
      have hvl := rv.length
      obtain ⟨hjd, _⟩ := List.getElem?_eq_some_iff.mp hz
      have hjl : j < its.length := by omega
      have hj : j < its.toArray.size := by simpa using hjl
      have at_ : ∀ (m : Nat) (hm : m < its.toArray.size) (z' : PyData), ds[m]? = some z' → SeqAt.readOf s.heap its.toArray[m] = z' := by
        intro m hm z' hz'
        have hml : m < its.length := by simpa using hm
        rw [← hmap, List.getElem?_map, List.getElem?_eq_getElem hml] at hz'
        have e1 : SeqAt.readOf s.heap its[m] = z' := Option.some.inj (show some (SeqAt.readOf s.heap its[m]) = some z' from hz')
        simpa using e1
      refine call_meets PySem.F.slot_tuple_index ⟨_, ho, rfl⟩ PySem.F.entry_tuple_index (PySem.F.args_tuple_index_2 _ _)
        (TI.tuple_indexAt a its.toArray n dd sls uy (fun u => PyData.eqv (SeqAt.readOf s.heap u) d) j hj ?_ ?_) ⟨ho, SeqAt.items_eqAt (vs := its.toArray) (show ReadsAll s.heap its.toArray.toList ds as from h4) r1 hxs (SeqAt.canLay_of_shaped sd) hroom, ?_⟩
      · show PyData.eqv (SeqAt.readOf s.heap its.toArray[j]) d = true
        rw [at_ j hj z hz]
        exact hzj
      · intro m hm hmj
        have hmd : m < ds.length := by omega
        have hz' : ds[m]? = some ds[m] := List.getElem?_eq_getElem hmd
        show PyData.eqv (SeqAt.readOf s.heap its.toArray[m]) d = false
        rw [at_ m hm _ hz']
        exact hno m _ hmj hz'
      · exact ⟨.int (j : Nat), H, I.tok _, ⟨_, rfl⟩, q⟩
end
theorem u65 {k : Nat} {A : Around} (r : Room k A) : A.units + 65 < cLine := by have := r.un; omega
/-- xs[::-1] of a list -/
def tRev (K : PySem.W.Frag) (te : TE) : TE := fun σ H Q => te σ H fun x H1 => ∃ a xs, x = .ref a ∧ SqL K H1 a xs ∧ ∀ p, H1 p = none → Q (.ref p) (upd H1 p (.lst xs.reverse))
theorem pe_rev {X : Cx} {e m : Expr} {te : TE} {p2 pos : Pos} (he : PE X e te) (hm : PE X m (tC (.int (-1)))) : PE X (.Subscript e (.Slice none none (some m) p2) pos) (tRev X.K te) := by
  refine ⟨fun pins s σ H Q I h => ?_⟩
  refine Subscript_ (thn (he.run pins s σ H _ I h) fun v s1 ⟨x, H1, I1, r1, q1⟩ => ?_)
  refine wpAny_Slice (wpAny_evalPart_none (wpAny_evalPart_none (wpAny_evalPart_some (thn (hm.run pins s1 σ H1 (fun y H2 => y = .int (-1) ∧ H2 = H1) I1 ⟨rfl, rfl⟩) fun vm s3 ⟨y, H3, I3, r3, ey, eH⟩ => ?_))))
  subst ey eH
  obtain ⟨t, rfl⟩ := r3
  obtain ⟨a, xs, rfl, hx, q⟩ := q1
  cases r1
  have I4 : L2.Inv X pins σ H3 { s3 with heap := s3.heap.push { cls := .type "slice", data := .fields #[.none, .none, .int (-1) t] } } := I3.kept (t' := s3.toks) fun b ob q => Heap.get?_push_of_some _ q
  obtain ⟨its, r, ht, hz⟩ := I4.list hx
  have hlen := r.length
  show wpAny (model X.prog X.w) X.A (subscriptTail e (.Slice none none (some m) p2) (.ref a) (.ref s3.heap.objs.size)) (EP X pins σ Q) X.xe { s3 with heap := s3.heap.push { cls := .type "slice", data := .fields #[.none, .none, .int (-1) t] } }
  refine tail_any (ops := [.ref a, .ref s3.heap.objs.size]) ht.isList.typeIs slot_list_getitem.lookup ?_ (by with_unfolding_all rfl)
  refine wpAny_getItem_list_slice ht.isList (Heap.IsSliceOf.new ..) .none .none (.int (-1) t) (by decide) ?_ (by rw [List.size_toArray] <;> omega)
  rw [PySem.W.krv_pick]
  refine ⟨.ref _, _, I4.laid (t' := s3.toks) (o := .lst xs.reverse) (fun b ob q => Heap.get?_push_of_some _ q) (Nat.le_refl _) ?_, rfl, q _ (I4.hok.fresh (Nat.le_refl _))⟩
  exact ⟨by rw [List.length_reverse]; exact hz, _, 0, r.reverse, Heap.get?_push_size _ rfl⟩
theorem pe_revK {X : Cx} {e m : Expr} {te : TE} {p2 pos : Pos} (K : PySem.W.Frag) (he : PE X e te) (hm : PE X m (tC (.int (-1)))) (h : X.K = K := by rfl) : PE X (.Subscript e (.Slice none none (some m) p2) pos) (tRev K te) := h ▸ pe_rev he hm
theorem tst {b : Bool} {A B : Prop} (h1 : b = true → A) (h0 : b = false → B) : if b = true then A else B := by
  cases b
  · exact h0 rfl
  · exact h1 rfl
theorem sl_tupAK {X : Cx} (K : PySem.W.Frag) (h : X.K = K := by rfl) : SlR X (rSlA K) := h ▸ sl_tupA
/-! ### tuples whose object has no dict (so that their methods are reached) -/
def TupF (G : Hp) (a : Addr) (xs : List V) : Prop := ∃ o : Obj, o.dict = none ∧ G a = some (.frz o (.tup xs))
def Tu (G : Hp) (a : Addr) (xs : List V) : Prop := G a = some (.tup xs) ∨ TupF G a xs
theorem TupF.same {G G' : Hp} {a : Addr} {xs : List V} (e : Same G G') (h : TupF G a xs) : TupF G' a xs := let ⟨o, h1, h2⟩ := h; ⟨o, h1, e _ _ h2⟩
theorem Tu.same {G G' : Hp} {a : Addr} {xs : List V} (e : Same G G') (h : Tu G a xs) : Tu G' a xs := by
  rcases h with h | h
  · exact .inl (e _ _ h)
  · exact .inr (h.same e)
theorem Tu.sq {K : PySem.W.Frag} {H : Hp} {a : Addr} {xs : List V} (h : Tu H a xs) : SqT K H a xs := by
  rcases h with h | ⟨o, _, h⟩
  · exact .inl (.inl h)
  · exact .inl (.inr ⟨o, h⟩)
theorem Tu.ty {K : PySem.W.Frag} {H : Hp} {a : Addr} {xs : List V} (h : Tu H a xs) : TyX K H (.ref a) (.type "tuple") := by
  rcases h with h | ⟨o, _, h⟩
  · exact .base (.tup h)
  · exact .fTuple h
theorem TupF.tu {G : Hp} {a : Addr} {xs : List V} (h : TupF G a xs) : Tu G a xs := .inr h
section
variable {X : Cx} (K : PySem.W.Frag)
/-- tuple(xs) -/
def yTupF (K : PySem.W.Frag) : List V → Hp → VK → Prop := fun xs H Q => ∃ p ys, xs = [.ref p] ∧ ((SqL K H p ys ∧ ∀ l o, H l = none → o.dict = none → Q (.ref l) (upd H l (.frz o (.tup ys)))) ∨ (SqT K H p ys ∧ Q (.ref p) H))
theorem call_tupleFK (h : X.K = K := by rfl) : CallR X (.type "tuple") (yTupF K) := by
  subst h
  intro pins s σ H xs us Q I r h
  obtain ⟨p, ys, rfl, h⟩ := h
  obtain ⟨u, rfl, rx⟩ := vals1 r
  cases rx
  rcases h with ⟨hq, q⟩ | ⟨hq, q⟩
  · obtain ⟨its, r', pl, hz⟩ := I.list hq
    have hlen := r'.length
    refine call_tuple_list pl.isList (fun h' kp => ?_) (by simp only [List.size_toArray] <;> omega)
    have I1 : L2.Inv X pins σ H { s with heap := h' } := I.kept (t' := s.toks) kp
    have I2 : L2.Inv X pins σ (upd H h'.objs.size (.frz { cls := .type "tuple", data := .seq its.toArray } (.tup ys))) { s with heap := h'.push { cls := .type "tuple", data := .seq its.toArray } } :=
      I1.laid (t' := s.toks) (fun b o e => Heap.get?_push_of_some _ e) (Nat.le_refl _) (show ObjOk X.prog X.w _ _ _ (.frz { cls := .type "tuple", data := .seq its.toArray } (.tup ys)) from ⟨Heap.get?_push_size _ rfl, hz, its, r', IsTup.new _ _⟩)
    exact ⟨.ref h'.objs.size, _, I2, rfl, q _ _ (I1.hok.fresh (Nat.le_refl _)) rfl⟩
  · obtain ⟨its, r', pl, hz⟩ := I.tuple hq
    exact call_tuple_same pl ⟨.ref p, H, I, rfl, q⟩
/-- t.m(e, ..), t a tuple -/
def tTM (r : V → List V → Hp → VK → Prop) (to : TE) (t : TA) : TE := fun σ H Q => to σ H fun x H1 => (∃ a xs, x = .ref a ∧ TupF H1 a xs) ∧ t σ H1 fun vs H2 => r x vs H2 Q
theorem pe_tm {o e : Expr} {es : List Expr} {to : TE} {t : TA} {id : String} {name : Str} {apos cpos : Pos} {r : V → List V → Hp → VK → Prop} (slot : Slot "tuple" name id) (hty : typeOf (.builtin id) = pure (.type "method_descriptor")) (hm : MtR X id r) (ho : PE X o to) (ha : PA X (e :: es) t)
    (hbase : attributeBase o name X.env (eval o X.env) = eval o X.env := by rfl)
    (hfew : ((backTo cpos (starEach (e :: es) X.env)).all (fun x => !x.1) && (backToKw cpos (keywordEach [] X.env)).all (fun x => x.1.isSome)
      && decide ((e :: es).length + ([] : List Keyword).length + (if ([] : List Keyword).isEmpty then 0 else 1) < 30)) = true := by rfl)
    (hline : (apos.endLine == cpos.line) = true := by rfl) (hs : starEach (e :: es) X.env = (false, eval e X.env) :: starEach es X.env := by rfl) (hplain : (backTo cpos (starEach es X.env)).any (·.1) = false := by rfl) :
    PE X (.Call (.Attribute o name apos) (e :: es) [] cpos) (tTM r to t) := by
  refine ⟨fun pins s σ H Q I h => ?_⟩
  refine wpAny_Call_method_late hbase hfew hline rfl (thn (ho.run pins s σ H _ I h) fun v s1 ⟨x, H1, I1, r1, ty, q1⟩ => ?_)
  obtain ⟨a, xs, rfl, ob, hd, ha'⟩ := ty
  cases r1
  obtain ⟨h1, _, _, _, h2⟩ := I1.hok _ _ ha'
  refine ⟨"tuple", id, PySem.F.plainAttrs_tuple, slot, hty, ⟨ob, h1, ?_⟩, fun b e => ?_, ?_⟩
  · obtain ⟨ob', e1, e2, _⟩ := h2
    rw [h1] at e1
    rw [Option.some.inj e1]
    exact e2
  · cases e
    exact ⟨ob, h1, hd⟩
  have hA := ha.run cpos pins s1 σ H1 _ I1 q1
  rw [hs] at hA ⊢
  refine Calls.callWith_builtin (by show (false || (backTo cpos (starEach es X.env)).any (·.1)) = false; rw [hplain] <;> rfl) (Calls.evalArgs_plain ?_)
  exact thn hA fun us s2 ⟨vs, H2, I2, r2, q2⟩ => hm pins s2 σ H2 (V.ref a) vs (.ref a) us Q I2 rfl r2 q2
end
/-- t[lo:hi]: the whole of it is t itself -/
def rSlF (K : PySem.W.Frag) : V → Option Int → Option Int → Hp → VK → Prop := fun x lo hi H Q => ∃ a xs, x = .ref a ∧ SqT K H a xs ∧
  (HT.sIx xs.length 0 lo = 0 ∧ HT.sIx xs.length xs.length hi = xs.length → Q (.ref a) H) ∧ (¬ (HT.sIx xs.length 0 lo = 0 ∧ HT.sIx xs.length xs.length hi = xs.length) → ∀ p ob, H p = none → ob.dict = none → Q (.ref p) (upd H p (.frz ob (.tup (cutV xs lo hi)))))
theorem sl_tupFK {X : Cx} (K : PySem.W.Frag) (h : X.K = K := by rfl) : SlR X (rSlF K) := by
  subst h
  intro pins s σ H x v vl vu lo hi sl Q I rx hs pl pu h
  obtain ⟨a, xs, rfl, hx, q1, q2⟩ := h
  by_cases hw : HT.sIx xs.length 0 lo = 0 ∧ HT.sIx xs.length xs.length hi = xs.length
  · exact sl_tupA pins s σ H _ v vl vu lo hi sl Q I rx hs pl pu ⟨a, xs, rfl, hx, q1, fun z => absurd hw z⟩
  · cases rx
    obtain ⟨its, r, ht, hz⟩ := I.tuple hx
    have hlen : its.toArray.size = xs.length := by rw [List.size_toArray]; exact r.length.symm
    refine ⟨"tuple", _, PyProof.Rows.slot_tuple_getitem.lookup, ht.typeIs, ?_⟩
    refine HT.getItem_tuple_cut ht hs pl pu (by rw [hlen]; exact hw) ?_ (by rw [hlen]; exact hz)
    rw [hlen]
    refine ⟨.ref s.heap.objs.size, _, I.laid (t' := s.toks) (o := .frz { cls := .type "tuple", data := .seq (List.take (HT.sIx xs.length xs.length hi - HT.sIx xs.length 0 lo) (List.drop (HT.sIx xs.length 0 lo) its.toArray.toList)).toArray } (.tup (cutV xs lo hi))) (fun b ob q => Heap.get?_push_of_some _ q) (Nat.le_refl _) ?_, rfl, q2 hw _ _ (I.hok.fresh (Nat.le_refl _)) ?_⟩
    · exact ⟨Heap.get?_push_size _ rfl, Nat.le_trans (cutV_length xs lo hi) hz, _, (r.drop (HT.sIx xs.length 0 lo)).take (HT.sIx xs.length xs.length hi - HT.sIx xs.length 0 lo), IsTup.new _ _⟩
    · rfl
theorem Sep.sub {G H : Hp} {M M' : List (Addr × HO)} (S : Sep G M H) (h : M'.Sublist M) : Sep G M' H := ⟨S.1, fun p hp => S.2.1 p (h.subset hp), List.Nodup.sublist (h.map _) S.2.2⟩
theorem Sep.rot2 {G H : Hp} {a b c d : Addr × HO} {M : List (Addr × HO)} (S : Sep G (a :: b :: c :: d :: M) H) : Sep G (c :: d :: a :: b :: M) H := S.perm (List.perm_append_comm_assoc [a, b] [c, d] M)
theorem Sep.no3 {G H : Hp} {a b c : Addr × HO} {M : List (Addr × HO)} (S : Sep G (a :: b :: c :: M) H) : Sep G (a :: b :: M) H := S.sub ((List.sublist_cons_self c M).cons₂ b |>.cons₂ a)
/-! ### lists of ints, of pairs of ints, as data -/
def prd (p : Int × Int) : PyData := .tuple [.int p.1, .int p.2]
theorem prd_can (p : Int × Int) : (prd p).canLay0 = true := by simp [prd, PyData.canLay0, PyData.canLayAll0]
theorem prd_shaped (p : Int × Int) : SeqAt.shaped (prd p) = true := by
  unfold SeqAt.shaped
  rw [prd_can]
  simp [prd, PyData.depth, PyData.depthAll]
theorem prds_can : ∀ ps : List (Int × Int), PyData.canLayAll0 (ps.map prd) = true
  | [] => by simp [PyData.canLayAll0]
  | p :: r => by simp [PyData.canLayAll0, prd_can p, prds_can r]
theorem ints_can : ∀ ns : List Int, PyData.canLayAll0 (ns.map PyData.int) = true
  | [] => by simp [PyData.canLayAll0]
  | n :: r => by simp [PyData.canLayAll0, PyData.canLay0, ints_can r]
theorem prd_eqv (p q : Int × Int) : PyData.eqv (prd p) (prd q) = decide (p = q) := by
  obtain ⟨a, b⟩ := p
  obtain ⟨c, d⟩ := q
  simp only [prd, PyData.eqv, PyData.eqvAll, Bool.and_true]
  by_cases h1 : a = c <;> by_cases h2 : b = d <;> simp [h1, h2]
theorem int_shaped (n : Int) : SeqAt.shaped (.int n) = true := by simp [SeqAt.shaped, PyData.canLay0, PyData.depth]
theorem ints_dp {K : PySem.W.Frag} {H : Hp} : ∀ ns : List Int, DpAll K H (ns.map V.int) (ns.map PyData.int)
  | [] => .nil
  | n :: r => .cons (.int n) (ints_dp r)
theorem any_ints (n : Int) (ns : List Int) : ((ns.map PyData.int).any fun z => PyData.eqv z (.int n)) = decide (n ∈ ns) := by
  induction ns with
  | nil => rfl
  | cons m r ih =>
    rw [List.map_cons, List.any_cons, ih]
    show ((m == n) || decide (n ∈ r)) = decide (n ∈ m :: r)
    by_cases e : n = m
    · subst e; simp
    · have e2 : ¬ m = n := fun q => e q.symm
      simp [e, e2]
theorem any_prds (p : Int × Int) (ps : List (Int × Int)) : ((ps.map prd).any fun z => PyData.eqv z (prd p)) = decide (p ∈ ps) := by
  induction ps with
  | nil => rfl
  | cons q r ih =>
    rw [List.map_cons, List.any_cons, ih, prd_eqv]
    by_cases e : p = q
    · subst e; simp
    · have e2 : ¬ q = p := fun h => e h.symm
      simp [e, e2]
end XL
set_option Elab.async false
set_option linter.all false
set_option maxRecDepth 100000
set_option maxHeartbeats 4000000
/-! XOwn: o[i], o[i] = v by own methods. -/
namespace XL
open PySem PySem.Spec PyProof.Rows L2
section
variable {X : Cx} {CX : CXT} {C f : Addr} {fd : FuncData} {ps : List Str} {sp : Sp} {E : XK} {n : Nat} {o i : Expr} {to ti : TE} {pos : Pos}
def yIxO (C : Addr) (sp : Sp) (E : XK) : R2 := fun x y H Q => ∃ a dx fs, x = .ref a ∧ H a = some (.ins C dx fs) ∧ sp [.ref a, y] H Q E
theorem pe_ixO (ho : PE X o to) (hi : PE X i ti) (F : FnOk X.prog X.w X.K X.mg X.base CX n f fd ps sp) (hs : PySem.W.findIn X.K (.ref C) "__getitem__" = some (some (.ref f))) (hf : PySem.W.fnIn X.K f = true) (hfn : PySem.W.isFn X.K (.ref f) = true)
    (hb : Binds X.K fd ps []) (hx : Passes CX X E) (hr : Room (n + 1) X.A) (hsl : ∀ x v, subscripted i true (.ref x) v = runValue (.builtin "lifetime.subscript" ⟨[.ref x, v], []⟩) := by intro _ _; with_unfolding_all rfl) :
    PE X (.Subscript o i pos) (tOp (yIxO C sp E) to ti) := by
  refine ⟨fun pins s σ H Q I h => ?_⟩
  refine Subscript_ (thn (ho.run pins s σ H _ I h) fun v s1 ⟨x, H1, I1, r1, q1⟩ => thn (hi.run pins s1 σ H1 _ I1 q1) fun u s2 ⟨y, H2, I2, r2, q2⟩ => ?_)
  obtain ⟨a, dx, fs, rfl, ha, hsp⟩ := q2
  cases r1
  obtain ⟨mA, J, _⟩ := ins_get I2.hok ha
  obtain ⟨od, J, _⟩ := J.look
  obtain ⟨m, hF⟩ := I2.fr
  refine PySem.W.sub_K hF I2.ok.mod.kin J hs hf hfn ?_ (hsl _ _)
  have hl : ([Value.ref a, u] ++ []).length = ps.length := F.len _ _ _ _ hsp
  refine wpAny_call (codeAny_mono (F.run X.A.in1 X.stack s2 H2 ⟨[.ref a, u], []⟩ [.ref a, u] [.ref a, y] Q E hr.in1 I2.env0.in1 (hb s2 [.ref a, u] I2.kIn hl) (.cons rfl (.cons r2 .nil)) hsp) fun r s' hq => ?_)
  cases r with
  | error e => exact hx pins σ H2 s2 e s' I2 hq
  | ok fl =>
    cases fl with
    | ret u => exact I2.after hq
    | next => exact False.elim hq
    | brk => exact False.elim hq
    | cont => exact False.elim hq
def yStO (C : Addr) (sp : Sp) (E : XK) : TSet := fun x y v H Q => ∃ a dx fs, x = .ref a ∧ H a = some (.ins C dx fs) ∧ sp [.ref a, y, v] H (fun _ H' => Q H') E
theorem set_own (F : FnOk X.prog X.w X.K X.mg X.base CX n f fd ps sp) (hq : PySem.W.noSeq X.K C = true) (hs : PySem.W.findIn X.K (.ref C) "__setitem__" = some (some (.ref f))) (hfn : PySem.W.isFn X.K (.ref f) = true)
    (hb : Binds X.K fd ps []) (hx : Passes CX X E) (hr : Room n X.A) : PSet X (yStO C sp E) := by
  intro pins s σ H x y v xv yv vv Q I rx ry rv h
  obtain ⟨a, dx, fs, rfl, ha, hsp⟩ := h
  cases rx
  obtain ⟨mA, J, _⟩ := ins_get I.hok ha
  obtain ⟨od, J, _⟩ := J.look
  obtain ⟨m, hF⟩ := I.fr
  refine PySem.W.ksp_setItem hF I.ok.mod.kin J hq hs hfn ?_
  refine wpAny_mono (run_fn (us := [.ref a, yv, vv]) (vs := [.ref a, y, v]) (dvs := []) F hr hb .nil hx I (.cons rfl (.cons ry (.cons rv .nil))) hsp) (fun r s' q => ?_) fun _ _ e => e
  obtain ⟨z, H', I', rz, q⟩ := q
  exact ⟨H', I', q⟩
end
end XL
set_option Elab.async false
set_option linter.all false
set_option maxRecDepth 100000
set_option maxHeartbeats 4000000
/-! XTup: tuples made by a display or by +, as objects without a dict. -/
namespace XL
open PySem PySem.Spec PyProof.Rows L2
section
variable {X : Cx} {es : List Expr} {t : TA} {pos : Pos}
def tTupF (t : TA) : TE := fun σ H Q => t σ H fun xs H1 => xs.length ≤ sizeLine ∧ ∀ p ob, H1 p = none → ob.dict = none → Q (.ref p) (upd H1 p (.frz ob (.tup xs)))
theorem pe_tupF {x1} (h : PA X es t) : PE X (.Tuple es x1 pos) (tTupF t) := by
  refine ⟨fun pins s σ H Q I hq => ?_⟩
  refine wpAny_Tuple_spliced (thn (h.run pos pins s σ H _ I hq) fun us s1 ⟨xs, H1, I1, r, z, q⟩ => ⟨by rw [← r.length]; exact z, ?_⟩)
  have hf : H1 s1.heap.objs.size = none := I1.hok.fresh (Nat.le_refl _)
  refine ⟨.ref s1.heap.objs.size, _, I1.laid (t' := s1.toks) (o := .frz { cls := .type "tuple", data := .seq us.toArray } (.tup xs)) (fun b u e => Heap.get?_push_of_some _ e) (Nat.le_refl _) ?_, rfl, q _ _ hf rfl⟩
  exact ⟨Heap.get?_push_size _ rfl, z, us, r, ⟨_, Heap.get?_push_size _ rfl, rfl, _, rfl⟩⟩
def rCatF (K : PySem.W.Frag) : R2 := fun x y H Q => ∃ a b xs ys, x = .ref a ∧ y = .ref b ∧ SqT K H a xs ∧ SqT K H b ys ∧ xs.length + ys.length ≤ sizeLine ∧
  (xs = [] → Q (.ref b) H) ∧ (xs ≠ [] → ys = [] → Q (.ref a) H) ∧ (xs ≠ [] → ys ≠ [] → ∀ p ob, H p = none → ob.dict = none → Q (.ref p) (upd H p (.frz ob (.tup (xs ++ ys)))))
theorem op_catFK (K : PySem.W.Frag) (h : X.K = K := by rfl) : OpR X (binaryOp .Add) (rCatF K) := by
  subst h
  intro pins s σ H x y v u Q I rx ry h
  obtain ⟨a, b, xs, ys, rfl, rfl, ha, hb, hz, q0, q1, q2⟩ := h
  by_cases hx : xs = []
  · exact op_catA pins s σ H _ _ v u Q I rx ry ⟨a, b, xs, ys, rfl, rfl, ha, hb, hz, q0, fun z => absurd hx z, fun z => absurd hx z⟩
  · cases rx
    cases ry
    obtain ⟨its, r1, p1, _⟩ := I.tuple ha
    obtain ⟨its2, r2, p2, _⟩ := I.tuple hb
    refine HT.cat_tup p1 p2 (fun z => hx (r1.nil_iff.mp z)) (fun z => ⟨.ref a, H, I, rfl, q1 hx (r2.nil_iff.mp z)⟩) (fun z => ?_) (by rw [← r1.length, ← r2.length]; exact hz)
    refine ⟨.ref s.heap.objs.size, _, I.laid (t' := s.toks) (o := .frz { cls := .type "tuple", data := .seq (its ++ its2).toArray } (.tup (xs ++ ys))) (fun b ob q => Heap.get?_push_of_some _ q) (Nat.le_refl _) ?_, rfl, q2 hx (fun w => z (r2.nil_iff.mpr w)) _ _ (I.hok.fresh (Nat.le_refl _)) rfl⟩
    exact ⟨Heap.get?_push_size _ rfl, by rw [List.length_append]; exact hz, _, r1.append r2, IsTup.new _ _⟩
end
section
variable {K : PySem.W.Frag} {a : Addr} {xs : List V} {Qd : Hp → Prop} {B : V → Hp → (Hp → Prop) → Prop} {H0 : Hp}
/-- a clause of a comprehension over a list -/
theorem loopL (Pv : Nat → Hp → Prop) (h0 : Pv 0 H0) (hl : ∀ k H, Pv k H → SqL K H a xs) (hs : ∀ k x H, xs[k]? = some x → Pv k H → B x H (Pv (k + 1))) (hd : ∀ H, Pv xs.length H → Qd H) :
    ∃ W : Nat → Nat → Hp → Prop, (∃ m, W 0 m H0) ∧ ∀ i m H, W i m H → ((Itl K a).stop i H ∧ Qd H) ∨ ((Itl K a).go i H ∧ ∃ Nx : Hp → Prop, (∀ H', Nx H' → ∃ m', m' < m ∧ W (i + 1) m' H') ∧ ∀ x H', (Itl K a).yld i H x H' → B x H' Nx) := by
  refine ⟨fun i m H => m = xs.length - i ∧ i ≤ xs.length ∧ Pv i H, ⟨xs.length, by simp, Nat.zero_le _, h0⟩, ?_⟩
  rintro i m H ⟨rfl, hi, p⟩
  have q := hl i H p
  by_cases hlt : i < xs.length
  · refine .inr ⟨⟨xs, xs[i], q, by simp [hlt]⟩, Pv (i + 1), fun H' p' => ⟨xs.length - (i + 1), by omega, rfl, hlt, p'⟩, fun x H' y => ?_⟩
    obtain ⟨e, y⟩ := y
    subst e
    exact hs i x _ (y xs q) p
  · have e : i = xs.length := by omega
    subst e
    exact .inl ⟨⟨xs, q, Nat.le_refl _⟩, hd H p⟩
/-- a clause of a comprehension over a range -/
theorem loopR {lo : Int} {n : Nat} (Pv : Nat → Hp → Prop) (h0 : Pv 0 H0) (hs : ∀ k H, k < n → Pv k H → B (.int (lo + k)) H (Pv (k + 1))) (hd : ∀ H, Pv n H → Qd H) :
    ∃ W : Nat → Nat → Hp → Prop, (∃ m, W 0 m H0) ∧ ∀ i m H, W i m H → ((Itr lo n).stop i H ∧ Qd H) ∨ ((Itr lo n).go i H ∧ ∃ Nx : Hp → Prop, (∀ H', Nx H' → ∃ m', m' < m ∧ W (i + 1) m' H') ∧ ∀ x H', (Itr lo n).yld i H x H' → B x H' Nx) := by
  refine ⟨fun i m H => m = n - i ∧ i ≤ n ∧ Pv i H, ⟨n, by simp, Nat.zero_le _, h0⟩, ?_⟩
  rintro i m H ⟨rfl, hi, p⟩
  by_cases hlt : i < n
  · refine .inr ⟨hlt, Pv (i + 1), fun H' p' => ⟨n - (i + 1), by omega, rfl, hlt, p'⟩, fun x H' y => ?_⟩
    obtain ⟨e, y⟩ := y
    subst e y
    exact hs i _ hlt p
  · have e : i = n := by omega
    subst e
    exact .inl ⟨Nat.le_refl _, hd H p⟩
/-- row + (item,) -/
theorem cat_one {G H : Hp} {M : List (Addr × HO)} {r : Addr} {n : List Int} {i : Int} {Q : VK} (S : Sep G M H) (hr : TupF G r (n.map V.int)) (hl : n.length ≤ 1000)
    (q : ∀ (p : Addr) (G' H' : Hp), Same G G' → Sep G' M H' → TupF G' p ((n ++ [i]).map V.int) → Q (.ref p) H') :
    [V.int i].length ≤ sizeLine ∧ ∀ p ob, H p = none → ob.dict = none → rCatF K (.ref r) (.ref p) (upd H p (.frz ob (.tup [.int i]))) Q := by
  refine ⟨sz, fun p ob np hob => ?_⟩
  have S1 := S.newG (o := .frz ob (.tup [.int i])) np
  have s1 := S.grow (o := .frz ob (.tup [.int i])) np
  have h1 : TupF (upd G p (.frz ob (.tup [.int i]))) p [.int i] := ⟨ob, hob, upd_same⟩
  refine ⟨r, p, n.map V.int, [.int i], rfl, rfl, ((hr.same s1).same S1.1).tu.sq, (h1.same S1.1).tu.sq, small (by rw [List.length_map]; simp; omega), fun e => ?_, fun _ e => (nomatch e), fun _ _ p2 ob2 np2 hob2 => ?_⟩
  · have e2 : n = [] := List.map_eq_nil_iff.mp e
    subst e2
    exact q p _ _ s1 S1 h1
  · have e3 : n.map V.int ++ [V.int i] = (n ++ [i]).map V.int := by rw [List.map_append]; rfl
    rw [e3]
    exact q p2 _ _ (s1.trans (S1.grow np2)) (S1.newG np2) ⟨ob2, hob2, upd_same⟩
end
end XL
set_option Elab.async false
set_option linter.all false
set_option maxRecDepth 100000
set_option maxHeartbeats 4000000
/-! XExc: an error of the program's own, class E(ScreenError): __init__(self, x): super().__init__(f'..{x!r}'); self.x = x: made, raised, caught. -/
namespace PySem
namespace XExc
open PySem.W PySem.Calls PyProof.Rows PySem.HandSPX
/-! ### the text of __init__ -/
def iA (fld : Str) (p1 p2 : Pos) : Arguments := { posonlyargs := [], args := [{ arg := "self", annotation := none, pos := p1 }, { arg := fld, annotation := none, pos := p2 }], vararg := none, kwonlyargs := [], kw_defaults := [], kwarg := none, defaults := [] }
structure Ps where
  a : Pos
  b : Pos
  c : Pos
  d : Pos
  e : Pos
  f : Pos
  g : Pos
  h : Pos
  i : Pos
  j : Pos
  k : Pos
  l : Pos
  m : Pos
def iSup (q : Ps) : Expr := .Call (.Name "super" q.a) [] [] q.b
def iArg (fld : Str) (msg : Str) (q : Ps) : Expr := .JoinedStr [.Constant (.str msg) 0 q.d, .FormattedValue (.Name fld q.e) 114 none q.f] q.g
def iCall (fld : Str) (msg : Str) (q : Ps) : Expr := .Call (.Attribute (iSup q) "__init__" q.c) [iArg fld msg q] [] q.h
def iB (fld : Str) (msg : Str) (q : Ps) : List Stmt := [.Expr (iCall fld msg q) q.i, .Assign [.Attribute (.Name "self" q.j) fld q.k] (.Name fld q.l) q.m]
/-- how the call is evaluated (the positions decide nothing here) -/
def Evals (fld msg : Str) (q : Ps) : Prop := ∃ pl : Env → Sem Bool, ∀ env : Env, eval (iCall fld msg q) env = (do
  let ov ← attributeBase (iSup q) "__init__" env (eval (iSup q) env)
  standAt q.c.atName
  let (f, first) ← holding [ov] (getMethod ov "__init__" (pl env))
  callWith q.h f first (backTo q.h (starEach [iArg fld msg q] env)) [])
def iN (fld : Str) : List (Str × NameKind) := [(PySem.Str.ofString "self", .local), (fld, .local), (PySem.Str.ofString "__class__", .free), (PySem.Str.ofString "super", .globalImplicit)]
def iS (fld : Str) : Scope := { kind := .function, names := iN fld, isGenerator := false, isCoroutine := false, more := [] }
/-- what the written part says of the class at C and of its __init__ at fI -/
structure ExTxt (P : Program) (K : Frag) (mg : Str → Option Value) (nm fld msg : Str) (C fI : Addr) : Prop where
  gC : mg nm = some (.ref C)
  cls : ∃ nm q N bs bm sn sub ab col dd k0 k1 k2 k3 k5, K.lookup C = some (excClassObj nm q C N bs bm true sn sub ab col dd k0 k1 k2 k3 k5 "ValueError.__new__") ∧ refsVE bm = true
  sa : findIn K (.ref C) "__setattr__" = some (some (.builtin "object.__setattr__"))
  ga : findIn K (.ref C) "__getattribute__" = some (some (.builtin "BaseException.__getattribute__"))
  gg : findIn K (.ref C) "__getattr__" = some none
  noN : findIn K (.ref C) fld = some none
  iC : findIn K (.ref C) "__init__" = some (some (.ref fI))
  tC : typeIn K (.ref fI) = some (.type "function")
  kC : keepIn K (.ref C) = true
  exC : subIn K (.ref C) (.type "BaseException") = some true
  tyC : typeIn K (.ref C) = some (.type "type")
  hdC : hasDictIn K C = true
  fn : ∃ (oc kV doc pm ct : Value) (od an : Option Addr) (osl : Array (Option Value)) (qual : Str) (cda cc : Addr) (p1 p2 : Pos) (q : Ps) (vs : Array Value) (file : Str) (tf : Tok) (ccl cl : Value) (cdd cld : Option Addr) (ccs csl : Array (Option Value)),
    K.lookup fI = some ⟨oc, od, .func (ksFn "__init__" qual (iA fld p1 p2) (iB fld msg q) (iS fld) .none kV doc pm an (.ref cda) ct cc), osl⟩ ∧ codeIn K (.ref cda) qual = true ∧ K.lookup cda = some ⟨ccl, cdd, .fields vs, ccs⟩ ∧ vs[2]? = some (.str file tf) ∧
    ((P.main.file : Str) == file) = true ∧ K.lookup cc = some ⟨cl, cld, .cell (some (.ref C)), csl⟩ ∧ Evals fld msg q ∧
    ∀ x v : Value, bindArgs (ksFn "__init__" qual (iA fld p1 p2) (iB fld msg q) (iS fld) .none kV doc pm an (.ref cda) ct cc) ⟨[x, v], []⟩ = pure [(("self" : Str), x), (fld, v)]
  sup : ks_superIn K C C "__init__" = some (some (.builtin "ValueError.__init__"))
  subV : subIn K (.ref C) (.type "ValueError") = some true
  mroS : mroIn K C (.ref C) = some true
  opq : nsIn K cStatics "thirdparty.any" = some none
  htop : (P.main.scope.names.lookup ("super" : Str)).isSome = false
  hsup : mg "super" = none
  f1 : fld ≠ "self"
  f2 : fld ≠ "__class__"
  f3 : fld ≠ "super"
  f4 : (fld == ("__debug__" : Str)) = false
  ml : msg.length ≤ 1000
/-- where the program stands -/
def PF (P : Program) (fl : Str) : Prop := ((P.main.file : Str) == fl) = true ∧ (P.main.scope.names.lookup ("super" : Str)).isSome = false
/-- what can be told in the message -/
def Rp (v : Value) : Prop := (∃ (y : Str) (t : Tok), v = .str y t ∧ (reprText y).length ≤ 100000) ∨ ∃ (i : Int) (t : Tok), v = .int i t ∧ i.natAbs.log2 < 1920
structure InitEnd (h h' : Heap) (x C dx : Addr) (fld : Str) (v : Value) : Prop where
  keep : ∀ b o, b ≠ x → h.get? b = some o → h'.get? b = some o
  obj : ∃ t1 : Addr, h'.get? x = some { cls := .ref C, dict := some dx, data := .fields #[.ref t1, .none, .none, .none, .bool false, .none] }
  dbig : h.objs.size ≤ dx
  dne : dx ≠ x
  ns : h'.Ns1 dx (fun y => if y = fld then some v else none)
structure OwnMade (h h' : Heap) (e C d : Addr) (fld : Str) (v : Value) : Prop where
  keep : ∀ b o, h.get? b = some o → h'.get? b = some o
  new : h.objs.size ≤ e
  obj : ∃ oe vs, h'.get? e = some oe ∧ oe.cls = .ref C ∧ oe.dict = some d ∧ oe.data = .fields vs ∧ vs[1]? = some .none
  dbig : h.objs.size ≤ d
  dne : d ≠ e
  ns : h'.Ns1 d (fun y => if y = fld then some v else none)
section
variable {prog : Program} {w : World} {A : Around} {E : Value → Shared → Prop} {h : Heap} {g : Array GenState} {d : Drawn} {t : Nat} {os : OsState}
variable {nm q : Str} {C N : Addr} {bs bm : List Value} {hdct : Bool} {sn : List Str} {sub : List Value} {ab : Bool} {col : Option Bool} {dd : Option Addr} {k0 k1 k2 k3 k5 : Option Value}
theorem call_mw {u e t0 : Addr} {rest : List Value} {Q : Value → Shared → Prop}
    (hC : h.get? C = some (excClassObj nm q C N bs bm hdct sn sub ab col dd k0 k1 k2 k3 k5 "ValueError.__new__")) (he : h.get? e = some (excO C t0)) (hu : h.get? u = some (kxs_mw "ValueError.__init__" e)) (hrest : rest.length ≤ sizeLine)
    (hq : ∀ h' t1, (∀ b o, b ≠ e → h.get? b = some o → h'.get? b = some o) → h.objs.size ≤ h'.objs.size → h'.get? e = some (excO C t1) → Q .none ⟨h', g, d, t, os⟩) :
    wpAny (model prog w) A (call (.ref u) rest) Q E ⟨h, g, d, t, os⟩ := by
  refine wpAny_call (codeAny_of_tree ?_)
  show wpAny _ A.in1 (callAny (.ref u) ⟨rest, []⟩) _ _ _
  simp only [callAny]
  refine wpAny_bind (wpAny_load hu ?_)
  simp only [kxs_mw, show (Value.type "method-wrapper" == Value.type "method" || Value.type "method-wrapper" == Value.type "builtin_function_or_method" || Value.type "method-wrapper" == Value.type "method-wrapper") = true by decide, if_true]
  refine W.KFB.if_so (by decide) ?_
  refine wpAny_bind (check_bound_init F.excBase_ValueError.toExcCallFacts hC he rfl ?_)
  refine wpAny_bind (wpAny_pure (wpAny_pure ?_))
  refine ⟨plainId_quiet F.excBase_ValueError.init.plain _, codeAny_builtin F.excBase_ValueError.initEntry ?_⟩
  rw [Around.under_plainId F.excBase_ValueError.init.plain _]
  wp_walk
  refine hq _ h.objs.size (fun b o hb ho => ?_) ?_ ?_
  · rw [Heap.get?_update_other _ _ (Ne.symm hb)]
    exact Heap.get?_push_of_some _ ho
  · simp [Heap.size_push]
  · rw [Heap.get?_update_self _ (Heap.get?_push_of_some _ he) rfl]
    rfl
end
section
variable {prog : Program} {w : World} {A : Around} {E : Value → Shared → Prop} {R : Result → Shared → Prop} {s : Shared} {K : Frag} {mg mb : Str → Option Value} {nm fld msg : Str} {C fI : Addr}
theorem one_size (v : Value) : [v].length ≤ sizeLine := by
  rw [sizeLine_eq]
  exact (by decide : 1 ≤ 16777216)
/-- f'..{v!r}' -/
theorem told_ok {env : Env} {q : Ps} {m : Str → Option Value} {v : Value} {Q : Value → Shared → Prop} (hn : s.heap.Ns env.locals m) (hv : m fld = some v) (hr : Rp v) (hml : msg.length ≤ 1000) (hk : env.scope.kind = .function) (hl : env.kindOf fld = some .local) (hd : (fld == ("__debug__" : Str)) = false)
    (h : ∀ u tk, Q u { s with toks := tk }) : wpAny (model prog w) A (eval (iArg fld msg q) env) Q E s := by
  unfold iArg
  have sm : ∀ n : Nat, n ≤ 200000 → n ≤ sizeLine := fun n hn => Nat.le_trans hn (by decide)
  refine wpAny_JoinedStr ?_
  have e0 : evalEach [Expr.Constant (.str msg) 0 q.d, .FormattedValue (.Name fld q.e) 114 none q.f] env = [eval (.Constant (.str msg) 0 q.d) env, eval (.FormattedValue (.Name fld q.e) 114 none q.f) env] := by first | rfl | simp [evalEach]
  rw [e0]
  refine Calls.Constant_str ⟨msg, _, rfl, ?_, ?_⟩
  · rw [Str.length_append]
    exact sm _ (by show 0 + msg.length ≤ _; omega)
  refine wpAny_FormattedValue_repr (ESX.ldL hn hv ?_ hk hl hd)
  rcases hr with ⟨y, t, rfl, hz⟩ | ⟨i, t, rfl, hz⟩
  · have hz' : (reprText y).length ≤ sizeLine := sm _ (by omega)
    have out : ∀ (tk : Tok) (tt : Nat), ∃ (y' : Str) (t' : Tok), Value.str (reprText y) tk = .str y' t' ∧ (Str.empty ++ msg ++ y').length ≤ sizeLine ∧ Joins (model prog w) A E [] (Str.empty ++ msg ++ y') (fun out s₁ => out.length ≤ sizeLine ∧ Q (.str out s₁.toks) { s₁ with toks := s₁.toks + 1 }) { s with toks := tt } := fun tk tt => by
      have hl : (Str.empty ++ msg ++ reprText y).length ≤ sizeLine := by
        rw [Str.length_append, Str.length_append]
        exact sm _ (by show 0 + msg.length + _ ≤ _; omega)
      exact ⟨_, _, rfl, hl, hl, h _ _⟩
    exact pyReprObj_str (wpAny_formatField_str (out _ _) (out _ _) hz') hz'
  · have hz' := int_text_fits hz
    have ln : (toString i : Str).length ≤ 100000 := by
      have e := int_text_length_le (k := 1920) (by decide) hz
      show (Str.ofString (toString i)).length ≤ 100000
      rw [ofString_length]
      omega
    have out : ∀ (tk : Tok) (tt : Nat), ∃ (y' : Str) (t' : Tok), Value.str (toString i) tk = .str y' t' ∧ (Str.empty ++ msg ++ y').length ≤ sizeLine ∧ Joins (model prog w) A E [] (Str.empty ++ msg ++ y') (fun out s₁ => out.length ≤ sizeLine ∧ Q (.str out s₁.toks) { s₁ with toks := s₁.toks + 1 }) { s with toks := tt } := fun tk tt => by
      have hl : (Str.empty ++ msg ++ (toString i : Str)).length ≤ sizeLine := by
        rw [Str.length_append, Str.length_append]
        exact sm _ (by show 0 + msg.length + _ ≤ _; omega)
      exact ⟨_, _, rfl, hl, hl, h _ _⟩
    exact pyReprObj_int hz (wpAny_formatField_str (out _ _) (out _ _) hz')
end
section
variable {prog : Program} {w : World} {A : Around} {E : Value → Shared → Prop} {R : Result → Shared → Prop} {K : Frag} {mg mb : Str → Option Value} {nm fld msg : Str} {C fI : Addr}
theorem kept_but {K : Frag} {h h' : Heap} {x : Addr} (X : K.In h) (hx : K.lookup x = none) (k : ∀ b o, b ≠ x → h.get? b = some o → h'.get? b = some o) : K.In h' := fun a o e =>
  k a o (fun z => by rw [z, hx] at e; cases e) (X a o e)
theorem exc_init (T : ExTxt prog K mg nm fld msg C fI) {x t0 : Addr} {v : Value} {hp : Heap} {g : Array GenState} {dr : Drawn} {tk : Nat} {os : OsState} (X : K.In hp) (hlim : hp.NoLimit) (hG : hp.Ns mainGlobals mg) (hB : hp.Ns builtinsNs mb) (hbb : ∀ x : Str, x ≠ "__name__" → mb x = bootBuiltins x)
    (hx : hp.get? x = some (excO C t0)) (hnx : K.lookup x = none) (hroom : A.depth < recursionLimit) (hr : Rp v)
    (hq : ∀ h' tk' dx, InitEnd hp h' x C dx fld v → R (.ok (.ret .none)) ⟨h', g, dr, tk', os⟩) :
    codeAny (model prog w) A (.call (.ref fI) ⟨[.ref x, v], []⟩) R ⟨hp, g, dr, tk, os⟩ := by
  obtain ⟨oc, kV, doc, pm, ct, od, an, osl, qual, cda, cc, p1, p2, q, vs, file, tf, ccl, cl, cdd, cld, ccs, csl, ho, hcd, hcda, hvs, hfile, hcc, ⟨pl, hev⟩, hbind⟩ := T.fn
  obtain ⟨nm', q', N, bs, bm, sn, sub, ab, col, dd, k0, k1, k2, k3, k5, hC, hbm⟩ := T.cls
  have hcl : clsIn K C = some { name := nm', bases := bs, mro := .ref C :: bm, ns := N, qualname := q', hasDict := true, slotNames := sn, subclasses := sub, abstract := ab, collection := col, hasDel := false } := by unfold clsIn; rw [hC] <;> rfl
  have e1 : (iS fld).names.lookup fld = some .local := by
    show (iN fld).lookup fld = _
    unfold iN
    have z : (fld == PySem.Str.ofString "self") = false := by simpa using T.f1
    simp [List.lookup, z]
  have e2 : (iS fld).names.lookup ("self" : Str) = some .local := rfl
  have e3 : (iS fld).names.lookup ("__class__" : Str) = some .free := by
    show (iN fld).lookup ("__class__" : Str) = _
    unfold iN
    have z : (("__class__" : Str) == fld) = false := by simpa using Ne.symm T.f2
    have z2 : (("__class__" : Str) == PySem.Str.ofString "self") = false := by decide
    simp [List.lookup, z, z2]
  have e4 : (iS fld).names.lookup ("super" : Str) = some .globalImplicit := by
    show (iN fld).lookup ("super" : Str) = _
    unfold iN
    have z : (("super" : Str) == fld) = false := by simpa using Ne.symm T.f3
    have z2 : (("super" : Str) == PySem.Str.ofString "self") = false := by decide
    have z3 : (("super" : Str) == PySem.Str.ofString "__class__") = false := by decide
    simp [List.lookup, z, z2, z3]
  refine ks_codeAny_call_defAt (fd := ksFn "__init__" qual (iA fld p1 p2) (iB fld msg q) (iS fld) .none kV doc pm an (.ref cda) ct cc) (body := iB fld msg q) (binds := [("self", .ref x), (fld, v)]) hroom (X _ _ ho) rfl hlim (codeRec_of X hcd) rfl (BindsTo.of_eq (hbind _ _)) ?_ ?_ (fun h₁ hn k => ?_) rfl rfl rfl
  · intro y hy
    have hy : y ∈ iN fld := hy
    unfold iN at hy
    simp only [List.mem_cons, List.not_mem_nil, or_false] at hy
    rcases hy with rfl | rfl | rfl | rfl <;> exact fun z => nomatch z
  · intro y hy
    simp only [List.mem_cons, List.not_mem_nil, or_false] at hy
    rcases hy with rfl | rfl
    · exact e2
    · exact e1
  have X₁ : K.In h₁ := X.keeps k
  have hxL : hp.objs.size ≠ x := Nat.ne_of_gt (Heap.lt_size hx)
  have hx₁ := k _ _ hx
  have mS : List.lookup ("self" : Str) (List.reverse [(("self" : Str), Value.ref x), (fld, v)]) = some (.ref x) := by
    show List.lookup ("self" : Str) [(fld, v), (("self" : Str), Value.ref x)] = _
    have z : (("self" : Str) == fld) = false := by simpa using Ne.symm T.f1
    simp [List.lookup, z]
  have mF : List.lookup fld (List.reverse [(("self" : Str), Value.ref x), (fld, v)]) = some v := by
    show List.lookup fld [(fld, v), (("self" : Str), Value.ref x)] = _
    simp [List.lookup]
  refine ks_wpAt_execs_cons (ks_wpAt_Expr_any (ks_wpAt_MethodCall (o := iSup q) (name := "__init__") (he := hev _) ?_))
  have oC := X₁ _ _ hC
  refine ks_wpAt_super_base (env := callEnv (ksFn "__init__" qual (iA fld p1 p2) (iB fld msg q) (iS fld) .none kV doc pm an (.ref cda) ct cc) hp.objs.size fI) e4 e3 (by decide) rfl (X₁ _ _ ho) rfl rfl rfl (X₁ _ _ hcda) rfl hvs hfile T.htop ?_
  refine ks_loadName_global rfl e4 (loadGlobal_builtin (hG.keeps k) T.hsup (hB.keeps k) ((hbb _ (by decide +kernel)).trans (by first | boot_by_name | rfl | kernel_rfl)) ⟨rfl, ?_⟩)
  refine wpAny_loadName_free rfl e3 rfl ⟨_, X₁ _ _ hcc, rfl⟩ ?_
  refine wpAny_loadName_local rfl e2 hn mS ?_
  refine ks_wpAny_isType_cls oC rfl ⟨rfl, ?_⟩
  refine ks_wpAny_call_super oC rfl hx₁ rfl (fun c e => (nomatch e)) (looks_mroIn X₁ T.mroS) (fun h₂ hso k₂ => ?_)
  have X₂ : K.In h₂ := X₁.keeps k₂
  have hx₂ := k₂ _ _ hx₁
  have hsup : alongIn K "__init__" (((Value.ref C :: bm).dropWhile (· != .ref C)).drop 1) = some (some (.builtin "ValueError.__init__")) := by
    have z := T.sup
    unfold ks_superIn at z
    rw [hcl] at z
    exact z
  have I₂ : InstAt h₂ x (excO C t0) C none := ⟨hx₂, rfl, rfl, trivial⟩
  refine kxs_getMethod kxs_ValueError hso (looks_opaque X₂ T.opq) (l₀ := .ref C :: bm) ?_ rfl X₂ hsup (I₂.type.andThen (looks_subIn X₂ T.subV)) (ks_ne X₂ I₂ hcl) (by decide) ?_
  · exact fun A Q E s k q => wpAny_bind ((looks_clsIn X₂ hcl) A _ E s k (wpAny_pure q))
  have hu : (h₂.push (kxs_mw "ValueError.__init__" x)).get? h₂.objs.size = some (kxs_mw "ValueError.__init__" x) := Heap.get?_push_at rfl rfl
  have k₃ : ∀ b o, h₂.get? b = some o → (h₂.push (kxs_mw "ValueError.__init__" x)).get? b = some o := fun b o e => Heap.get?_push_of_some _ e
  have X₃ := X₂.keeps k₃
  have hn₃ : (h₂.push (kxs_mw "ValueError.__init__" x)).Ns hp.objs.size _ := (hn.keeps k₂).keeps k₃
  refine kxs_callWith (i := "ValueError.__init__") (x := x) rfl (evalArgs_plain ?_)
  show wpAny _ _ (spliced ((false, eval (iArg fld msg q) _) :: backTo q.h (starEach [] _))) _ _ _
  refine Calls.spliced_cons (told_ok hn₃ mF hr T.ml rfl e1 T.f4 fun u tk' => Calls.spliced_nil ⟨hu, ?_⟩)
  show wpAny _ _ (call (.ref h₂.objs.size) [u]) _ _ _
  refine call_mw (X₃ _ _ hC) (k₃ _ _ hx₂) hu (one_size _) fun h₄ t1 k₄ sz₄ hx₄ => ?_
  show wpAt _ _ _ (execs _ _) _ _ _
  refine wpAt_of_wpAny ?_
  have X₄ : K.In h₄ := kept_but X₃ hnx k₄
  have hn₄ : h₄.Ns hp.objs.size (fun x_1 => List.lookup x_1 (List.reverse [(("self" : Str), Value.ref x), (fld, v)])) := by
    obtain ⟨oL, es, ep, hL, r⟩ := hn₃
    exact ⟨oL, es, ep, k₄ _ _ hxL hL, r⟩
  refine wpAny_execs_cons (plainObj_wpAny_Assign_Attribute ?_)
  refine ESX.ldL hn₄ mF (ESX.ldL hn₄ mS ?_ rfl e2) rfl e1 T.f4
  refine set_plain X₄ (ox := excO C t1) (od := none) ⟨hx₄, rfl, rfl, trivial⟩ T.sa ?_
  refine exc_osa X₄ hx₄ hcl (show refsVE (.ref C :: bm) = true from hbm) rfl T.noN (fun h₅ tk₅ dx k₅ dn dne hx₅ hn₅ => ?_)
  show wpAny _ _ (execs _ _) _ _ _
  have z : hp.objs.size < h₄.objs.size := hn₄.lt
  exact wpAny_execs_nil (hq h₅ tk₅ dx ⟨fun b o hb e => k₅ b o hb (k₄ b o hb (k₃ b o (k₂ b o (k b o e)))), ⟨t1, hx₅⟩, Nat.le_of_lt (Nat.lt_of_lt_of_le z dn), dne, hn₅⟩)
end
section
variable {prog : Program} {w : World} {A : Around} {R : Result → Shared → Prop} {K : Frag} {mg mb : Str → Option Value} {nm fld msg : Str} {C fI : Addr}
theorem exc_made (T : ExTxt prog K mg nm fld msg C fI) {v : Value} {hp : Heap} {g : Array GenState} {dr : Drawn} {tk : Nat} {os : OsState} (X : K.In hp) (hlim : hp.NoLimit) (hG : hp.Ns mainGlobals mg) (hB : hp.Ns builtinsNs mb) (hbb : ∀ x : Str, x ≠ "__name__" → mb x = bootBuiltins x) (hroom : A.depth + 1 < recursionLimit) (hr : Rp v)
    (hq : ∀ h' tk' e d, OwnMade hp h' e C d fld v → R (.ok (.ret (.ref e))) ⟨h', g, dr, tk', os⟩) :
    codeAny (model prog w) A (.call (.ref C) ⟨[v], []⟩) R ⟨hp, g, dr, tk, os⟩ := by
  obtain ⟨nm', q', N, bs, bm, sn, sub, ab, col, dd, k0, k1, k2, k3, k5, hC, hbm⟩ := T.cls
  have k : ∀ b o, hp.get? b = some o → ((hp.push (kdv_tup [v])).push (excO C hp.objs.size)).get? b = some o := fun b o e => Heap.get?_push_of_some _ (Heap.get?_push_of_some _ e)
  have hget : ((hp.push (kdv_tup [v])).push (excO C hp.objs.size)).get? (hp.objs.size + 1) = some (excO C hp.objs.size) := by heap_get
  have hnx : K.lookup (hp.objs.size + 1) = none := by
    cases e : K.lookup (hp.objs.size + 1) with
    | none => rfl
    | some o =>
      have z : hp.get? (hp.objs.size + 1) = some o := X _ _ e
      exact absurd (Nat.lt_of_succ_lt (Heap.lt_size z)) (Nat.lt_irrefl _)
  refine call_own F.excBase_ValueError (fun X => refsVE_contains X bm hbm) (X _ _ hC) (looks_findIn X T.iC) (fun self => bind_fn X self T.tC) (one_size v) ?_
  refine exc_init (tk := tk) T (X.keeps k) (hlim.keeps k) (hG.keeps k) (hB.keeps k) hbb hget hnx ?_ hr fun h' tk' dx ⟨k', ⟨t1, hx⟩, dn, dne, hns⟩ => ?_
  · show A.depth + 1 < recursionLimit
    exact hroom
  · have old : ∀ b o, hp.get? b = some o → h'.get? b = some o := fun b o e => k' b o (Nat.ne_of_lt (Nat.lt_succ_of_lt (Heap.lt_size e))) (k b o e)
    have z : hp.objs.size + 1 + 1 ≤ dx := by
      first
        | (simpa only [Heap.size_push] using dn)
        | exact dn
        | (have q := dn; rw [Heap.size_push, Heap.size_push] at q; exact q)
    exact ⟨rfl, hq h' tk' (hp.objs.size + 1) dx ⟨old, Nat.le_succ _, ⟨_, _, hx, rfl, rfl, rfl, rfl⟩, Nat.le_trans (Nat.le_trans (Nat.le_succ _) (Nat.le_succ _)) z, dne, hns⟩⟩
end
end XExc
end PySem
namespace XL
open PySem PySem.Spec PyProof.Rows L2
/-! ### the error, over the abstract heap -/
def RpV (v : V) : Prop := (∃ y : Str, v = .str y ∧ (reprText y).length ≤ 100000) ∨ ∃ i : Int, v = .int i ∧ i.natAbs.log2 < 1920
theorem RpV.rp {v : V} {u : Value} (h : RpV v) (r : RelV v u) : PySem.XExc.Rp u := by
  rcases h with ⟨y, rfl, hz⟩ | ⟨i, rfl, hz⟩
  · obtain ⟨t, rfl⟩ := r
    exact .inl ⟨y, t, rfl, hz⟩
  · obtain ⟨t, rfl⟩ := r
    exact .inr ⟨i, t, rfl, hz⟩
theorem relO_one {fld : Str} {v : V} {v' : Value} (r : RelV v v') (f : Str) : RelO (List.lookup f [(fld, v)]) (if f = fld then some v' else none) := by
  by_cases hw : f = fld
  · subst hw
    rw [if_pos rfl]
    have q : List.lookup f [(f, v)] = some v := by simp [List.lookup]
    rw [q]
    exact r
  · rw [if_neg hw]
    have qw : (f == fld) = false := by simpa using hw
    have q2 : List.lookup f [(fld, v)] = none := by simp [List.lookup, qw]
    rw [q2]
    trivial
section
variable {X : Cx} {C fI : Addr} {nm fld msg : Str}
def tMkX (C : Addr) (fld : Str) (ta : TA) : L2.St → Hp → XK → Prop := fun σ H Q => ta σ H fun vs H1 => ∃ v, vs = [v] ∧ RpV v ∧ ∀ d, H1 d = none → Q (.ref C) (some d) (upd H1 d (.xd [(fld, v)]))
theorem pmk_x {a : Expr} {ta : TA} {p pos : Pos} {k : Nat} (T : PySem.XExc.ExTxt X.prog X.K X.mg nm fld msg C fI) (hr : Room (k + 1) X.A) (ha : PA X [a] ta) (hg : Gl X nm := by rfl) (hd : (nm == ("__debug__" : Str)) = false := by decide)
    (he : starEach (a :: []) X.env = (false, eval a X.env) :: starEach [] X.env := by rfl) (hpl : (backTo pos (starEach [] X.env)).any (·.1) = false := by rfl) :
    PMk X (.Call (.Name nm p) [a] [] pos) (tMkX C fld ta) := by
  intro pins s σ H Q I h
  refine wpAny_Call_Name_kw (ld_glob I hg T.gC ?_ hd)
  refine PySem.W.callWith_K (h₀ := X.base) I.ok.mod.kin T.kC (thn (ha.run pos pins s σ H _ I h) fun us s1 hh => ?_) he hpl
  obtain ⟨vs, H1, I1, r1, v, ev, rp, q1⟩ := hh
  subst ev
  refine ⟨I1.kIn, ?_⟩
  cases r1 with
  | cons rv rn =>
    rename_i v' us'
    cases rn
    show wpAny _ _ (call (.ref C) [v']) _ _ _
    have hlim := I1.nolimit
    have hG := I1.mod.glob.keeps I1.bk
    obtain ⟨mb, hB, hbb⟩ := I1.mod.blt
    have hB := hB.keeps I1.bk
    obtain ⟨hp, g, dr, tk, os⟩ := s1
    refine wpAny_call (PySem.XExc.exc_made T I1.kIn hlim hG hB hbb (by have := hr.dp; omega) (rp.rp rv) fun h' tk' e d M => ?_)
    show MkP X pins σ Q (.ref e) ⟨h', g, dr, tk', os⟩
    obtain ⟨oe, fv, hoe, hc, hd, hdat, h1⟩ := M.obj
    have hns := M.ns
    obtain ⟨G', g1, g2⟩ := restrict h' fun b => decide (b ≠ e)
    have gk : ∀ b, b ≠ e → G'.get? b = h'.get? b := fun b hb => g1 b (decide_eq_true hb)
    have ge : G'.get? e = none := g2 e (by simp)
    have old : ∀ b o, hp.get? b = some o → G'.get? b = some o := fun b o q => (gk b (Nat.ne_of_lt (Nat.lt_of_lt_of_le (Heap.lt_size q) M.new))).trans (M.keep b o q)
    have ob : ObjOk X.prog X.w (upd H1 d (.xd [(fld, v)])) G' d (.xd [(fld, v)]) :=
      ⟨_, hns.at (fun o q => (gk d M.dne).trans q), fun f => relO_one rv f⟩
    have J : Inv X pins σ (upd H1 d (.xd [(fld, v)])) ⟨G', g, dr, tk', os⟩ := I1.laid (t' := tk') old M.dbig ob
    refine ⟨e, oe, fv, ⟨G', g, dr, tk', os⟩, _, .ref C, some d, rfl, J, fun b o q => ?_, ge, hoe, ⟨hc, hd⟩, hdat, h1, ?_, rfl, I1.bare, raises_own T.exC T.tyC, q1 d (I1.hok.fresh M.dbig)⟩
    · by_cases hb : b = e
      · have q' : G'.get? b = some o := q
        rw [hb, ge] at q'; cases q'
      · exact (gk b hb).symm.trans q
    · rw [upd_ne (Ne.symm M.dne)]
      exact I1.hok.fresh M.new
def tRaiseX (C : Addr) (fld : Str) (W : WX) (ta : TA) : TS := fun _ σ H => tMkX C fld ta σ H fun cls d H' => W cls d σ H'
theorem ps_raiseX {a : Expr} {ta : TA} {W : WX} {p pos pos2 : Pos} {k : Nat} (hc : X.calm = true) (T : PySem.XExc.ExTxt X.prog X.K X.mg nm fld msg C fI) (hr : Room (k + 1) X.A) (tk : Takes X W) (ha : PA X [a] ta) (hg : Gl X nm := by rfl) (hd : (nm == ("__debug__" : Str)) = false := by decide)
    (he : starEach (a :: []) X.env = (false, eval a X.env) :: starEach [] X.env := by rfl) (hpl : (backTo pos (starEach [] X.env)).any (·.1) = false := by rfl) :
    PS X (.Raise (some (.Call (.Name nm p) [a] [] pos)) none pos2) (tRaiseX C fld W ta) := ps_raise hc tk (pmk_x T hr ha hg hd he hpl)
end
/-! ### isinstance(e, c), isinstance(e, (c, ..)) of a caught error -/
section
variable {X : Cx} {a : Addr} {oe : Obj} {cls : Value} {d : Option Addr} {pn : List (Addr × Obj)}
inductive ClsRs : List V → List Value → Prop where
  | nil : ClsRs [] []
  | cons {c : Addr} {cs : List V} {us : List Value} (h : ClsRs cs us) : ClsRs (.ref c :: cs) (.ref c :: us)
theorem ClsRs.eq : ∀ {cs : List V} {us : List Value}, ClsRs cs us → ∀ {ws : List Value}, Vals cs ws → ws = us
  | _, _, .nil, _, .nil => rfl
  | _, _, .cons h, _, .cons r rs => by
    cases r
    rw [h.eq rs]
def rIsX (K : PySem.W.Frag) (cls : Value) (d : Option Addr) (a : Addr) : List V → Hp → VK → Prop := fun xs H Q => ∃ (D dd : Addr) (fs : List (Str × V)) (b : Bool), cls = .ref D ∧ d = some dd ∧ H dd = some (.xd fs) ∧ ExcC K D ∧
  ((∃ (c : V) (cv : Value), xs = [.ref a, c] ∧ (∀ u, RelV c u → u = cv) ∧ PySem.W.kitOne K (.ref D) cv = some b) ∨ ∃ (p : Addr) (cs : List V) (us : List Value), xs = [.ref a, .ref p] ∧ H p = some (.tup cs) ∧ ClsRs cs us ∧ PySem.W.kitAny K (.ref D) us = some b) ∧ Q (.bl b) H
theorem call_isX (hz : Zc cls d oe) (hf : ∃ vs, oe.data = .fields vs) : CallR (X.suite a ((a, oe) :: pn)) (.builtin "isinstance") (rIsX X.K cls d a) := by
  intro pins s σ H xs us Q I r h
  obtain ⟨D, dd, fs, b, rfl, rfl, hd, C, hcs, q⟩ := h
  obtain ⟨hget, _⟩ := I.pin (a, oe) (List.mem_append.mpr (.inl List.mem_cons_self))
  obtain ⟨vs, hv⟩ := hf
  have hx : ObjOk X.prog X.w H s.heap dd (.xd fs) := I.hok dd _ hd
  obtain ⟨mA, hns, _⟩ := hx
  obtain ⟨od, ho, _⟩ := lookIn_ns hns
  have J : PySem.W.InstAt s.heap a oe D (some od) := ⟨hget, hz.1, by unfold PySem.W.notCls; rw [hv] <;> rfl, by rw [hz.2]; exact ho⟩
  have cl : (PySem.W.clsIn X.K D).isSome = true := by
    obtain ⟨cd, hc, _⟩ := PySem.W.any_some C.hd
    rw [hc]
    rfl
  have Z := PySem.W.kitx_exc (x := a) (ox := oe) (od := some od) cl C.hg C.hk C.hs C.ha C.hn C.ht C.hm
  rcases hcs with ⟨c, cv, rfl, hcv, e⟩ | ⟨p, cs, us2, rfl, hp, hc, e⟩
  · cases r with
    | cons rx rr =>
      cases rr with
      | cons rt rr =>
        cases rr
        cases rx
        have ec := hcv _ rt
        subst ec
        exact PySem.W.kia_one Z I.kIn J e (fun z => nomatch z) fun tk => ⟨.bl b, H, I.kept (t' := tk) fun _ _ z => z, rfl, q⟩
  · cases r with
    | cons rx rr =>
      cases rr with
      | cons rt rr =>
        cases rr
        cases rx
        cases rt
        obtain ⟨_, its, rv, o, h1, h2, n, h3⟩ := (show ObjOk X.prog X.w H s.heap p (.tup cs) from I.hok p _ hp)
        have ei := hc.eq rv
        subst ei
        obtain ⟨oc, od', oda, osl⟩ := o
        dsimp only at h2 h3
        subst h2 h3
        exact PySem.W.kia_tup Z I.kIn J h1 e (fun z => nomatch z) fun tk => ⟨.bl b, H, I.kept (t' := tk) fun _ _ z => z, rfl, q⟩
end
/-! ### own [ ] and [ ] = within a try -/
section
variable {X : Cx} {CX : CXT} {C f : Addr} {fd : FuncData} {ps : List Str} {sp : Sp} {E : L2.St → XK} {n : Nat} {o i e : Expr} {to ti te : TE} {pos pos' : Pos}
def tIxOS (C : Addr) (sp : Sp) (E : L2.St → XK) (to ti : TE) : TE := fun σ H Q => to σ H fun x H1 => ti σ H1 fun y H2 => ∃ a dx fs, x = .ref a ∧ H2 a = some (.ins C dx fs) ∧ sp [.ref a, y] H2 Q (E σ)
theorem pe_ixOS (ho : PE X o to) (hi : PE X i ti) (F : FnOk X.prog X.w X.K X.mg X.base CX n f fd ps sp) (hs : PySem.W.findIn X.K (.ref C) "__getitem__" = some (some (.ref f))) (hf : PySem.W.fnIn X.K f = true) (hfn : PySem.W.isFn X.K (.ref f) = true)
    (hb : Binds X.K fd ps []) (hx : ∀ σ, PassesAt CX X σ (E σ)) (hr : Room (n + 1) X.A) (hsl : ∀ x v, subscripted i true (.ref x) v = runValue (.builtin "lifetime.subscript" ⟨[.ref x, v], []⟩) := by intro _ _; with_unfolding_all rfl) :
    PE X (.Subscript o i pos) (tIxOS C sp E to ti) := by
  refine ⟨fun pins s σ H Q I h => ?_⟩
  refine Subscript_ (thn (ho.run pins s σ H _ I h) fun v s1 ⟨x, H1, I1, r1, q1⟩ => thn (hi.run pins s1 σ H1 _ I1 q1) fun u s2 ⟨y, H2, I2, r2, q2⟩ => ?_)
  obtain ⟨a, dx, fs, rfl, ha, hsp⟩ := q2
  cases r1
  obtain ⟨mA, J, _⟩ := ins_get I2.hok ha
  obtain ⟨od, J, _⟩ := J.look
  obtain ⟨m, hF⟩ := I2.fr
  refine PySem.W.sub_K hF I2.ok.mod.kin J hs hf hfn ?_ (hsl _ _)
  have hl : ([Value.ref a, u] ++ []).length = ps.length := F.len _ _ _ _ hsp
  refine wpAny_call (codeAny_mono (F.run X.A.in1 X.stack s2 H2 ⟨[.ref a, u], []⟩ [.ref a, u] [.ref a, y] Q (E σ) hr.in1 I2.env0.in1 (hb s2 [.ref a, u] I2.kIn hl) (.cons rfl (.cons r2 .nil)) hsp) fun r s' hq => ?_)
  cases r with
  | error e => exact hx σ pins H2 s2 e s' I2 hq
  | ok fl =>
    cases fl with
    | ret u => exact I2.after hq
    | next => exact False.elim hq
    | brk => exact False.elim hq
    | cont => exact False.elim hq
def gSubS (C : Addr) (sp : Sp) (E : L2.St → XK) (to ti : TE) : TG := fun v σ H Q => to σ H fun x H1 => ti σ H1 fun y H2 => ∃ a dx fs, x = .ref a ∧ H2 a = some (.ins C dx fs) ∧ sp [.ref a, y, v] H2 (fun _ H' => Q σ H') (E σ)
theorem pg_subOS (ho : PE X o to) (hi : PE X i ti) (F : FnOk X.prog X.w X.K X.mg X.base CX n f fd ps sp) (hq : PySem.W.noSeq X.K C = true) (hs : PySem.W.findIn X.K (.ref C) "__setitem__" = some (some (.ref f))) (hfn : PySem.W.isFn X.K (.ref f) = true)
    (hb : Binds X.K fd ps []) (hx : ∀ σ, PassesAt CX X σ (E σ)) (hr : Room n X.A)
    (ha : ∀ v, assign (.Subscript o i pos) X.env v = (do
      let ov ← holding [v] (eval o X.env)
      let iv ← holding [v, ov] (eval i X.env)
      standAt pos
      holding [v, ov, iv] (setItem ov iv v)
      release [v, ov, iv] []) := by intro _; rfl) : PG X (.Subscript o i pos) (gSubS C sp E to ti) := by
  refine ⟨fun pins s σ H v u Q I r h => ?_⟩
  rw [ha]
  refine wpAny_bind (wpAny_holding (thn (ho.run pins s σ H _ I h) fun ov s1 ⟨x, H1, I1, r1, q1⟩ => ?_))
  refine wpAny_bind (wpAny_holding (thn (hi.run pins s1 σ H1 _ I1 q1) fun iv s2 ⟨y, H2, I2, r2, q2⟩ => ?_))
  obtain ⟨a, dx, fs, rfl, ha2, hsp⟩ := q2
  cases r1
  obtain ⟨mA, J, _⟩ := ins_get I2.hok ha2
  obtain ⟨od, J, _⟩ := J.look
  obtain ⟨m, hF⟩ := I2.fr
  refine wpAny_bind (wpAny_standAt (wpAny_bind (wpAny_holding (PySem.W.ksp_setItem hF I2.ok.mod.kin J hq hs hfn ?_))))
  refine wpAny_mono (run_fnS (us := [.ref a, iv, u]) (vs := [.ref a, y, v]) (E := E) F hr hb (hx σ) I2 (.cons rfl (.cons r2 (.cons r .nil))) hsp) (fun r s' q => ?_) fun _ _ e => e
  obtain ⟨z, H', I', rz, q⟩ := q
  exact wpAny_release ⟨σ, H', I', q⟩
end
end XL
set_option Elab.async false
set_option linter.all false
set_option maxRecDepth 100000
set_option maxHeartbeats 4000000
/-! XOwnIt: list(o), o an object whose own __iter__ hands on iter(t), t a tuple. -/
namespace XL
open PySem PySem.Spec PyProof.Rows L2
/-- an iterator over the tuple at t, the next place is i -/
def ItT (t it : Addr) (i : Nat) : HO := .ext fun h => IsTupIter h it t i
/-- .. that has ended -/
def ItTE (it : Addr) : HO := .ext fun h => ∃ o, h.get? it = some o
theorem itT_ok {P : Program} {w : World} {H : Hp} {h : Heap} {t it : Addr} {i : Nat} (e : IsTupIter h it t i) : ObjOk P w H h it (ItT t it i) := by
  obtain ⟨o, h1, h2⟩ := e
  exact ⟨⟨o, h1, h2⟩, ⟨_, h1⟩, fun g1 g2 ⟨o', q1, q2⟩ k => ⟨o', k _ q1, q2⟩⟩
theorem itTE_ok {P : Program} {w : World} {H : Hp} {h : Heap} {it : Addr} {o : Obj} (e : h.get? it = some o) : ObjOk P w H h it (ItTE it) := ⟨⟨o, e⟩, ⟨_, e⟩, fun g1 g2 ⟨o', q1⟩ k => ⟨o', k _ q1⟩⟩
section
variable {X : Cx} {pins : List (Addr × Obj)} {σ : L2.St} {H : Hp} {s : Shared}
theorem itT_get {t it : Addr} {i : Nat} (I : Inv X pins σ H s) (e : H it = some (ItT t it i)) : IsTupIter s.heap it t i := (I.hok it _ e).1
theorem call_iter_tup {M : Program} {w : World} {A : Around} {E : Value → Shared → Prop} {s : Shared} {t : Addr} {items : Array Value} {Q : Value → Shared → Prop} (ht : IsTup s.heap t items)
    (h : Q (.ref s.heap.objs.size) { s with heap := s.heap.push { cls := .type "tuple_iterator", data := .fields #[.ref t, .int 0 0] } }) : wpAny (model M w) A (call (.builtin "iter") [.ref t]) Q E s := by
  refine Calls.call_function_entry (by decide +kernel) (by decide +kernel) PySem.W.kdk_entry_iter (PySem.W.kdk_args_iter _) ?_
  unfold Builtin.«iter»
  refine wpAny_bind (m := someArgs "iter" 1 2 _) (wpAny_of_eq (a := [Value.ref t]) (by first | rfl | kernel_rfl!) ?_)
  show wpAny _ _ (pyIter (.ref t) >>= _) _ _ _
  refine wpAny_bind (iter_tuple ht ?_)
  exact wpAny_pure ⟨_, rfl, h⟩
/-- iter(t) -/
def rIterT (K : PySem.W.Frag) : List V → Hp → VK → Prop := fun xs H Q => ∃ (t : Addr) (zs : List V), xs = [.ref t] ∧ SqT K H t zs ∧ ∀ it, H it = none → Q (.ref it) (upd H it (ItT t it 0))
theorem call_iterT : CallR X (.builtin "iter") (rIterT X.K) := by
  intro pins s σ H xs us Q I r h
  obtain ⟨t, zs, rfl, hq, q⟩ := h
  obtain rfl := Vals.ref1 r
  obtain ⟨its, rv, pl, hz⟩ := I.tuple hq
  refine call_iter_tup pl ?_
  exact ⟨.ref s.heap.objs.size, _, I.laid (t' := s.toks) (fun b u e => Heap.get?_push_of_some _ e) (Nat.le_refl _) (itT_ok ⟨_, Heap.get?_push_size _ rfl, rfl, rfl⟩), rfl, q _ (I.hok.fresh (Nat.le_refl _))⟩
theorem call_iterTK (K : PySem.W.Frag) (h : X.K = K := by rfl) : CallR X (.builtin "iter") (rIterT K) := h ▸ call_iterT
theorem sqT_upd {K : PySem.W.Frag} {H : Hp} {t x : Addr} {zs : List V} {o : HO} (h : SqT K H t zs) (hx : ∀ o' xs, H x ≠ some (.tup xs) ∧ H x ≠ some (.frz o' (.tup xs))) : SqT K (upd H x o) t zs := by
  rcases h with (h | ⟨ob, h⟩) | h
  · have ne : t ≠ x := fun z => (hx default zs).1 (by rw [← z]; exact h)
    exact .inl (.inl (by rw [upd_ne ne]; exact h))
  · have ne : t ≠ x := fun z => (hx ob zs).2 (by rw [← z]; exact h)
    exact .inl (.inr ⟨ob, by rw [upd_ne ne]; exact h⟩)
  · exact .inr h
/-- the end of a tuple: the iterator itself stays there -/
theorem next_tup_end {P : Program} {w : World} {A : Around} {E : Value → Shared → Prop} {s : Shared} {it t : Addr} {i : Nat} {items : Array Value} {Q : Option Value → Shared → Prop} (hh : A.handled = none)
    (hit : IsTupIter s.heap it t i) (ht : IsTup s.heap t items) (hx : items[i]? = none)
    (hQ : ∀ h', Heap.ExtBut it s.heap h' → (∃ o, h'.get? it = some o) → Q none { s with heap := h' }) : wpAny (model P w) A (pyNext (.ref it)) Q E s := by
  obtain ⟨o, ho, hc, hd⟩ := id hit
  obtain ⟨ol, hol, _, nl, hdl⟩ := ht
  unfold pyNext
  refine wpAny_bind (wpAny_attempt (wpAny_callSpecial?_slot (name := Str.ofString "__next__") hit.typeIs slot_tupleiter_next (wpAny_call_entry slot_tupleiter_next hit.typeIs entry_tupleiter_next ?_ (args_tupleiter_next _))))
  show wpAny _ _ (field (.ref it) 0 >>= _) _ _ s
  refine wpAny_bind (wpAny_field ho hd (x := .ref t) rfl (PySem.W.KFB.if_not rfl ?_))
  show wpAny _ _ (field (.ref it) 1 >>= _) _ _ s
  refine wpAny_bind (wpAny_field ho hd (x := .int i 0) rfl ?_)
  show wpAny _ _ (seqItems? (.ref t) >>= _) _ _ s
  refine wpAny_bind (wpAny_seqItems hol hdl ?_)
  simp only [Int.toNat_natCast, hx]
  refine wpAny_bind (wpAny_rule (wpAny_bind (wpAny_setField ho hd (by simp) ?_)))
  show wpAny _ _ (newExc (.type "StopIteration") [] >>= _) _ _ _
  refine wpAny_bind ?_
  simp only [newExc, newTuple]
  refine wpAny_bind (wpAny_newObj_type ?_ (by size_fits))
  refine wpAny_bind (m := firstArgMember _ _) (wpAny_of_eq (a := Value.none) (by first | rfl | (simp only [firstArgMember]; rfl)) ?_)
  refine wpAny_newObj_type ?_ (by size_fits)
  simp only [raiseNew]
  refine wpAny_bind (wpAny_handled ?_)
  first | rw [show A.in1.handled = none from hh] | rw [hh]
  refine wpAny_bind (wpAny_pure (wpAny_throw ?_))
  refine wpAny_bind (wpAny_isInstance (T := "StopIteration") (b := true) ⟨_, Heap.get?_push_size _ rfl, rfl⟩ isSubtype_stop ?_)
  exact wpAny_pure (hQ _ (((Heap.SameBut.update ..).extBut.push _).push _) ⟨_, Heap.get?_push_of_some _ (Heap.get?_push_of_some _ (Heap.get?_update_self _ ho (Obj.isFreed_of_fields (Obj.data_mapFields hd _))))⟩)
/-- the loop that fills the list at q -/
theorem loop_tup {A1 : Around} {Rs : Result → Shared → Prop} {q it t : Addr} {zs : List V} (hd : A1.in1.handled = none) (hne : q ≠ it) :
    ∀ (k i : Nat) (H : Hp) (s : Shared), zs.length - i = k → i ≤ zs.length → Inv X pins σ H s → H it = some (ItT t it i) → SqT X.K H t zs → H q = some (.lst (zs.take i)) →
      (∀ s', Inv X pins σ (upd (upd H it (ItTE it)) q (.lst zs)) s' → Rs (.ok (.ret .none)) s') → codeAny (model X.prog X.w) A1 (.builtin "list.extend.loop" ⟨[.ref q, .ref it, .none], []⟩) Rs s := by
  intro k
  induction k with
  | zero =>
    intro i H s hk hi I hit ht hq hR
    obtain ⟨its, rv, pl, hz⟩ := I.tuple ht
    have hin : zs.length = its.length := rv.length
    have mu : Mut (H it) := by rw [hit]; exact True.intro
    refine codeAny_builtin PySem.F.entry_extend_loop ?_
    rw [Around.under_plainId PySem.F.plain_extend_loop _]
    show wpAny _ A1.in1 (pyNext (.ref it) >>= _) _ _ s
    have ei : i = zs.length := by omega
    refine wpAny_bind (next_tup_end hd (itT_get I hit) pl (by rw [List.getElem?_toArray]; exact List.getElem?_eq_none (by omega)) fun h' eb ⟨o, ho⟩ => wpAny_pure ?_)
    have I2 : Inv X pins σ (upd H it (ItTE it)) { s with heap := h' } := I.write (x := it) (e := it) (t' := s.toks) mu (.inl rfl) (fun b o nb z => eb b o nb z) ⟨_, ho⟩ (itTE_ok ho)
    refine hR _ ?_
    have e : upd (upd H it (ItTE it)) q (.lst zs) = upd H it (ItTE it) := by
      funext b
      by_cases hb : b = q
      · rw [hb, upd_same, upd_ne hne, hq, ei, List.take_length]
      · rw [upd_ne hb]
    rw [e]
    exact I2
  | succ k ih =>
    intro i H s hk hi I hit ht hq hR
    obtain ⟨its, rv, pl, hz⟩ := I.tuple ht
    have hin : zs.length = its.length := rv.length
    have mu : Mut (H it) := by rw [hit]; exact True.intro
    have hlt : i < zs.length := by omega
    have hzi := List.getElem?_eq_getElem hlt
    obtain ⟨u, hu, ru⟩ := rv.get hzi
    refine codeAny_builtin PySem.F.entry_extend_loop ?_
    rw [Around.under_plainId PySem.F.plain_extend_loop _]
    show wpAny _ A1.in1 (pyNext (.ref it) >>= _) _ _ s
    refine wpAny_bind (next_tuple_item (itT_get I hit) pl (by rw [List.getElem?_toArray]; exact hu) fun h' hit' sb => ?_)
    obtain ⟨o, ho, _⟩ := id hit'
    have I2 : Inv X pins σ (upd H it (ItT t it (i + 1))) { s with heap := h' } := I.write (x := it) (e := it) (t' := s.toks) mu (.inl rfl) (fun b o nb z => (sb.2 b nb).trans z) ⟨_, ho⟩ (itT_ok hit')
    have hq2 : upd H it (ItT t it (i + 1)) q = some (.lst (zs.take i)) := by rw [upd_ne hne]; exact hq
    show wpAny _ A1.in1 (updateSeq q (·.push u) >>= _) _ _ _
    obtain ⟨z, its2, c, r2, hl, e⟩ := I2.lstM hq2
    have l2 : its2.length ≤ 16777215 := by
      rw [← hl, List.length_take]
      have := hz
      rw [sizeLine_eq] at this
      omega
    refine wpAny_bind (wpAny_updateSeq e rfl (wpAny_pure ⟨plainId_quiet PySem.F.plain_extend_loop _, ?_⟩) (by rw [List.size_toArray, sizeLine_eq]; omega) (by show (its2.toArray.push u).size ≤ sizeLine + 1; rw [Array.size_push, List.size_toArray, sizeLine_eq]; omega))
    have I3 := I2.lset (f := (·.push u)) (its' := its2 ++ [u]) (ys := zs.take i ++ [zs[i]]) (t' := s.toks) hq2 e (by simp) (r2.append (.cons ru .nil)) (by rw [List.length_append, List.length_singleton, List.length_take, sizeLine_eq]; rw [sizeLine_eq] at hz; omega)
    refine ih (i + 1) _ _ (by omega) (by omega) I3 ?_ ?_ ?_ fun s' I4 => hR s' ?_
    · rw [upd_ne (Ne.symm hne), upd_same]
    · exact sqT_upd (sqT_upd ht fun o' xs => ⟨by rw [hit]; exact fun z => (nomatch z), by rw [hit]; exact fun z => (nomatch z)⟩) fun o' xs => ⟨by rw [hq2]; exact fun z => (nomatch z), by rw [hq2]; exact fun z => (nomatch z)⟩
    · rw [upd_same, take_snoc hzi]
    · have e4 : upd (upd (upd (upd H it (ItT t it (i + 1))) q (.lst (zs.take i ++ [zs[i]]))) it (ItTE it)) q (.lst zs) = upd (upd H it (ItTE it)) q (.lst zs) := by
        funext b
        by_cases hb : b = q
        · rw [hb, upd_same, upd_same]
        · rw [upd_ne hb, upd_ne hb]
          by_cases hb2 : b = it
          · rw [hb2, upd_same, upd_same]
          · rw [upd_ne hb2, upd_ne hb2, upd_ne hb, upd_ne hb2]
      rw [← e4]
      exact I4
/-- list(o) -/
def rListIt (K : PySem.W.Frag) (C : Addr) (sp : Sp) (E : XK) : List V → Hp → VK → Prop := fun xs H Q => ∃ a dx fs, xs = [.ref a] ∧ H a = some (.ins C dx fs) ∧
  ∀ q, H q = none → sp [.ref a] (upd H q (.lst [])) (fun v H1 => ∃ (it t : Addr) (zs : List V), v = .ref it ∧ H1 it = some (ItT t it 0) ∧ SqT K H1 t zs ∧ H1 q = some (.lst []) ∧ (∃ dx' fs', H1 a = some (.ins C dx' fs')) ∧ Q (.ref q) (upd (upd H1 it (ItTE it)) q (.lst zs))) E
theorem hint_own {M : Model} {A : Around} {E : Value → Shared → Prop} {s : Shared} {Q : Bool → Shared → Prop} {K : PySem.W.Frag} {C a : Addr} {ox : Obj} {od : Option Obj} (h1 : PySem.W.findIn K (.ref C) "__len__" = some none) (h2 : PySem.W.findIn K (.ref C) "__length_hint__" = some none)
    (hK : K.In s.heap) (J : PySem.W.InstAt s.heap a ox C od) (h : Q true s) : wpAny M A (Builtin.List.listLengthHint (.ref a)) Q E s := by
  unfold Builtin.List.listLengthHint
  refine wpAny_bind (wpAny_bind (J.type.here ((PySem.W.looks_findIn hK h1).here (PySem.W.KFB.if_not rfl (PySem.W.KFB.if_not rfl ?_)))))
  exact wpAny_bind (wpAny_bind (J.type.here ((PySem.W.looks_findIn hK h2).here (wpAny_pure h))))
theorem call_listIt {C f : Addr} {fd : FuncData} {ps : List Str} {sp : Sp} {E : XK} {n : Nat} {CX : CXT} (hs : PySem.W.findIn X.K (.ref C) "__iter__" = some (some (.ref f))) (hfn : PySem.W.isFn X.K (.ref f) = true) (n1 : PySem.W.findIn X.K (.ref C) "__len__" = some none) (n2 : PySem.W.findIn X.K (.ref C) "__length_hint__" = some none)
    (F : FnOk X.prog X.w X.K X.mg X.base CX n f fd ps sp) (hb : Binds X.K fd ps []) (hx : Passes CX X E) (hr : Room (n + 2) X.A) : CallR X (.type "list") (rListIt X.K C sp E) := by
  intro pins s σ H xs us Q I rv h
  obtain ⟨a, dx, fs, rfl, ha, hq⟩ := h
  obtain ⟨u, rfl, ru⟩ := rv.one
  cases ru
  have sb : Sub X n X.A.in1.in1 := (Sub.in1 (Sub.in1 (⟨hr, rfl⟩ : Sub X (n + 2) X.A)))
  refine callType_codes (Q₁ := fun obj s₁ => obj = .ref s.heap.objs.size ∧ s₁ = { s with heap := s.heap.push { cls := .type "list", data := .seq #[] } }) PySem.F.called_list (PySem.F.typeCall_list_1 _) PySem.F.entry_list_init
    (code_list_new _ ⟨rfl, rfl⟩) fun obj s₁ h₁ => ?_
  obtain ⟨rfl, rfl⟩ := h₁
  have hS : (s.heap.push { cls := .type "list", data := .seq #[] }).get? s.heap.objs.size = some { cls := .type "list", data := .seq #[] } := Heap.get?_push_size _ rfl
  refine ⟨⟨_, hS, rfl⟩, PySem.F.args_list_init_2 _ _, ?_⟩
  have fr : H s.heap.objs.size = none := I.hok.fresh (Nat.le_refl _)
  have hsp := hq _ fr
  have I1 : Inv X pins σ (upd H s.heap.objs.size (.lst [])) { s with heap := s.heap.push { cls := .type "list", data := .seq #[] } } := I.lnew (its := []) (t' := s.toks) .nil (Nat.zero_le _)
  show wpAny _ _ (do let old ← Builtin.List.listItems (.ref s.heap.objs.size); Builtin.List.listUpdate (.ref s.heap.objs.size) (fun _ => #[]); letGo old.toList.reverse; Builtin.List.listExtendWith (.ref s.heap.objs.size) (.ref a) .none) _ _ _
  refine wpAny_bind ?_
  unfold Builtin.List.listItems
  refine wpAny_bind (wpAny_seqItems hS rfl (wpAny_pure ?_))
  show wpAny _ _ (updateSeq s.heap.objs.size (fun _ => #[]) >>= fun _ => letGo (#[] : Array Value).toList.reverse >>= fun _ => Builtin.List.listExtendWith (.ref s.heap.objs.size) (.ref a) .none) _ _ _
  refine wpAny_bind (wpAny_updateSeq hS rfl ?_)
  have I2 := I1.lset (f := fun _ => #[]) (its := []) (its' := []) (ys := []) (t' := s.toks) upd_same hS rfl .nil (Nat.zero_le _)
  rw [upd_upd] at I2
  refine wpAny_bind (wpAny_letGo ?_)
  have ha2 : upd H s.heap.objs.size (.lst []) a = some (.ins C dx fs) := by rw [upd_ne (ne_of_none ha fr)]; exact ha
  have hne : s.heap.objs.size ≠ a := Ne.symm (ne_of_none ha fr)
  generalize hH2 : upd H s.heap.objs.size (.lst []) = H2 at *
  generalize s.heap.objs.size = q at *
  obtain ⟨mA, J, _⟩ := ins_get I2.hok ha2
  obtain ⟨od, J, _⟩ := J.look
  obtain ⟨m0, hF⟩ := I2.fr
  unfold Builtin.List.listExtendWith
  refine wpAny_bind (J.type.here ?_)
  have h1 : Builtin.List.listSameRef (.ref q) (.ref a) = false := by simp [Builtin.List.listSameRef, hne]
  have h2 : (Value.ref C == Value.type "list") = false := rfl
  have h3 : (Value.ref C == Value.type "tuple") = false := rfl
  simp only [h1, h2, h3, Bool.or_false, Bool.false_eq_true, if_false]
  refine wpAny_bind (PySem.W.owit_iter hF I2.ok.mod.kin J hs hfn ?_)
  have e0 : ∀ {s : Shared} {H : Hp}, Inv X pins σ H s → Env0 X.prog X.w X.K X.mg X.base X.A.in1.in1 X.stack s H := fun {s H} I => by
    have e := I.env0
    exact ⟨by rw [sb.fr]; exact e.frames, e.mod, e.bs, e.bsz, e.funs, e.frf, e.hok, e.bare⟩
  have hl := F.len _ _ _ _ hsp
  have r2 : Vals [V.ref a] [Value.ref a] := .cons rfl .nil
  refine wpAny_call (codeAny_mono (F.run X.A.in1.in1 X.stack _ _ ⟨[.ref a], []⟩ [.ref a] [.ref a] _ E sb.room (e0 I2) (by
    have := hb _ [.ref a] I2.kIn (by simpa using hl)
    simpa using this) r2 hsp) fun r s' hq' => ?_)
  cases r with
  | error e => exact hx pins σ _ _ e s' I2 hq'
  | ok fl =>
    cases fl with
    | next => exact False.elim hq'
    | brk => exact False.elim hq'
    | cont => exact False.elim hq'
    | ret u =>
      obtain ⟨v, H', I', rv, it, t, zs, ev, hit, ht, hqq, ⟨dx', fs', ha'⟩, hQ⟩ := I2.after hq'
      subst ev
      cases rv
      have hT : s'.TypeIs (.ref it) "tuple_iterator" := (itT_get I' hit).typeIs
      have hqi : q ≠ it := fun z => by
        rw [z, hit] at hqq
        exact (nomatch hqq)
      show wpAny _ _ (specialOf (.ref it) "__next__") _ _ _
      refine wpAny_specialOf hT slot_tupleiter_next.lookup ?_
      obtain ⟨mA', J', _⟩ := ins_get I'.hok ha'
      obtain ⟨od', J', _⟩ := J'.look
      refine wpAny_bind (wpAny_holding (hint_own n1 n2 I'.kIn J' ?_))
      have go : ∀ s'', Inv X pins σ H' s'' → codeAny (model X.prog X.w) X.A.in1 (.builtin "list.extend.loop" ⟨[.ref q, .ref it, .none], []⟩) (wants (fun r s₂ => r = .none ∧ EP X pins σ Q (.ref q) s₂) X.xe) s'' := fun s'' I'' =>
        loop_tup (t := t) (zs := zs) sb.room.hd hqi zs.length 0 H' s'' (by simp) (Nat.zero_le _) I'' hit ht (by rw [hqq]; rfl) fun s3 I3 => ⟨rfl, .ref q, _, I3, rfl, hQ⟩
      obtain ⟨z, its, k, r3, hl3, e3⟩ := I'.lstM hqq
      cases r3
      refine wpAny_ite_split (fun _ => ?_) (fun _ => wpAny_pure ⟨plainId_quiet PySem.F.plain_extend_loop _, go s' I'⟩)
      refine wpAny_bind (wpAny_rule ?_)
      refine wpAny_bind ?_
      show wpAny _ _ (updateSeq q (·.push .none) >>= fun _ => updateSeq q (·.pop)) _ _ _
      refine wpAny_bind (wpAny_updateSeq e3 rfl ?_)
      have I3 := I'.lset (f := (·.push Value.none)) (its' := [Value.none]) (ys := [.non]) (t' := s'.toks) hqq e3 (by simp) (.cons rfl .nil) (by rw [List.length_singleton, sizeLine_eq]; decide)
      obtain ⟨z4, its4, k4, r4, hl4, e4⟩ := I3.lstM upd_same
      obtain ⟨u4, rfl, ru4⟩ := r4.one
      refine wpAny_updateSeq e4 rfl ?_ (by show 1 ≤ sizeLine; rw [sizeLine_eq]; decide) (by show 0 ≤ sizeLine + 1; exact Nat.zero_le _)
      have I4 := I3.lset (f := (·.pop)) (its := [u4]) (its' := []) (ys := []) (t' := s'.toks) upd_same e4 (by rfl) .nil (Nat.zero_le _)
      rw [upd_upd] at I4
      have hH : upd H' q (.lst []) = H' := by
        funext b
        by_cases hb : b = q
        · rw [hb, upd_same, hqq]
        · rw [upd_ne hb]
      rw [hH] at I4
      exact wpAny_pure ⟨plainId_quiet PySem.F.plain_extend_loop _, go _ I4⟩
end
end XL
set_option Elab.async false
set_option linter.all false
set_option maxRecDepth 100000
set_option maxHeartbeats 4000000
/-! XOr: two rules for one piece of text; what classes say of an own error. -/
namespace XL
open PySem PySem.Spec PyProof.Rows L2
section
variable {X : Cx}
theorem pe_or {e : Expr} {t u : TE} (h : PE X e t) (k : PE X e u) : PE X e (fun σ H Q => t σ H Q ∨ u σ H Q) := ⟨fun pins s σ H Q I q => q.elim (h.run pins s σ H Q I) (k.run pins s σ H Q I)⟩
theorem pg_or {e : Expr} {t u : TG} (h : PG X e t) (k : PG X e u) : PG X e (fun v σ H Q => t v σ H Q ∨ u v σ H Q) := ⟨fun pins s σ H v w Q I r q => q.elim (h.run pins s σ H v w Q I r) (k.run pins s σ H v w Q I r)⟩
theorem cr_or {f : Value} {t u : List V → Hp → VK → Prop} (h : CallR X f t) (k : CallR X f u) : CallR X f (fun xs H Q => t xs H Q ∨ u xs H Q) := fun pins s σ H xs us Q I r q => q.elim (h pins s σ H xs us Q I r) (k pins s σ H xs us Q I r)
end
section
variable {P : Program} {w : World} {K : PySem.W.Frag} {mg : Str → Option Value} {base : Heap} {CX : CXT} {k : Nat} {f : Addr} {fd : FuncData} {ps : List Str} {sp sq : Sp}
theorem fn_or (h : FnOk P w K mg base CX k f fd ps sp) (h2 : FnOk P w K mg base CX k f fd ps sq) : FnOk P w K mg base CX k f fd ps (fun vs H Q E => sp vs H Q E ∨ sq vs H Q E) :=
  ⟨fun vs H Q E q => q.elim (h.len vs H Q E) (h2.len vs H Q E), fun A outer s H args us vs Q E hr he hb hv q => q.elim (h.run A outer s H args us vs Q E hr he hb hv) (h2.run A outer s H args us vs Q E hr he hb hv)⟩
end
theorem kit_of {K : PySem.W.Frag} {D C : Addr} {b : Bool} (hne : (Value.ref D == Value.ref C) = false) (h2 : PySem.W.isClsIn K C = true) (h3 : PySem.W.typeIn K (.ref C) = some (.type "type")) (h4 : PySem.W.subIn K (.ref D) (.ref C) = some b) : PySem.W.kitOne K (.ref D) (.ref C) = some b := by
  have e2 : ((PySem.W.clsIn K C).isSome && PySem.W.typeIn K (.ref C) == some (.type "type")) = true := by
    have h2' : (PySem.W.clsIn K C).isSome = true := h2
    rw [h2', h3]
    rfl
  show (if (Value.ref D == Value.ref C) = true then some true else (if ((PySem.W.clsIn K C).isSome && PySem.W.typeIn K (.ref C) == some (.type "type")) = true then PySem.W.subIn K (.ref D) (.ref C) else none)) = some b
  rw [if_neg (by rw [hne]; decide), if_pos e2]
  exact h4
theorem exm_of {K : PySem.W.Frag} {S : Addr} {cls : Value} {b : Bool} (h1 : PySem.W.subIn K (.ref S) (.type "BaseException") = some true) (h2 : PySem.W.isClsIn K S = true) (h3 : PySem.W.typeIn K (.ref S) = some (.type "type")) (h4 : PySem.W.subIn K cls (.ref S) = some b) : PySem.W.exmOne K cls (.ref S) = some b := by
  have e1 : (PySem.W.subIn K (.ref S) (.type "BaseException") == some true) = true := by rw [h1] <;> rfl
  have e2 : ((PySem.W.clsIn K S).isSome && PySem.W.typeIn K (.ref S) == some (.type "type")) = true := by
    have h2' : (PySem.W.clsIn K S).isSome = true := h2
    rw [h2', h3] <;> rfl
  show (if (PySem.W.subIn K (.ref S) (.type "BaseException") == some true) = true then (if ((PySem.W.clsIn K S).isSome && PySem.W.typeIn K (.ref S) == some (.type "type")) = true then PySem.W.subIn K cls (.ref S) else none) else none) = some b
  rw [if_pos e1, if_pos e2]
  exact h4
end XL
set_option Elab.async false
set_option linter.all false
set_option maxRecDepth 100000
set_option maxHeartbeats 4000000
/-! XTxt: texts of small letters; a name that is not used. -/
namespace XL
open PySem PySem.Spec PyProof.Rows L2
def LS : Str := "abcdefghijklmnopqrstuvwxyz"
structure Lt (a b : Nat) (z : Str) : Prop where
  lo : a ≤ z.length
  hi : z.length ≤ b
  ch : ∀ c ∈ z.cps.toList, c ∈ LS.cps.toList
theorem len_tl (z : Str) : z.length = z.cps.toList.length := by
  show z.cps.size = _
  rw [Array.length_toList]
theorem Lt.one {c : Nat} (h : c ∈ LS.cps.toList) : Lt 1 1 ⟨#[c]⟩ := ⟨Nat.le_refl _, Nat.le_refl _, fun d hd => by
  have : d = c := by simpa using hd
  rw [this]
  exact h⟩
theorem Lt.wide {a b a' b' : Nat} {z : Str} (h : Lt a b z) (h1 : a' ≤ a) (h2 : b ≤ b') : Lt a' b' z := ⟨Nat.le_trans h1 h.lo, Nat.le_trans h.hi h2, h.ch⟩
theorem app_len (x y : Str) : (x ++ y).length = x.length + y.length := Str.length_append x y
theorem app_tl (x y : Str) : (x ++ y).cps.toList = x.cps.toList ++ y.cps.toList := by
  rw [Str.cps_append]
  simp
theorem Lt.app {a b c d : Nat} {x y : Str} (h : Lt a b x) (k : Lt c d y) : Lt (a + c) (b + d) (x ++ y) := by
  have h1 := h.lo; have h2 := h.hi; have h3 := k.lo; have h4 := k.hi
  refine ⟨by rw [app_len]; omega, by rw [app_len]; omega, fun e he => ?_⟩
  rw [app_tl] at he
  rcases List.mem_append.mp he with z | z
  · exact h.ch e z
  · exact k.ch e z
theorem cut_mem {z : Str} {lo hi : Option Int} {c : Nat} (h : c ∈ (cutS z lo hi).cps.toList) : c ∈ z.cps.toList := by
  have h2 : c ∈ (z.cps.toList.drop (HT.sIx z.length 0 lo)).take (HT.sIx z.length z.length hi - HT.sIx z.length 0 lo) := by simpa [cutS] using h
  exact List.mem_of_mem_drop (List.mem_of_mem_take h2)
theorem cut_to_len (z : Str) (k : Nat) : (cutS z none (some (k : Int))).length = min k z.length := by
  rw [len_tl]
  show ((z.cps.toList.drop (HT.sIx z.length 0 none)).take (HT.sIx z.length z.length (some (k : Int)) - HT.sIx z.length 0 none)).toArray.toList.length = _
  rw [HT.sIx_nat, HT.sIx_none]
  rw [Nat.sub_zero, List.drop_zero, List.length_take, ← len_tl]
  omega
theorem cut_from_len (z : Str) (k : Nat) (h : k ≤ z.length) : (cutS z (some (k : Int)) none).length = z.length - k := by
  rw [len_tl]
  show ((z.cps.toList.drop (HT.sIx z.length 0 (some (k : Int)))).take (HT.sIx z.length z.length none - HT.sIx z.length 0 (some (k : Int)))).toArray.toList.length = _
  rw [HT.sIx_nat, HT.sIx_none, List.length_take, List.length_drop, ← len_tl]
  omega
theorem Lt.to {a b : Nat} {z : Str} (h : Lt a b z) (k : Nat) : Lt (min k a) (min k b) (cutS z none (some (k : Int))) := by
  have h1 := h.lo; have h2 := h.hi
  exact ⟨by rw [cut_to_len]; omega, by rw [cut_to_len]; omega, fun c hc => h.ch c (cut_mem hc)⟩
theorem joinL_nil : ∀ ps : List (List Nat), TL.joinL [] ps = ps.flatten
  | [] => rfl
  | [p] => by simp [TL.joinL]
  | p :: q :: r => by
    show p ++ ([] ++ TL.joinL [] (q :: r)) = _
    rw [joinL_nil (q :: r)]
    simp
theorem Lt.join {ys : List Str} (h : ∀ y ∈ ys, Lt 1 1 y) : Lt ys.length ys.length (Txt.join "" ys) := by
  have e : (Txt.join "" ys).cps.toList = (ys.map fun y => y.cps.toList).flatten := by
    rw [TL.join_eq]
    exact (TL.tl_join "" ys).trans (joinL_nil _)
  have el : ∀ {ys : List Str}, (∀ y ∈ ys, Lt 1 1 y) → ((ys.map fun y => y.cps.toList).flatten).length = ys.length := by
    intro ys
    induction ys with
    | nil => intro _; rfl
    | cons y r ih =>
      intro h
      have h1 := h y List.mem_cons_self
      have z := ih fun y hy => h y (List.mem_cons_of_mem _ hy)
      have l1 := h1.lo; have l2 := h1.hi
      rw [len_tl] at l1 l2
      rw [List.map_cons, List.flatten_cons, List.length_append, z, List.length_cons]
      omega
  have l := el h
  refine ⟨by rw [len_tl, e, l]; exact Nat.le_refl _, by rw [len_tl, e, l]; exact Nat.le_refl _, fun c hc => ?_⟩
  rw [e] at hc
  obtain ⟨p, hp, hcp⟩ := List.mem_flatten.mp hc
  obtain ⟨y, hy, rfl⟩ := List.mem_map.mp hp
  exact (h y hy).ch c hcp
theorem sum_ones : ∀ {ys : List Str}, (∀ y ∈ ys, Lt 1 1 y) → (ys.map (·.length)).sum = ys.length
  | [], _ => rfl
  | y :: r, h => by
    have h1 := h y List.mem_cons_self
    have z := sum_ones fun y hy => h y (List.mem_cons_of_mem _ hy)
    have l1 := h1.lo; have l2 := h1.hi
    rw [List.map_cons, List.sum_cons, z, List.length_cons]
    omega
/-! ### one that is not used -/
theorem nd_sub {α : Type} [DecidableEq α] : ∀ {xs ys : List α}, xs.Nodup → (∀ x ∈ xs, x ∈ ys) → xs.length ≤ ys.length
  | [], _, _, _ => Nat.zero_le _
  | x :: r, ys, nd, h => by
    have hx := h x List.mem_cons_self
    have nd' := List.nodup_cons.mp nd
    have z := nd_sub (ys := ys.erase x) nd'.2 fun y hy => (List.mem_erase_of_ne (fun e : y = x => nd'.1 (by rw [← e]; exact hy))).mpr (h y (List.mem_cons_of_mem _ hy))
    rw [List.length_erase_of_mem hx] at z
    have : 0 < ys.length := List.length_pos_of_mem hx
    rw [List.length_cons]
    omega
def letter (k : Nat) : Nat := LS.cps.toList.getD k 0
theorem letter_at {k : Nat} (h : k < 26) : LS.cps.toList[k]? = some (letter k) := by
  have z : ∀ j : Nat, j < 26 → LS.cps.toList[j]? = some (letter j) := by decide +kernel
  exact z k h
theorem letter_inj {i j : Nat} (hi : i < 26) (hj : j < 26) (h : letter i = letter j) : i = j := by
  have z : ∀ i : Nat, i < 26 → ∀ j : Nat, j < 26 → letter i = letter j → i = j := by decide +kernel
  exact z i hi j hj h
def tail2 (k : Nat) : Str := (⟨#[letter (k / 26)]⟩ : Str) ++ ⟨#[letter (k % 26)]⟩
theorem tail2_inj {p : Str} {i j : Nat} (hi : i < 676) (hj : j < 676) (h : p ++ tail2 i = p ++ tail2 j) : i = j := by
  have e := congrArg (fun z : Str => z.cps.toList) h
  simp only [app_tl, tail2] at e
  have e2 := List.append_cancel_left e
  have e3 : [letter (i / 26), letter (i % 26)] = [letter (j / 26), letter (j % 26)] := by simpa using e2
  injection e3 with h1 h2
  injection h2 with h2 _
  have a := letter_inj (by omega) (by omega) h1
  have b := letter_inj (by omega) (by omega) h2
  omega
theorem tail2_lt {k : Nat} (h : k < 676) : Lt 2 2 (tail2 k) :=
  (Lt.one (List.mem_of_getElem? (letter_at (by omega)))).app (Lt.one (List.mem_of_getElem? (letter_at (by omega))))
theorem unused (p : Str) (us : List Str) (h : us.length < 676) : ∃ k, k < 676 ∧ p ++ tail2 k ∉ us := by
  apply Classical.byContradiction
  intro no
  have all : ∀ z ∈ (List.range 676).map (fun k => p ++ tail2 k), z ∈ us := fun z hz => by
    obtain ⟨k, hk, rfl⟩ := List.mem_map.mp hz
    apply Classical.byContradiction
    intro q
    exact no ⟨k, List.mem_range.mp hk, q⟩
  have nd : ((List.range 676).map (fun k => p ++ tail2 k)).Nodup := by
    unfold List.Nodup
    rw [List.pairwise_map]
    refine List.Pairwise.imp_of_mem ?_ (List.nodup_range (n := 676))
    intro a b ha hb hab e
    exact hab (tail2_inj (List.mem_range.mp ha) (List.mem_range.mp hb) e)
  have z := nd_sub nd all
  rw [List.length_map, List.length_range] at z
  omega
theorem inV_str {x : Str} (xs : List Str) : inV (.str x) (xs.map V.str) = decide (x ∈ xs) := by
  unfold inV
  induction xs with
  | nil => rfl
  | cons y r ih =>
    rw [List.map_cons, List.any_cons, ih]
    show ((y == x) || decide (x ∈ r)) = decide (x ∈ y :: r)
    by_cases e : x = y
    · subst e; simp
    · have e2 : ¬ y = x := fun q => e q.symm
      simp [e, e2]
theorem strs_flat (xs : List Str) : (xs.map V.str).all flatV = true := by
  rw [List.all_eq_true]
  intro x hx
  obtain ⟨n, _, rfl⟩ := List.mem_map.mp hx
  rfl
end XL
set_option Elab.async false
set_option linter.all false
set_option maxRecDepth 100000
set_option maxHeartbeats 4000000
/-! XLine: C(*row), a method within a try, zip with K said, classes of an own error. -/
namespace XL
open PySem PySem.Spec PyProof.Rows L2
section
variable {X : Cx} {CX : CXT} {k : Nat} {f C : Addr} {fd : FuncData} {ps : List Str} {ds : List Value} {dvs : List V} {sp : Sp} {x m : Str} {p pos apos sp_ : Pos} {e o : Expr} {es : List Expr} {te ta : TE} {t : TA}
def tMakeS (K : PySem.W.Frag) (C : Addr) (sp : Sp) (dvs : List V) (E : XK) (te : TE) : TE := fun σ H Q => te σ H fun y H1 => ∃ a xs, y = V.ref a ∧ (SqT K H1 a xs ∨ SqL K H1 a xs) ∧
  ∀ x dx, H1 x = none → H1 dx = none → dx ≠ x → sp (.ref x :: (xs ++ dvs)) (upd (upd H1 dx (.own x)) x (.ins C dx [])) (fun v H2 => v = .non ∧ Q (.ref x) H2) E
/-- C(*row) -/
theorem pe_makeS {E : XK} (K : PySem.W.Frag) (M : Mk X.K C f) (F : FnOk X.prog X.w X.K X.mg X.base CX k f fd ps sp) (hr : Room (k + 1) X.A) (hg : Gl X x) (hm : X.mg x = some (.ref C)) (hb : Binds X.K fd ps ds) (hd : Vals dvs ds) (hx : Passes CX X E) (he : PE X e te) (hK : X.K = K := by rfl) (hdb : (x == ("__debug__" : Str)) = false := by decide)
    (hst : starEach [.Starred e sp_] X.env = [(true, eval e X.env)] := by rfl) : PE X (.Call (.Name x p) [.Starred e sp_] [] pos) (tMakeS K C sp dvs E te) := by
  subst hK
  refine ⟨fun pins s σ H Q I h => ?_⟩
  refine wpAny_Call_Name_kw (ld_glob I hg hm ?_ hdb)
  refine PySem.W.callWith_S (h₀ := X.base) I.ok.mod.kin M.kp (thn (he.run pins s σ H _ I h) fun v s1 ⟨y, H1, I1, ry, a, xs, ey, hxs, q⟩ => ?_) hst
  subst ey
  obtain rfl : v = Value.ref a := ry
  exact StX.star_any I1 hxs fun us s2 I2 rv => ⟨I2.kIn, run_make M F hr hb hd hx I2 rv q⟩
def tMethS (C : Addr) (m : Str) (sp : Sp) (E : L2.St → XK) (ta : TE) (t : TA) : TE := fun σ H Q => ta σ H fun x H1 => ∃ a dx fs, x = .ref a ∧ H1 a = some (.ins C dx fs) ∧ fs.lookup m = none ∧
  t σ H1 fun vs H2 => sp (x :: vs) H2 Q (E σ)
/-- o.m(..) within a try -/
theorem pe_methT {E : L2.St → XK} {pl : Sem Bool} (he : PE X o ta) (c : Cls X.K C) (hm : Meth X.K C m f) (F : FnOk X.prog X.w X.K X.mg X.base CX k f fd ps sp) (hr : Room k X.A) (hb : Binds X.K fd ps []) (hx : ∀ σ, PassesAt CX X σ (E σ)) (ha : PA X (e :: es) t)
    (hst : starEach (e :: es) X.env = (false, eval e X.env) :: starEach es X.env := by rfl) (hpl : (backTo pos (starEach es X.env)).any (·.1) = false := by rfl)
    (ht : eval (.Call (.Attribute o m apos) (e :: es) [] pos) X.env = (do
      let ov ← eval o X.env
      standAt apos.atName
      let (f, first) ← holding [ov] (getMethod ov m pl)
      callWith pos f first (backTo pos (starEach (e :: es) X.env)) (backToKw pos (keywordEach [] X.env))) := by rfl) :
    PE X (.Call (.Attribute o m apos) (e :: es) [] pos) (tMethS C m sp E ta t) := by
  refine ⟨fun pins s σ H Q I h => ?_⟩
  refine PySem.W.methodCall_KW (pl := pl) (thn (he.run pins s σ H _ I h) fun u s1 ⟨x, H1, I1, rx, a, dx, fs, ex, ea, l, q⟩ => ?_) ht
  subst ex
  obtain rfl : u = Value.ref a := rx
  refine getmeth_ok I1 ea c hm l ?_
  refine PySem.W.callWith_K (first := [.ref a]) (h₀ := X.base) I.ok.mod.kin hm.kp (thn (ha.run pos pins s1 σ H1 _ I1 q) fun us s2 ⟨vs, H2, I2, r, q2⟩ => ⟨I2.kIn, ?_⟩) hst hpl
  exact run_fnS (us := .ref a :: us) (vs := .ref a :: vs) (E := E) F hr hb (hx σ) I2 (.cons rfl r) q2
theorem pe_methT0 {E : L2.St → XK} {pl : Sem Bool} (he : PE X o ta) (c : Cls X.K C) (hm : Meth X.K C m f) (F : FnOk X.prog X.w X.K X.mg X.base CX k f fd ps sp) (hr : Room k X.A) (hb : Binds X.K fd ps []) (hx : ∀ σ, PassesAt CX X σ (E σ))
    (ht : eval (.Call (.Attribute o m apos) [] [] pos) X.env = (do
      let ov ← eval o X.env
      standAt apos.atName
      let (f, first) ← holding [ov] (getMethod ov m pl)
      callWith pos f first (backTo pos (starEach [] X.env)) (backToKw pos (keywordEach [] X.env))) := by rfl) :
    PE X (.Call (.Attribute o m apos) [] [] pos) (tMethS C m sp E ta tNil) := by
  refine ⟨fun pins s σ H Q I h => ?_⟩
  refine PySem.W.methodCall_KW (pl := pl) (thn (he.run pins s σ H _ I h) fun u s1 ⟨x, H1, I1, rx, a, dx, fs, ex, ea, l, q⟩ => ?_) ht
  subst ex
  obtain rfl : u = Value.ref a := rx
  refine getmeth_ok I1 ea c hm l ?_
  exact PySem.W.callWith_K0 (first := [.ref a]) I1.kIn hm.kp (run_fnS (us := [.ref a]) (vs := [.ref a]) (E := E) F hr hb (hx σ) I1 (.cons rfl .nil) q)
theorem pi_zipK {e e2 : Expr} {ta : TA} {p pos tpos : Pos} {elts : List Expr} {kk : Nat} (K : PySem.W.Frag) (hg : Gl X "zip") (hm : X.mg "zip" = none) (ha : PA X [e, e2] ta) (hK : X.K = K := by rfl)
    (hs : starEach [e, e2] X.env = (false, eval e X.env) :: starEach [e2] X.env := by rfl) (hpl : (backTo pos (starEach [e2] X.env)).any (·.1) = false := by rfl) :
    PI X (.Tuple elts kk tpos) (.Call (.Name "zip" p) [e, e2] [] pos) (iZip K ta) := hK ▸ pi_zip hg hm ha hs hpl
end
theorem kit_ty_of {K : PySem.W.Frag} {D : Addr} {T : String} {b : Bool} (h1 : PySem.W.kitMeta T = true) (h2 : PySem.W.subIn K (.ref D) (.type T) = some b) : PySem.W.kitOne K (.ref D) (.type T) = some b := by
  show (if (Value.ref D == Value.type T) = true then some true else (if PySem.W.kitMeta T = true then PySem.W.subIn K (.ref D) (.type T) else none)) = some b
  rw [if_neg (fun h => by cases h), if_pos h1]
  exact h2
end XL
set_option Elab.async false
set_option linter.all false
set_option maxRecDepth 100000
set_option maxHeartbeats 4000000
/-! XHot: a def that raises nothing and walks nothing, called within an except suite. -/
namespace XL
open PySem PySem.Spec PyProof.Rows L2 L2H
/-- what a def promises there -/
structure FnQ (P : Program) (w : World) (K : PySem.W.Frag) (mg : Str → Option Value) (base : Heap) (k : Nat) (f : Addr) (fd : FuncData) (ps : List Str) (sp : Sp) : Prop where
  len : ∀ vs H Q E, sp vs H Q E → vs.length = ps.length
  run : ∀ (A : Around) (outer : List Env) (s : Shared) (H : Hp) (args : Args) (us : List Value) (vs : List V) (Q : VK) (E : XK) (p : Addr × Obj), RoomH k A → PinOk outer H s p → Env0 P w K mg base A outer s H → BindsTo s fd args (ps.zip us) → Vals vs us → sp vs H Q E →
    codeAny (model P w) A (.call (.ref f) args) (CR CX0 outer P w H s Q E) s
theorem okQ {P : Program} {w : World} {K : PySem.W.Frag} {mg : Str → Option Value} {base : Heap} {x qual : Str} {st : Stmt} {f : Addr} {fd : FuncData} {N ps : List Str} {k : Nat} {sp : Sp} (F : Fun K x qual st f fd) (S : FnScope N ps (defScope st)) (len : ∀ vs H Q E, sp vs H Q E → vs.length = ps.length)
    (hbody : ∀ (cdv : Value) (A : Around) (outer : List Env) (s : Shared) (H : Hp) (vs : List V) (Q : VK) (E : XK) (p : Addr × Obj), RoomH k (A.deeper (envOfC qual (defScope st) s.heap.objs.size f cdv)) → sp vs H Q E →
      ∃ t, PSs (cxH CX0 P w K mg base N qual (defScope st) f cdv A outer s H E p) (defBody st) t ∧ t { nx := fun _ H' => Q .non H', rt := Q } (L2.start N vs) H) : FnQ P w K mg base (k + 1) f fd ps sp := by
  obtain ⟨oc, od, kV, doc, pm, an, cdv, ct, osl, rfl, lk, hcd⟩ := F.ex
  refine ⟨len, fun A outer s H args us vs Q E p hr hpin e0 hb r hsp => ?_⟩
  have hl := len _ _ _ _ hsp
  have KX : K.In s.heap := e0.mod.kin.keeps fun b o e => (e0.bs b o e).1
  have lim : s.heap.NoLimit := e0.mod.nolimit.keeps fun b o e => (e0.bs b o e).1
  have hkind : ∀ y ∈ ps.zip us, (defScope st).names.lookup y.1 = some .local ∨ ((defScope st).names.lookup y.1 = some .cell ∧ ((cellsFrom (s.heap.objs.size + 1) (defScope st).names []).lookup y.1).isSome = true) := fun ⟨n, v⟩ hy => by
    rcases S.par n (List.of_mem_zip hy).1 with q | q
    · exact .inl q
    · exact .inr ⟨q, PySem.W.cellsFrom_some _ _ _ (.inl q)⟩
  refine codeAny_call_function hr.depth (KX _ _ lk) rfl S.co S.gen rfl (PySem.W.codeRec_of KX hcd) (hb _ _ _ _ ?_)
  refine wpAny_newFunctionEnv_cells S.kind hkind fun env he s1 x => ?_
  subst he
  refine ⟨lim.keeps x.toInCall.keep, codeAny_func ?_⟩
  obtain ⟨t, ht, hq⟩ := hbody cdv A outer s H vs Q E p (hr.deeper _) hsp
  have I : Inv (cxH CX0 P w K mg base N qual (defScope st) f cdv A outer s H E p) [] (L2.start N vs) H s1 := inv_startH S hpin e0 hl r x
  refine wpAny_mono (ht.run [] s1 (L2.start N vs) H _ I hq) (fun fl s' hs => ?_) fun e s' hs => hs
  have fin : ∀ {σ' : L2.St} {H' : Hp} {v : V} {u : Value}, Inv (cxH CX0 P w K mg base N qual (defScope st) f cdv A outer s H E p) [] σ' H' s' → RelV v u → Q v H' → CE outer P w H s Q u s' :=
    fun {σ' H' v u} J rv q => ⟨v, H', J.os, J.bare, J.base, J.hok, rv, q⟩
  cases fl with
  | ret u =>
    obtain ⟨v, σ', H', J, rv, q⟩ := hs
    exact fin J rv q
  | next =>
    obtain ⟨σ', H', J, q⟩ := hs
    exact fin (v := V.non) (u := Value.none) J rfl q
  | brk =>
    obtain ⟨_, _, _, q⟩ := hs
    exact False.elim q
  | cont =>
    obtain ⟨_, _, _, q⟩ := hs
    exact False.elim q
section
variable {X : Cx} {k : Nat} {f : Addr} {fd : FuncData} {ps : List Str} {sp : Sp} {E : XK} {x : Str} {q pos : Pos} {e : Expr} {es : List Expr} {t : TA}
theorem pe_callQ (F : FnQ X.prog X.w X.K X.mg X.base k f fd ps sp) (hr : RoomH k X.A) (hc : ∃ p, p ∈ X.pn) (hg : Gl X x) (hm : X.mg x = some (.ref f)) (hk : PySem.W.keepIn X.K (.ref f) = true) (hb : Binds X.K fd ps []) (hx : Passes CX0 X E)
    (ha : PA X (e :: es) t) (hdb : (x == ("__debug__" : Str)) = false := by decide) (he : starEach (e :: es) X.env = (false, eval e X.env) :: starEach es X.env := by rfl) (hpl : (backTo pos (starEach es X.env)).any (·.1) = false := by rfl) :
    PE X (.Call (.Name x q) (e :: es) [] pos) (fun σ H Q => t σ H fun vs H1 => sp vs H1 Q E) := by
  refine ⟨fun pins s σ H Q I h => ?_⟩
  refine wpAny_Call_Name_kw (ld_glob I hg hm ?_ hdb)
  refine PySem.W.callWith_K (h₀ := X.base) I.ok.mod.kin hk (thn (ha.run pos pins s σ H _ I h) fun us s1 ⟨vs, H1, I1, r, q⟩ => ⟨I1.kIn, ?_⟩) he hpl
  obtain ⟨p, hp⟩ := hc
  have hl : us.length = ps.length := by rw [← r.length]; exact F.len _ _ _ _ q
  have b := hb s1 us I1.kIn (by rw [List.append_nil]; exact hl)
  rw [List.append_nil] at b
  have P1 := I1.pin p (List.mem_append_left _ hp)
  have hpin : PinOk X.stack H1 s1 p := ⟨P1.1, P1.2.1, fun hm => (List.mem_cons.mp (I1.stkSub p.1 hm)).elim P1.2.2.1 P1.2.2.2.1, P1.2.2.2.2⟩
  refine wpAny_call (codeAny_mono (F.run X.A X.stack s1 H1 ⟨us, []⟩ us vs Q E p hr hpin I1.env0 b r q) fun r s' hq => ?_)
  cases r with
  | error e => exact hx pins σ _ _ e s' I1 hq
  | ok fl =>
    cases fl with
    | ret u => exact I1.after hq
    | next => exact False.elim hq
    | brk => exact False.elim hq
    | cont => exact False.elim hq
end
theorem roomQ {X : Cx} {k j : Nat} {a : Addr} {pn : List (Addr × Obj)} (hr : Room k X.A) (h : j ≤ k) : RoomH j (X.suite a pn).A := ⟨(hr.mono h).dp, (hr.mono h).un⟩
end XL
set_option Elab.async false
set_option linter.all false
set_option maxRecDepth 100000
set_option maxHeartbeats 4000000
/-! XGuard: defs that are called while no repr is under way (Around.guards is known to be empty); repr of data there. -/
namespace XL
open PySem PySem.Spec PyProof.Rows L2
/-- what a def promises when no repr is under way -/
structure FnG (P : Program) (w : World) (K : PySem.W.Frag) (mg : Str → Option Value) (base : Heap) (CX : CXT) (k : Nat) (f : Addr) (fd : FuncData) (ps : List Str) (sp : Sp) : Prop where
  len : ∀ vs H Q E, sp vs H Q E → vs.length = ps.length
  run : ∀ (A : Around) (outer : List Env) (s : Shared) (H : Hp) (args : Args) (us : List Value) (vs : List V) (Q : VK) (E : XK), Room k A → A.guards = some [] → Env0 P w K mg base A outer s H → BindsTo s fd args (ps.zip us) → Vals vs us → sp vs H Q E →
    codeAny (model P w) A (.call (.ref f) args) (CR CX outer P w H s Q E) s
section
variable {P : Program} {w : World} {K : PySem.W.Frag} {mg : Str → Option Value} {base : Heap} {CX : CXT}
theorem FnG.of {k : Nat} {f : Addr} {fd : FuncData} {ps : List Str} {sp : Sp} (F : FnOk P w K mg base CX k f fd ps sp) : FnG P w K mg base CX k f fd ps sp := ⟨F.len, fun A outer s H args us vs Q E hr _ => F.run A outer s H args us vs Q E hr⟩
theorem fnG_of {x qual : Str} {st : Stmt} {f : Addr} {fd : FuncData} {N ps : List Str} {k : Nat} {sp : Sp} (F : Fun K x qual st f fd) (S : FnScope N ps (defScope st)) (len : ∀ vs H Q E, sp vs H Q E → vs.length = ps.length)
    (hbody : ∀ (cdv : Value) (A : Around) (outer : List Env) (s : Shared) (H : Hp) (vs : List V) (Q : VK) (E : XK), Room k (A.deeper (envOfC qual (defScope st) s.heap.objs.size f cdv)) → A.guards = some [] → sp vs H Q E →
      ∃ t, PSs (cxOf CX P w K mg base N qual (defScope st) f cdv A outer s H E) (defBody st) t ∧ t { nx := fun _ H' => Q .non H', rt := Q } (L2.start N vs) H) : FnG P w K mg base CX (k + 1) f fd ps sp := by
  obtain ⟨oc, od, kV, doc, pm, an, cdv, ct, osl, rfl, lk, hcd⟩ := F.ex
  refine ⟨len, fun A outer s H args us vs Q E hr hg e0 hb r hsp => ?_⟩
  have hl := len _ _ _ _ hsp
  have KX : K.In s.heap := e0.mod.kin.keeps fun b o e => (e0.bs b o e).1
  have lim : s.heap.NoLimit := e0.mod.nolimit.keeps fun b o e => (e0.bs b o e).1
  have hkind : ∀ y ∈ ps.zip us, (defScope st).names.lookup y.1 = some .local ∨ ((defScope st).names.lookup y.1 = some .cell ∧ ((cellsFrom (s.heap.objs.size + 1) (defScope st).names []).lookup y.1).isSome = true) := fun ⟨n, v⟩ hy => by
    rcases S.par n (List.of_mem_zip hy).1 with q | q
    · exact .inl q
    · exact .inr ⟨q, PySem.W.cellsFrom_some _ _ _ (.inl q)⟩
  refine codeAny_call_function hr.depth (KX _ _ lk) rfl S.co S.gen rfl (PySem.W.codeRec_of KX hcd) (hb _ _ _ _ ?_)
  refine wpAny_newFunctionEnv_cells S.kind hkind fun env he s1 x => ?_
  subst he
  refine ⟨lim.keeps x.toInCall.keep, codeAny_func ?_⟩
  obtain ⟨t, ht, hq⟩ := hbody cdv A outer s H vs Q E (hr.deeper _) hg hsp
  have I : Inv (cxOf CX P w K mg base N qual (defScope st) f cdv A outer s H E) [] (L2.start N vs) H s1 := inv_start S hr.hd e0 hl r x
  refine wpAny_mono (ht.run [] s1 (L2.start N vs) H _ I hq) (fun fl s' hs => ?_) fun e s' hs => hs
  cases fl with
  | ret u =>
    obtain ⟨v, σ', H', J, rv, q⟩ := hs
    exact ⟨v, H', J.os, J.bare, J.base, J.hok, rv, q⟩
  | next =>
    obtain ⟨σ', H', J, q⟩ := hs
    exact ⟨V.non, H', J.os, J.bare, J.base, J.hok, rfl, q⟩
  | brk =>
    obtain ⟨_, _, _, q⟩ := hs
    exact False.elim q
  | cont =>
    obtain ⟨_, _, _, q⟩ := hs
    exact False.elim q
/-- a def that raises nothing -/
theorem okG {x qual : Str} {st : Stmt} {f : Addr} {fd : FuncData} {N ps : List Str} {k : Nat} {sp : Sp} (F : Fun K x qual st f fd) (S : FnScope N ps (defScope st)) (len : ∀ vs H Q E, sp vs H Q E → vs.length = ps.length)
    (hbody : ∀ (cdv : Value) (A : Around) (outer : List Env) (s : Shared) (H : Hp) (vs : List V) (Q : VK) (E : XK), Room k (A.deeper (envOfC qual (defScope st) s.heap.objs.size f cdv)) → A.guards = some [] → sp vs H Q E →
      ∃ t, PSs (cxOf CX0 P w K mg base N qual (defScope st) f cdv A outer s H E).nox (defBody st) t ∧ t { nx := fun _ H' => Q .non H', rt := Q } (L2.start N vs) H) : FnG P w K mg base CX0 (k + 1) f fd ps sp :=
  fnG_of F S len fun cdv A outer s H vs Q E hr hg hsp => let ⟨t, h, q⟩ := hbody cdv A outer s H vs Q E hr hg hsp; ⟨t, h.nox, q⟩
end
section
variable {X : Cx} {CX : CXT} {k : Nat} {f : Addr} {fd : FuncData} {ps : List Str} {sp : Sp} {E : XK} {x : Str} {p pos : Pos} {e : Expr} {es : List Expr} {t : TA}
theorem run_fnG {pins : List (Addr × Obj)} {σ : L2.St} {H : Hp} {s : Shared} {Q : VK} {us : List Value} {vs : List V} (F : FnG X.prog X.w X.K X.mg X.base CX k f fd ps sp) (hr : Room k X.A) (hg : X.A.guards = some []) (hb : Binds X.K fd ps []) (hx : Passes CX X E)
    (I : Inv X pins σ H s) (r : Vals vs us) (h : sp vs H Q E) : wpAny (model X.prog X.w) X.A (call (.ref f) us) (EP X pins σ Q) X.xe s := by
  have hl : us.length = ps.length := by rw [← r.length]; exact F.len _ _ _ _ h
  have b := hb s us I.kIn (by rw [List.append_nil]; exact hl)
  rw [List.append_nil] at b
  refine wpAny_call (codeAny_mono (F.run X.A X.stack s H ⟨us, []⟩ us vs Q E hr hg I.env0 b r h) fun r s' hq => ?_)
  cases r with
  | error e => exact hx pins σ _ _ e s' I hq
  | ok fl =>
    cases fl with
    | ret u => exact I.after hq
    | next => exact False.elim hq
    | brk => exact False.elim hq
    | cont => exact False.elim hq
theorem pe_callG (F : FnG X.prog X.w X.K X.mg X.base CX k f fd ps sp) (hr : Room k X.A) (hg : X.A.guards = some []) (hgl : Gl X x) (hm : X.mg x = some (.ref f)) (hk : PySem.W.keepIn X.K (.ref f) = true) (hb : Binds X.K fd ps []) (hx : Passes CX X E)
    (ha : PA X (e :: es) t) (hdb : (x == ("__debug__" : Str)) = false := by decide) (he : starEach (e :: es) X.env = (false, eval e X.env) :: starEach es X.env := by rfl) (hpl : (backTo pos (starEach es X.env)).any (·.1) = false := by rfl) :
    PE X (.Call (.Name x p) (e :: es) [] pos) (fun σ H Q => t σ H fun vs H1 => sp vs H1 Q E) := by
  refine ⟨fun pins s σ H Q I h => ?_⟩
  refine wpAny_Call_Name_kw (ld_glob I hgl hm ?_ hdb)
  refine PySem.W.callWith_K (h₀ := X.base) I.ok.mod.kin hk (thn (ha.run pos pins s σ H _ I h) fun us s1 ⟨vs, H1, I1, r, q⟩ => ⟨I1.kIn, ?_⟩) he hpl
  exact run_fnG F hr hg hb hx I1 r q
theorem u70 {k : Nat} {A : Around} (r : Room k A) : A.units + 70 < cLine := by have := r.un; omega
/-- repr of data -/
def rRepr (K : PySem.W.Frag) : List V → Hp → VK → Prop := fun xs H Q => ∃ v d, xs = [v] ∧ Dp K H v d ∧ d.showable = true ∧ d.hasDict = false ∧ d.depth ≤ 64 ∧ d.shown.length ≤ sizeLine ∧ Q (.str d.shown) H
theorem call_reprG (K : PySem.W.Frag) (hg : X.A.guards = some []) (hu : X.A.units + 70 < cLine) (hK : X.K = K := by rfl) : CallR X (.builtin "repr") (rRepr K) := by
  subst hK
  intro pins s σ H xs us Q I r h
  obtain ⟨v, d, rfl, hd, h1, h2, h3, h4, q⟩ := h
  obtain ⟨u, rfl, ru⟩ : ∃ u, us = [u] ∧ RelV v u := by
    cases r with
    | cons a b =>
      cases b
      exact ⟨_, rfl, a⟩
  obtain ⟨as, rd⟩ := Dp.reads I d v u hd ru
  have big : ∀ a : Addr, u = .ref a → wpAny (model X.prog X.w) X.A (call (.builtin "repr") [u]) (EP X pins σ Q) X.xe s := by
    rintro a rfl
    exact repr_of_reads' rd h1 (PyData.noDict_hsm h2) hg (by omega) (fun _ _ e => e) (fun h' t tk hk => ⟨.str d.shown, H, I.kept hk, ⟨_, rfl⟩, q⟩) h4
  cases hd with
  | non =>
    cases ru
    exact PySem.P.repr_of_none ⟨.str _, H, I.tok _, ⟨_, rfl⟩, by simpa only [PyData.shown] using q⟩
  | bl b =>
    cases ru
    exact PySem.P.repr_of_bool ⟨.str _, H, I.tok _, ⟨_, rfl⟩, by simpa only [PyData.shown] using q⟩
  | int i =>
    obtain ⟨t, rfl⟩ := ru
    exact PySem.P.repr_of_int (by simpa [PyData.showable] using h1) ⟨.str _, H, I.tok _, ⟨_, rfl⟩, by simpa only [PyData.shown] using q⟩
  | str x =>
    obtain ⟨t, rfl⟩ := ru
    exact PySem.P.repr_of_str ⟨.str _, H, I.tok _, ⟨_, rfl⟩, by simpa only [PyData.shown] using q⟩ (by simpa only [PyData.shown] using h4)
  | lst _ _ => exact big _ ru
  | tup _ _ => exact big _ ru
end
/-! ### the law's own call -/
theorem law_callG {P : Program} {w : World} {K : PySem.W.Frag} {mg mb : Str → Option Value} {CX : CXT} {k : Nat} {fa a : Addr} {fd : FuncData} {x : Str} {sp : Sp} {s₁ : Shared} {vs : List Value} {ns : List Int}
    (KX : K.In s₁.heap) (hns : s₁.heap.Ns mainGlobals mg) (hb : s₁.heap.Ns builtinsNs mb) (hbb : ∀ x : Str, x ≠ "__name__" → mb x = bootBuiltins x) (hlim : s₁.heap.NoLimit) (hg : s₁.gens = #[])
    (ha : s₁.heap.get? a = some { cls := .type "list", data := .seq vs.toArray }) (hi : IntsAre vs ns) (hl : ns.length ≤ sizeLine) (hr : Room k callerA)
    (F : ∀ base : Heap, K.In base → base.Ns mainGlobals mg → FnG P w K mg base CX k fa fd [x] sp) (hbind : ∀ (s : Shared) (u : Value), BindsTo s fd ⟨[u], []⟩ [(x, u)])
    (hsp : ∀ H : Hp, Only H → SqL K H a (ns.map V.int) → sp [.ref a] H (fun v _ => v = .bl true) fun _ _ _ => False)
    (hCX : ∀ H e s', CX [] H s₁ (fun _ _ _ => False) e s' → False) :
    codeAny (model P w) callerA (.call (.ref fa) ⟨[.ref a], []⟩) (fun r s' => r = .ok (.ret (.bool true)) ∧ OldK s₁.heap s'.heap ∧ s'.os = s₁.os ∧ AllBare s'.gens) s₁ := by
  have rv := vals_ints hi
  have lenV := hi.length
  -- nothing is tracked but the script
  have main : ∀ H : Hp, (∀ b, H b = none ∨ (b = a ∧ K.lookup a = none ∧ H b = some (.frz { cls := .type "list", data := .seq vs.toArray } (.lst (ns.map V.int))))) → SqL K H a (ns.map V.int) → HOk P w H s₁.heap →
      codeAny (model P w) callerA (.call (.ref fa) ⟨[.ref a], []⟩) (fun r s' => r = .ok (.ret (.bool true)) ∧ OldK s₁.heap s'.heap ∧ s'.os = s₁.os ∧ AllBare s'.gens) s₁ := by
    intro H hH hS hok
    have nsK : ∀ {b : Addr} {m : Str → Option Value}, s₁.heap.Ns b m → (hidT s₁.heap H).Ns b m := fun {b m} ⟨o, es, ep, e, d, r⟩ => by
      refine ⟨o, es, ep, hidT_get e ?_, d, r⟩
      rcases hH b with z | ⟨z, _⟩
      · exact z
      · rw [z, ha] at e
        cases e
        cases d
    have hKb : K.In (hidT s₁.heap H) := fun b o e => hidT_get (KX b o e) (by
      rcases hH b with z | ⟨z, z2, _⟩
      · exact z
      · rw [z, z2] at e
        cases e)
    have hM : Mod K mg (hidT s₁.heap H) := ⟨hKb, nsK hns, ⟨mb, nsK hb, hbb⟩, let ⟨mc, h1, h2⟩ := hlim; ⟨mc, nsK h1, h2⟩⟩
    have e0 : Env0 P w K mg (hidT s₁.heap H) callerA [] s₁ H := ⟨rfl, hM, fun b o e => of_hidT e, Nat.le_of_eq (hidT_size _ _), trivial, fun b hb => (nomatch hb), hok, .of_eq hg⟩
    have hO : Only H := fun b => (hH b).imp id fun z => ⟨_, _, z.2.2⟩
    refine codeAny_mono ((F _ hKb (nsK hns)).run callerA [] s₁ H ⟨[.ref a], []⟩ [.ref a] [.ref a] _ _ hr rfl e0 (hbind s₁ (.ref a)) (.cons rfl .nil) (hsp H hO hS)) fun r s' h => ?_
    cases r with
    | error e => exact (hCX H e s' h).elim
    | ok fl =>
      cases fl with
      | next => exact False.elim h
      | brk => exact False.elim h
      | cont => exact False.elim h
      | ret u =>
        obtain ⟨v, H', os, bare, un, hok', r', q⟩ := h
        have q' : v = .bl true := q
        subst q'
        obtain rfl : u = Value.bool true := r'
        refine ⟨rfl, OldK.of_keep fun b o e => ?_, os, bare⟩
        rcases hH b with z | ⟨_, _, z⟩
        · exact un.keep b o e z (fun y => nomatch y) (by simp)
        · obtain ⟨e1, _⟩ := hok b _ z
          obtain ⟨e2, _⟩ := hok' b _ (un.frzs b _ _ z)
          rw [e] at e1
          cases e1
          exact e2
  cases hk : K.lookup a with
  | some o =>
    have e := KX a o hk
    rw [ha] at e
    cases e
    exact main (fun _ => none) (fun _ => .inl rfl) (.inr ⟨_, vs.toArray, _, hk, rfl, rfl, rfl, by rw [List.size_toArray, lenV]; exact hl, by simpa using rv⟩) (fun b u z => nomatch z)
  | none =>
    refine main (fun b => if b = a then some (.frz { cls := .type "list", data := .seq vs.toArray } (.lst (ns.map V.int))) else none) (fun b => ?_) (.inl (.inr ⟨{ cls := .type "list", data := .seq vs.toArray }, if_pos rfl⟩)) (fun b u z => ?_)
    · by_cases hb : b = a
      · exact .inr ⟨hb, hk, if_pos hb⟩
      · exact .inl (if_neg hb)
    · by_cases hb : b = a
      · have z' := (if_pos hb).symm.trans z
        cases z'
        subst hb
        exact ⟨ha, by rw [List.length_map]; exact hl, vs, _, rv, ha⟩
      · have z' := (if_neg hb).symm.trans z
        cases z'
theorem walk_ofG {l : PySem.W.OpenLaw} {n k : Nat} {q : Program} {loose : List Str} {XP : (Str → Option Value) → Heap → Prop} {YP : World → Heap → Prop} {d : DefRec} {K : Params → PySem.W.Frag} {CX : World → CXT} {sp : World → Sp} {x : Str}
    (hn : l.most = some n) (hn2 : n ≤ sizeLine) (hdf : d.params.defaults = []) (hr : Room k callerA)
    (hY : ∀ (w : World) (h : Heap), YP w h → (K w.params).In h)
    (F : ∀ (w : World) (mg : Str → Option Value) (fa : Addr) (h : Heap), (K w.params).In h → h.Ns mainGlobals mg → mg d.name = some (.ref fa) →
      ∃ fd : FuncData, (∀ (s : Shared) (u : Value), BindsTo s fd ⟨[u], []⟩ [(x, u)]) ∧
        ∀ base : Heap, (K w.params).In base → base.Ns mainGlobals mg → FnG l.prog w (K w.params) mg base (CX w) k fa fd [x] (sp w))
    (hsp : ∀ (w : World) (H : Hp) (a : Addr) (ns : List Int), ns.length ≤ n → Only H → SqL (K w.params) H a (ns.map V.int) → sp w [.ref a] H (fun v _ => v = .bl true) fun _ _ _ => False)
    (hCX : ∀ (w : World) (H : Hp) (s : Shared) (e : Value) (s' : Shared), CX w [] H s (fun _ _ _ => False) e s' → False) :
    PySem.W.WalkO q loose XP YP l.row.toRowW d [] (fun f vs => PySem.call f vs) := by
  refine Att.attach_call hn hdf fun w s₀ s₁ mg mb fa o pm cd doc a vs ns G Y ho hd hcd hmg hobj hints hlen hg => ?_
  have KX := hY w _ Y
  obtain ⟨fd, hb, hF⟩ := F w mg fa _ KX G.T.g hmg
  exact law_callG KX G.T.g G.T.b G.T.builtins G.T.nolimit hg hobj hints (Nat.le_trans hlen hn2) hr hF hb (fun H hO hS => hsp w H a ns hlen hO hS) fun H e s' => hCX w H s₁ e s'
end XL
set_option Elab.async false
set_option linter.all false
set_option maxRecDepth 100000
set_option maxHeartbeats 4000000
/-! XStar: defs with a star parameter, called with plain arguments. -/
namespace XL
open PySem PySem.Spec PyProof.Rows L2
/-! ### list.extend of a tuple -/
theorem ext_tup (l : Addr) (items : Array Value) (n : Nat) (b : Addr) (items2 : Array Value) (n2 : Nat) (dc : Option Addr) (sl : Array (Option Value)) (hs0 : ¬(!items.isEmpty && Builtin.List.listTooLong (items.size + items2.size)) = true) (hs1 : items.size ≤ sizeLine) (hs2 : items.size + items2.size ≤ sizeLine + 1) :
    Meets (Builtin.«list.extend» ⟨[.ref l, .ref b], []⟩) (fun _ R s => s.heap.get? l = some { cls := .type "list", dict := none, data := .seq items n, slots := #[] } ∧ s.heap.get? b = some { cls := .type "tuple", dict := dc, data := .seq items2 n2, slots := sl } ∧ R (.ok (.ret Value.none)) { s with heap := s.heap.update l (Obj.mapSeq fun x => x ++ items2), toks := s.toks }) :=
  .of_wp fun prog w A R s h => by
    obtain ⟨hp, g, d, tk, os⟩ := s
    obtain ⟨hl, hb, h⟩ := h
    have f1 := AutoSeq1.idx_int; have f2 := AutoSeq1.sub_tuple_tuple; have f3 := AutoSeq1.sub_list_list; have f4 := AutoSeq1.sub_tuple_list; have f5 := AutoSeq1.sub_list_tuple
    have hz' : (items ++ items2).size ≤ sizeLine + 1 := by rw [Array.size_append]; exact hs2
    wp_walk using (wpAny_updateSeq hl rfl (hz := hs1) (_hz' := hz')), wpAny_loadPart' hl, wpAny_loadPart' hb
    exact ⟨_, rfl, h⟩
def rExtT (K : PySem.W.Frag) : V → List V → Hp → VK → Prop := fun x vs H Q => ∃ l b xs zs, x = .ref l ∧ vs = [.ref b] ∧ H l = some (.lst xs) ∧ SqT K H b zs ∧ xs.length + zs.length ≤ sizeLine ∧ Q .non (upd H l (.lst (xs ++ zs)))
theorem mt_extT {X : Cx} (K : PySem.W.Frag) (hK : X.K = K := by rfl) : MtM X "list.extend" (rExtT K) := by
  subst hK
  intro pins s σ H x vs v us Q I rx rv h
  obtain ⟨l, b, xs, zs, rfl, rfl, hH, hB, hz, q⟩ := h
  cases rx
  obtain ⟨u, rfl, ru⟩ := rv.one
  cases ru
  obtain ⟨z, its, n, r, hl, e⟩ := I.lstM hH
  obtain ⟨its2, r2, ⟨o2, e2, c2, n2, d2⟩, z2⟩ := I.tuple hB
  have hl2 := r2.length
  obtain ⟨oc, od, odt, osl⟩ := o2
  simp only at c2 d2
  subst c2 d2
  have hsz : its.toArray.size + its2.toArray.size ≤ sizeLine := by rw [List.size_toArray, List.size_toArray]; omega
  have hlong : ¬ (!its.toArray.isEmpty && Builtin.List.listTooLong (its.toArray.size + its2.toArray.size)) = true := by
    rw [notLongL hsz, Bool.and_false]
    exact Bool.false_ne_true
  refine call_meets F.slot_list_extend ⟨_, e, rfl⟩ F.entry_list_extend (F.args_list_extend_2 _ _)
    (ext_tup l its.toArray n b its2.toArray n2 od osl hlong (by rw [List.size_toArray]; omega) (by omega)) ⟨e, e2, ?_⟩
  refine ⟨.non, _, I.lset (its' := its ++ its2) hH e (by simp) (r.append r2) ?_, rfl, q⟩
  rw [List.length_append]
  omega
/-- what a def with a star parameter binds -/
def BindsS (fd : FuncData) (ps : List Str) (pv : Str) : Prop := ∀ us rest : List Value, us.length = ps.length → bindArgs fd ⟨us ++ rest, []⟩ = (newTuple rest >>= fun t => pure (ps.zip us ++ [(pv, t)]))
/-- the promise of a def with a star parameter, from that of its body -/
def spS (n : Nat) (sp : Sp) : Sp := fun vs H Q E => ∃ ws rest, vs = ws ++ rest ∧ ws.length = n ∧ rest.length ≤ sizeLine ∧ ∀ p, H p = Option.none → sp (ws ++ [V.ref p]) (upd H p (.tup rest)) Q E
section
variable {P : Program} {w : World} {K : PySem.W.Frag} {mg : Str → Option Value} {base : Heap}
theorem okS {x qual : Str} {st : Stmt} {f : Addr} {fd : FuncData} {N ps : List Str} {pv : Str} {k : Nat} {sp : Sp} (F : Fun K x qual st f fd) (S : FnScope N (ps ++ [pv]) (defScope st)) (hb : BindsS fd ps pv)
    (hbody : ∀ (cdv : Value) (A : Around) (outer : List Env) (s : Shared) (H : Hp) (vs : List V) (Q : VK) (E : XK), Room k (A.deeper (envOfC qual (defScope st) s.heap.objs.size f cdv)) → sp vs H Q E →
      ∃ t, PSs (cxOf CX0 P w K mg base N qual (defScope st) f cdv A outer s H E).nox (defBody st) t ∧ t { nx := fun _ H' => Q .non H', rt := Q } (L2.start N vs) H) : FnR P w K mg base CX0 (k + 1) f (spS ps.length sp) := by
  obtain ⟨oc, od, kV, doc, pm, an, cdv, ct, osl, rfl, lk, hcd⟩ := F.ex
  refine StX.fn_star (pv := pv) (ps := ps) lk hcd S StX.cxUp_none hb fun A outer s H vs Q E hr hsp => ?_
  obtain ⟨t, h, q⟩ := hbody cdv A outer s H vs Q E hr hsp
  exact ⟨t, h.nox, q⟩
end
section
variable {X : Cx} {CX : CXT} {k : Nat} {f : Addr} {sp : Sp} {E : XK} {x : Str} {p pos : Pos} {e : Expr} {es : List Expr} {t : TA}
/-- x(e, ..) by a positional promise -/
theorem pe_callP (F : FnR X.prog X.w X.K X.mg X.base CX k f sp) (hr : Room k X.A) (hgl : Gl X x) (hm : X.mg x = some (.ref f)) (hk : PySem.W.keepIn X.K (.ref f) = true) (hx : Passes CX X E)
    (ha : PA X (e :: es) t) (hdb : (x == ("__debug__" : Str)) = false := by decide) (he : starEach (e :: es) X.env = (false, eval e X.env) :: starEach es X.env := by rfl) (hpl : (backTo pos (starEach es X.env)).any (·.1) = false := by rfl) :
    PE X (.Call (.Name x p) (e :: es) [] pos) (fun σ H Q => t σ H fun vs H1 => sp vs H1 Q E) := by
  refine ⟨fun pins s σ H Q I h => ?_⟩
  refine wpAny_Call_Name_kw (ld_glob I hgl hm ?_ hdb)
  refine PySem.W.callWith_K (h₀ := X.base) I.ok.mod.kin hk (thn (ha.run pos pins s σ H _ I h) fun us s1 ⟨vs, H1, I1, r, q⟩ => ⟨I1.kIn, ?_⟩) he hpl
  exact wpAny_call (run_fnR F hr hx I1 r q)
/-- x() -/
theorem pe_callP0 (F : FnR X.prog X.w X.K X.mg X.base CX k f sp) (hr : Room k X.A) (hgl : Gl X x) (hm : X.mg x = some (.ref f)) (hk : PySem.W.keepIn X.K (.ref f) = true) (hx : Passes CX X E) (hdb : (x == ("__debug__" : Str)) = false := by decide) :
    PE X (.Call (.Name x p) [] [] pos) (fun _ H Q => sp [] H Q E) := by
  refine ⟨fun pins s σ H Q I h => ?_⟩
  refine wpAny_Call_Name_kw (ld_glob I hgl hm ?_ hdb)
  exact PySem.W.callWith_K0 I.kIn hk (wpAny_call (run_fnR (us := []) F hr hx I .nil h))
end
section
variable {B : List Value → Sem (List (Str × Value))} {p1 p2 p3 p4 pv : Str}
theorem bindS0 (h0 : B [] = (newTuple [] >>= fun t => pure [(pv, t)])) (h1 : ∀ r rs, B (r :: rs) = (newTuple (r :: rs) >>= fun t => pure [(pv, t)])) :
    ∀ us rest : List Value, us.length = ([] : List Str).length → B (us ++ rest) = (newTuple rest >>= fun t => pure (([] : List Str).zip us ++ [(pv, t)]))
  | [], [], _ => h0
  | [], r :: rs, _ => h1 r rs
theorem bindS1 (h0 : ∀ a, B [a] = (newTuple [] >>= fun t => pure [(p1, a), (pv, t)])) (h1 : ∀ a r rs, B (a :: r :: rs) = (newTuple (r :: rs) >>= fun t => pure [(p1, a), (pv, t)])) :
    ∀ us rest : List Value, us.length = [p1].length → B (us ++ rest) = (newTuple rest >>= fun t => pure ([p1].zip us ++ [(pv, t)]))
  | [a], [], _ => h0 a
  | [a], r :: rs, _ => h1 a r rs
theorem bindS4 (h0 : ∀ a b c d, B [a, b, c, d] = (newTuple [] >>= fun t => pure [(p1, a), (p2, b), (p3, c), (p4, d), (pv, t)])) (h1 : ∀ a b c d r rs, B (a :: b :: c :: d :: r :: rs) = (newTuple (r :: rs) >>= fun t => pure [(p1, a), (p2, b), (p3, c), (p4, d), (pv, t)])) :
    ∀ us rest : List Value, us.length = [p1, p2, p3, p4].length → B (us ++ rest) = (newTuple rest >>= fun t => pure ([p1, p2, p3, p4].zip us ++ [(pv, t)]))
  | [a, b, c, d], [], _ => h0 a b c d
  | [a, b, c, d], r :: rs, _ => h1 a b c d r rs
end
end XL
set_option Elab.async false
set_option linter.all false
set_option maxRecDepth 100000
set_option maxHeartbeats 4000000
/-! XTree: t[::-1] of a tuple; == of data of more levels; objects whose own __iter__ hands on iter(l), l a list. -/
namespace XL
open PySem PySem.Spec PyProof.Rows L2
section
variable {prog : Program} {w : World} {A : Around} {E : Value → Shared → Prop} {s : Shared}
theorem applied_rev {sl : Addr} {t : Tok} {n : Nat} {Q : Int × Int × Nat → Shared → Prop} (hs : s.heap.IsSliceOf sl .none .none (.int (-1) t)) (h : Q ((n : Int) - 1, -1, n) s) :
    wpAny (model prog w) A (Builtin.Slice.sliceApplied (.ref sl) (pure (n : Int))) Q E s := by
  obtain ⟨os, hos, hcs, hds⟩ := id hs
  unfold Builtin.Slice.sliceApplied Builtin.Slice.sliceFields
  refine wpAny_bind (wpAny_bind (wpAny_field hos hds (x := .none) rfl (wpAny_bind (wpAny_field hos hds (x := .none) rfl (wpAny_bind (wpAny_field hos hds (x := .int (-1) t) rfl (wpAny_pure ?_)))))))
  refine wpAny_bind (HT.slicePart_ (.int (-1) t) ?_)
  show wpAny _ _ (if ((-1 : Int) == 0) = true then _ else _) _ _ s
  rw [if_neg (by decide)]
  refine wpAny_bind (HT.slicePart_ .none (wpAny_bind (HT.slicePart_ .none (wpAny_bind (wpAny_pure ?_)))))
  show wpAny _ _ (pure ((n : Int) - 1, (-1 : Int), Builtin.Slice.slicePlaces ((n : Int) - 1) (-1) (-1))) _ _ s
  have e : Builtin.Slice.slicePlaces ((n : Int) - 1) (-1) (-1) = n := by
    unfold Builtin.Slice.slicePlaces
    have h1 : ¬ ((-1 : Int) > 0) := by decide
    simp only [h1, if_false]
    split
    · rw [show (- -1 : Int) = 1 by decide, Int.ediv_one]
      omega
    · omega
  rw [e]
  exact wpAny_pure h
theorem fm_congr {α β : Type} {f g : α → Option β} : ∀ {l : List α}, (∀ x ∈ l, f x = g x) → l.filterMap f = l.filterMap g
  | [], _ => rfl
  | x :: l, h => by
    rw [List.filterMap_cons, List.filterMap_cons, h x List.mem_cons_self, fm_congr (l := l) fun y hy => h y (List.mem_cons_of_mem _ hy)]
theorem pick_rev (xs : Array Value) : ((List.range xs.size).filterMap fun (k : Nat) => xs[(((xs.size : Int) - 1) + (k : Int) * (-1)).toNat]?).toArray = xs.toList.reverse.toArray := by
  have z := PySem.W.krv_pick xs
  rw [← z]
  unfold slicePick
  rw [PySem.W.krv_bounds]
  show _ = ((sliceRange ((xs.size : Int) - 1) (-1) (-1)).filterMap (xs[·]?)).toArray
  rw [PySem.W.krv_sliceRange, List.filterMap_map]
  congr 1
  refine fm_congr fun k hk => ?_
  have := List.mem_range.mp hk
  have e : (((xs.size : Int) - 1) + (k : Int) * (-1)).toNat = xs.size - 1 - k := by omega
  show xs[_]? = xs[xs.size - 1 - k]?
  rw [e]
theorem getItem_tuple_rev {t sl : Addr} {tk : Tok} {items : Array Value} {Q : Value → Shared → Prop} (ht : IsTup s.heap t items) (hs : s.heap.IsSliceOf sl .none .none (.int (-1) tk))
    (h : Q (.ref s.heap.objs.size) { s with heap := s.heap.push { cls := .type "tuple", data := .seq items.toList.reverse.toArray } }) (hsz : items.size ≤ sizeLine) : wpAny (model prog w) A (getItem (.ref t) (.ref sl)) Q E s := by
  have htake : sizeOk (.seq items.toList.reverse.toArray) := by
    show items.toList.reverse.toArray.size ≤ sizeLine
    rw [List.size_toArray, List.length_reverse, Array.length_toList]
    exact hsz
  obtain ⟨os, hos, hcs, hds⟩ := id hs
  have hTs : s.TypeIs (.ref sl) "slice" := ⟨os, hos, hcs⟩
  unfold getItem
  try with_reducible refine wpAny_holding ?_
  first | refine wpAny_bind (wpAny_pure ?_) | skip
  refine wpAny_bind (wpAny_sequenceKey ht.typeIs (by decide) ?_)
  refine wpAny_bind (wpAny_callSpecial?_slot (name := Str.ofString "__getitem__") ht.typeIs PyProof.Rows.slot_tuple_getitem
    (wpAny_call_entry PyProof.Rows.slot_tuple_getitem ht.typeIs entry_tuple_getitem ?_ (args_tuple_getitem _ _)))
  show wpAny _ _ (Builtin.Tuple.tupleItemsOf (.ref t) >>= _) _ _ s
  refine wpAny_bind (tupleItemsOf_ ht ?_)
  refine wpAny_bind (wpAny_typeOf hTs ?_)
  rw [if_pos (by decide)]
  refine wpAny_bind (applied_rev hs ?_)
  have hno : ¬ (((items.size : Int) - 1 == 0 && (-1 : Int) == 1 && items.size == items.size) = true) := by
    intro q
    rw [Bool.and_eq_true, Bool.and_eq_true] at q
    exact absurd q.1.2 (by decide)
  show wpAny _ _ (if ((items.size : Int) - 1 == 0 && (-1 : Int) == 1 && items.size == items.size) = true then _ else _) _ _ s
  rw [if_neg hno, pick_rev]
  first
    | exact wpAny_bind (m := Builtin.Tuple.tupleExact _) (wpAny_newObj_type (wpAny_pure ⟨_, rfl, wpAny_pure h⟩) htake)
    | exact wpAny_bind (m := Builtin.Tuple.tupleExact _) (wpAny_newObj_type (wpAny_bind (wpAny_pure (wpAny_pure ⟨_, rfl, wpAny_pure h⟩))) htake)
    | exact wpAny_bind (wpAny_bind (m := Builtin.Tuple.tupleExact _) (wpAny_newObj_type (wpAny_pure (wpAny_pure ⟨_, rfl, wpAny_pure h⟩)) htake))
    | exact wpAny_bind (wpAny_bind (m := Builtin.Tuple.tupleExact _) (wpAny_newObj_type (wpAny_pure ⟨_, rfl, wpAny_pure h⟩) htake))
end
def tRevT (K : PySem.W.Frag) (te : TE) : TE := fun σ H Q => te σ H fun x H1 => ∃ a xs, x = .ref a ∧ SqT K H1 a xs ∧ ∀ p, H1 p = none → Q (.ref p) (upd H1 p (.tup xs.reverse))
theorem pe_revT {X : Cx} {e m : Expr} {te : TE} {p2 pos : Pos} (he : PE X e te) (hm : PE X m (tC (.int (-1)))) : PE X (.Subscript e (.Slice none none (some m) p2) pos) (tRevT X.K te) := by
  refine ⟨fun pins s σ H Q I h => ?_⟩
  refine Subscript_ (thn (he.run pins s σ H _ I h) fun v s1 ⟨x, H1, I1, r1, q1⟩ => ?_)
  refine wpAny_Slice (wpAny_evalPart_none (wpAny_evalPart_none (wpAny_evalPart_some (thn (hm.run pins s1 σ H1 (fun y H2 => y = .int (-1) ∧ H2 = H1) I1 ⟨rfl, rfl⟩) fun vm s3 ⟨y, H3, I3, r3, ey, eH⟩ => ?_))))
  subst ey eH
  obtain ⟨t, rfl⟩ := r3
  obtain ⟨a, xs, rfl, hx, q⟩ := q1
  cases r1
  have I4 : L2.Inv X pins σ H3 { s3 with heap := s3.heap.push { cls := .type "slice", data := .fields #[.none, .none, .int (-1) t] } } := I3.kept (t' := s3.toks) fun b ob q => Heap.get?_push_of_some _ q
  obtain ⟨its, r, ht, hz⟩ := I4.tuple hx
  have hlen := r.length
  show wpAny (model X.prog X.w) X.A (subscriptTail e (.Slice none none (some m) p2) (.ref a) (.ref s3.heap.objs.size)) (EP X pins σ Q) X.xe { s3 with heap := s3.heap.push { cls := .type "slice", data := .fields #[.none, .none, .int (-1) t] } }
  refine tail_any (ops := [.ref a, .ref s3.heap.objs.size]) ht.typeIs PyProof.Rows.slot_tuple_getitem.lookup ?_ (by with_unfolding_all rfl)
  refine getItem_tuple_rev ht (Heap.IsSliceOf.new ..) ?_ (by rw [List.size_toArray] <;> omega)
  refine ⟨.ref _, _, I4.laid (t' := s3.toks) (o := .tup xs.reverse) (fun b ob q => Heap.get?_push_of_some _ q) (Nat.le_refl _) ?_, rfl, q _ (I4.hok.fresh (Nat.le_refl _))⟩
  exact ⟨by rw [List.length_reverse]; exact hz, its.reverse, r.reverse, ⟨_, Heap.get?_push_size _ rfl, rfl, _, rfl⟩⟩
theorem pe_revTK {X : Cx} {e m : Expr} {te : TE} {p2 pos : Pos} (K : PySem.W.Frag) (he : PE X e te) (hm : PE X m (tC (.int (-1)))) (h : X.K = K := by rfl) : PE X (.Subscript e (.Slice none none (some m) p2) pos) (tRevT K te) := h ▸ pe_revT he hm
/-! ### == of data of up to 190 levels -/
def rEqL (K : PySem.W.Frag) : R2 := fun x y H Q => ∃ d e, Dp K H x d ∧ Dp K H y e ∧ d.canLay0 = true ∧ e.canLay0 = true ∧ d.depth ≤ 190 ∧ Q (.bl (PyData.eqv d e)) H
theorem op_eqL {X : Cx} (K : PySem.W.Frag) (hu : X.A.units + 190 < cLine) (hK : X.K = K := by rfl) : OpR X (compareOp .Eq) (rEqL K) := by
  subst hK
  intro pins s σ H x y v u Q I rx ry h
  obtain ⟨d, e, hd, he, sd, se, dp, q⟩ := h
  obtain ⟨as, r1⟩ := Dp.reads I d x v hd rx
  obtain ⟨bs, r2⟩ := Dp.reads I e y u he ry
  exact SeqAt.compareEq_reads r1 r2 sd se (by have := Nat.min_le_left d.depth e.depth; omega) ⟨.bl _, H, I, rfl, q⟩
/-! ### a promise that knows how large the heap was -/
structure FnY (P : Program) (w : World) (K : PySem.W.Frag) (mg : Str → Option Value) (base : Heap) (CX : CXT) (k : Nat) (f : Addr) (fd : FuncData) (ps : List Str) (sp : Nat → Sp) : Prop where
  len : ∀ n vs H Q E, sp n vs H Q E → vs.length = ps.length
  run : ∀ (A : Around) (outer : List Env) (s : Shared) (H : Hp) (args : Args) (us : List Value) (vs : List V) (Q : VK) (E : XK), Room k A → Env0 P w K mg base A outer s H → BindsTo s fd args (ps.zip us) → Vals vs us → sp s.heap.objs.size vs H Q E →
    codeAny (model P w) A (.call (.ref f) args) (CR CX outer P w H s Q E) s
section
variable {P : Program} {w : World} {K : PySem.W.Frag} {mg : Str → Option Value} {base : Heap} {CX : CXT}
theorem fnY_of {x qual : Str} {st : Stmt} {f : Addr} {fd : FuncData} {N ps : List Str} {k : Nat} {sp : Nat → Sp} (F : Fun K x qual st f fd) (S : FnScope N ps (defScope st)) (len : ∀ n vs H Q E, sp n vs H Q E → vs.length = ps.length)
    (hbody : ∀ (cdv : Value) (A : Around) (outer : List Env) (s : Shared) (H : Hp) (vs : List V) (Q : VK) (E : XK), Room k (A.deeper (envOfC qual (defScope st) s.heap.objs.size f cdv)) → sp s.heap.objs.size vs H Q E →
      ∃ t, PSs (cxOf CX P w K mg base N qual (defScope st) f cdv A outer s H E) (defBody st) t ∧ t { nx := fun _ H' => Q .non H', rt := Q } (L2.start N vs) H) : FnY P w K mg base CX (k + 1) f fd ps sp := by
  obtain ⟨oc, od, kV, doc, pm, an, cdv, ct, osl, rfl, lk, hcd⟩ := F.ex
  refine ⟨len, fun A outer s H args us vs Q E hr e0 hb r hsp => ?_⟩
  have hl := len _ _ _ _ _ hsp
  have KX : K.In s.heap := e0.mod.kin.keeps fun b o e => (e0.bs b o e).1
  have lim : s.heap.NoLimit := e0.mod.nolimit.keeps fun b o e => (e0.bs b o e).1
  have hkind : ∀ y ∈ ps.zip us, (defScope st).names.lookup y.1 = some .local ∨ ((defScope st).names.lookup y.1 = some .cell ∧ ((cellsFrom (s.heap.objs.size + 1) (defScope st).names []).lookup y.1).isSome = true) := fun ⟨n, v⟩ hy => by
    rcases S.par n (List.of_mem_zip hy).1 with q | q
    · exact .inl q
    · exact .inr ⟨q, PySem.W.cellsFrom_some _ _ _ (.inl q)⟩
  refine codeAny_call_function hr.depth (KX _ _ lk) rfl S.co S.gen rfl (PySem.W.codeRec_of KX hcd) (hb _ _ _ _ ?_)
  refine wpAny_newFunctionEnv_cells S.kind hkind fun env he s1 x => ?_
  subst he
  refine ⟨lim.keeps x.toInCall.keep, codeAny_func ?_⟩
  obtain ⟨t, ht, hq⟩ := hbody cdv A outer s H vs Q E (hr.deeper _) hsp
  have I : Inv (cxOf CX P w K mg base N qual (defScope st) f cdv A outer s H E) [] (L2.start N vs) H s1 := inv_start S hr.hd e0 hl r x
  refine wpAny_mono (ht.run [] s1 (L2.start N vs) H _ I hq) (fun fl s' hs => ?_) fun e s' hs => hs
  cases fl with
  | ret u =>
    obtain ⟨v, σ', H', J, rv, q⟩ := hs
    exact ⟨v, H', J.os, J.bare, J.base, J.hok, rv, q⟩
  | next =>
    obtain ⟨σ', H', J, q⟩ := hs
    exact ⟨V.non, H', J.os, J.bare, J.base, J.hok, rfl, q⟩
  | brk =>
    obtain ⟨_, _, _, q⟩ := hs
    exact False.elim q
  | cont =>
    obtain ⟨_, _, _, q⟩ := hs
    exact False.elim q
theorem okY {x qual : Str} {st : Stmt} {f : Addr} {fd : FuncData} {N ps : List Str} {k : Nat} {sp : Nat → Sp} (F : Fun K x qual st f fd) (S : FnScope N ps (defScope st)) (len : ∀ n vs H Q E, sp n vs H Q E → vs.length = ps.length)
    (hbody : ∀ (cdv : Value) (A : Around) (outer : List Env) (s : Shared) (H : Hp) (vs : List V) (Q : VK) (E : XK), Room k (A.deeper (envOfC qual (defScope st) s.heap.objs.size f cdv)) → sp s.heap.objs.size vs H Q E →
      ∃ t, PSs (cxOf CX0 P w K mg base N qual (defScope st) f cdv A outer s H E).nox (defBody st) t ∧ t { nx := fun _ H' => Q .non H', rt := Q } (L2.start N vs) H) : FnY P w K mg base CX0 (k + 1) f fd ps sp :=
  fnY_of F S len fun cdv A outer s H vs Q E hr hsp => let ⟨t, h, q⟩ := hbody cdv A outer s H vs Q E hr hsp; ⟨t, h.nox, q⟩
end
/-! ### for x in o, o an object whose own __iter__ hands on iter(l) -/
theorem dropH_upd {H : Hp} {a : Addr} {o : HO} (h : H a = none) : ItX.dropH (upd H a o) a = H := by
  funext b
  by_cases e : b = a
  · rw [e, ItX.dropH_same, h]
  · rw [ItX.dropH_ne e, upd_ne e]
def iOwnL (K : PySem.W.Frag) (C : Addr) (sp : Nat → Sp) (E : XK) (te : TE) : TI := fun σ H R => te σ H fun x H1 => ∃ a dx fs, x = .ref a ∧ H1 a = some (.ins C dx fs) ∧
  ∀ n, sp n [.ref a] H1 (fun v H2 => ∃ (it l : Addr), v = .ref it ∧ n ≤ it ∧ H2 it = some (ItO l it 0) ∧ R (Itl K l) (ItX.dropH H2 it)) E
theorem pi_ownL {X : Cx} {CX : CXT} {C f : Addr} {fd : FuncData} {ps : List Str} {sp : Nat → Sp} {E : XK} {n : Nat} {tg e : Expr} {te : TE} (he : PE X e te) (F : FnY X.prog X.w X.K X.mg X.base CX n f fd ps sp)
    (hs : PySem.W.findIn X.K (.ref C) "__iter__" = some (some (.ref f))) (hfn : PySem.W.isFn X.K (.ref f) = true) (hb : Binds X.K fd ps []) (hx : Passes CX X E) (hr : Room n X.A) : PI X tg e (iOwnL X.K C sp E te) := by
  refine ⟨fun pins s σ H R I h => ?_⟩
  refine thn (he.run pins s σ H _ I h) fun u s1 ⟨x, H1, I1, r1, a, dx, fs, ex, ha, hsp0⟩ => ?_
  subst ex
  cases r1
  have hsp := hsp0 s1.heap.objs.size
  obtain ⟨mA, J, _⟩ := ins_get I1.hok ha
  obtain ⟨od, J, _⟩ := J.look
  obtain ⟨m0, hF⟩ := I1.fr
  refine PySem.W.owit_iter hF I1.ok.mod.kin J hs hfn ?_
  have hl := F.len _ _ _ _ _ hsp
  refine wpAny_call (codeAny_mono (F.run X.A X.stack s1 H1 ⟨[.ref a], []⟩ [.ref a] [.ref a] _ E hr I1.env0 (by
    have := hb s1 [.ref a] I1.kIn (by simpa using hl)
    simpa using this) (.cons rfl .nil) hsp) fun r s' hq => ?_)
  cases r with
  | error e => exact hx pins σ _ _ e s' I1 hq
  | ok fl =>
    cases fl with
    | next => exact False.elim hq
    | brk => exact False.elim hq
    | cont => exact False.elim hq
    | ret u =>
      obtain ⟨v, H', I', rv, it, l, ev, young, hit, hR⟩ := I1.after hq
      subst ev
      cases rv
      have eo := itO_get I' hit
      have st : s'.heap.IsListIter it l 0 := ⟨_, eo, rfl, rfl⟩
      show wpAny _ _ (specialOf (.ref it) "__next__") _ _ _
      refine wpAny_specialOf st.typeIs slot_listiter_next.lookup ?_
      have hi' := hit
      unfold ItO at hi'
      refine ⟨it, [it], _, _, ItX.dropH H' it, rfl, ItX.inv_drop I' hi', turn_list l it, st, fun b hb => ?_, hR⟩
      have e : b = it := by simpa using hb
      rw [e]
      exact ItX.inv_fp I' hit (Nat.le_trans I1.sz young)
theorem pi_ownLK {X : Cx} {CX : CXT} {C f : Addr} {fd : FuncData} {ps : List Str} {sp : Nat → Sp} {E : XK} {n : Nat} {tg e : Expr} {te : TE} (K : PySem.W.Frag) (he : PE X e te) (F : FnY X.prog X.w X.K X.mg X.base CX n f fd ps sp)
    (hs : PySem.W.findIn X.K (.ref C) "__iter__" = some (some (.ref f))) (hfn : PySem.W.isFn X.K (.ref f) = true) (hb : Binds X.K fd ps []) (hx : Passes CX X E) (hr : Room n X.A) (h : X.K = K := by rfl) : PI X tg e (iOwnL K C sp E te) := h ▸ pi_ownL he F hs hfn hb hx hr
/-! ### list(o) -/
theorem next_lst_end {P : Program} {w : World} {A : Around} {E : Value → Shared → Prop} {s : Shared} {it t : Addr} {i : Nat} {items : Array Value} {Q : Option Value → Shared → Prop} (hh : A.handled = none)
    (hit : s.heap.IsListIter it t i) (ht : s.heap.IsList t items) (hx : items[i]? = none)
    (hQ : ∀ h', Heap.ExtBut it s.heap h' → (∃ o, h'.get? it = some o) → Q none { s with heap := h' }) : wpAny (model P w) A (pyNext (.ref it)) Q E s := by
  obtain ⟨o, ho, hc, hd⟩ := id hit
  obtain ⟨ol, hol, _, nl, hdl⟩ := ht
  unfold pyNext
  refine wpAny_bind (wpAny_attempt (wpAny_callSpecial?_slot (name := Str.ofString "__next__") hit.typeIs slot_listiter_next (wpAny_call_entry slot_listiter_next hit.typeIs entry_listiter_next ?_ (args_listiter_next _))))
  show wpAny _ _ (field (.ref it) 0 >>= _) _ _ s
  refine wpAny_bind (wpAny_field ho hd (x := .ref t) rfl (PySem.W.KFB.if_not rfl ?_))
  show wpAny _ _ (field (.ref it) 1 >>= _) _ _ s
  refine wpAny_bind (wpAny_field ho hd (x := .int i 0) rfl ?_)
  show wpAny _ _ (seqItems? (.ref t) >>= _) _ _ s
  refine wpAny_bind (wpAny_seqItems hol hdl ?_)
  simp only [Int.toNat_natCast, hx]
  refine wpAny_bind (wpAny_rule (wpAny_bind (wpAny_setField ho hd (by simp) ?_)))
  show wpAny _ _ (newExc (.type "StopIteration") [] >>= _) _ _ _
  refine wpAny_bind ?_
  simp only [newExc, newTuple]
  refine wpAny_bind (wpAny_newObj_type ?_ (by size_fits))
  refine wpAny_bind (m := firstArgMember _ _) (wpAny_of_eq (a := Value.none) (by first | rfl | (simp only [firstArgMember]; rfl)) ?_)
  refine wpAny_newObj_type ?_ (by size_fits)
  simp only [raiseNew]
  refine wpAny_bind (wpAny_handled ?_)
  first | rw [show A.in1.handled = none from hh] | rw [hh]
  refine wpAny_bind (wpAny_pure (wpAny_throw ?_))
  refine wpAny_bind (wpAny_isInstance (T := "StopIteration") (b := true) ⟨_, Heap.get?_push_size _ rfl, rfl⟩ isSubtype_stop ?_)
  exact wpAny_pure (hQ _ (((Heap.SameBut.update ..).extBut.push _).push _) ⟨_, Heap.get?_push_of_some _ (Heap.get?_push_of_some _ (Heap.get?_update_self _ ho (Obj.isFreed_of_fields (Obj.data_mapFields hd _))))⟩)
def ItL (l it : Addr) (i : Nat) : HO := .ext fun h => h.IsListIter it l i
theorem itL_ok {P : Program} {w : World} {H : Hp} {h : Heap} {t it : Addr} {i : Nat} (e : h.IsListIter it t i) : ObjOk P w H h it (ItL t it i) := by
  obtain ⟨o, ho, r⟩ := id e
  exact ⟨e, ⟨_, ho⟩, fun g1 g2 q k => q.at fun o e => k o e⟩
section
variable {X : Cx} {pins : List (Addr × Obj)} {σ : L2.St} {H : Hp} {s : Shared}
theorem itL_get {t it : Addr} {i : Nat} (I : Inv X pins σ H s) (e : H it = some (ItL t it i)) : s.heap.IsListIter it t i := (I.hok it _ e).1
/-- the loop that fills the list at q -/
theorem loop_lst {A1 : Around} {Rs : Result → Shared → Prop} {q it t : Addr} {zs : List V} (hd : A1.in1.handled = none) (hne : q ≠ it) :
    ∀ (k i : Nat) (H : Hp) (s : Shared), zs.length - i = k → i ≤ zs.length → Inv X pins σ H s → H it = some (ItL t it i) → it ≠ t → q ≠ t → H t = some (.lst zs) → H q = some (.lst (zs.take i)) →
      (∀ s', Inv X pins σ (upd (upd H it (ItTE it)) q (.lst zs)) s' → Rs (.ok (.ret .none)) s') → codeAny (model X.prog X.w) A1 (.builtin "list.extend.loop" ⟨[.ref q, .ref it, .none], []⟩) Rs s := by
  intro k
  induction k with
  | zero =>
    intro i H s hk hi I hit nit nqt ht hq hR
    obtain ⟨its, rv, pl, hz⟩ := I.list (SqL.of ht)
    have hin : zs.length = its.length := rv.length
    have mu : Mut (H it) := by rw [hit]; exact True.intro
    refine codeAny_builtin PySem.F.entry_extend_loop ?_
    rw [Around.under_plainId PySem.F.plain_extend_loop _]
    show wpAny _ A1.in1 (pyNext (.ref it) >>= _) _ _ s
    have ei : i = zs.length := by omega
    refine wpAny_bind (next_lst_end hd (itL_get I hit) pl.isList (by rw [List.getElem?_toArray]; exact List.getElem?_eq_none (by omega)) fun h' eb ⟨o, ho⟩ => wpAny_pure ?_)
    have I2 : Inv X pins σ (upd H it (ItTE it)) { s with heap := h' } := I.write (x := it) (e := it) (t' := s.toks) mu (.inl rfl) (fun b o nb z => eb b o nb z) ⟨_, ho⟩ (itTE_ok ho)
    refine hR _ ?_
    have e : upd (upd H it (ItTE it)) q (.lst zs) = upd H it (ItTE it) := by
      funext b
      by_cases hb : b = q
      · rw [hb, upd_same, upd_ne hne, hq, ei, List.take_length]
      · rw [upd_ne hb]
    rw [e]
    exact I2
  | succ k ih =>
    intro i H s hk hi I hit nit nqt ht hq hR
    obtain ⟨its, rv, pl, hz⟩ := I.list (SqL.of ht)
    have hin : zs.length = its.length := rv.length
    have mu : Mut (H it) := by rw [hit]; exact True.intro
    have hlt : i < zs.length := by omega
    have hzi := List.getElem?_eq_getElem hlt
    obtain ⟨u, hu, ru⟩ := rv.get hzi
    refine codeAny_builtin PySem.F.entry_extend_loop ?_
    rw [Around.under_plainId PySem.F.plain_extend_loop _]
    show wpAny _ A1.in1 (pyNext (.ref it) >>= _) _ _ s
    refine wpAny_bind (wpAny_pyNext_list_item (itL_get I hit) pl.isList (by rw [List.getElem?_toArray]; exact hu) fun h' hit' sb => ?_)
    obtain ⟨o, ho, _⟩ := id hit'
    have I2 : Inv X pins σ (upd H it (ItL t it (i + 1))) { s with heap := h' } := I.write (x := it) (e := it) (t' := s.toks) mu (.inl rfl) (fun b o nb z => (sb.2 b nb).trans z) ⟨_, ho⟩ (itL_ok hit')
    have hq2 : upd H it (ItL t it (i + 1)) q = some (.lst (zs.take i)) := by rw [upd_ne hne]; exact hq
    show wpAny _ A1.in1 (updateSeq q (·.push u) >>= _) _ _ _
    obtain ⟨z, its2, c, r2, hl, e⟩ := I2.lstM hq2
    have l2 : its2.length ≤ 16777215 := by
      rw [← hl, List.length_take]
      have := hz
      rw [sizeLine_eq] at this
      omega
    refine wpAny_bind (wpAny_updateSeq e rfl (wpAny_pure ⟨plainId_quiet PySem.F.plain_extend_loop _, ?_⟩) (by rw [List.size_toArray, sizeLine_eq]; omega) (by show (its2.toArray.push u).size ≤ sizeLine + 1; rw [Array.size_push, List.size_toArray, sizeLine_eq]; omega))
    have I3 := I2.lset (f := (·.push u)) (its' := its2 ++ [u]) (ys := zs.take i ++ [zs[i]]) (t' := s.toks) hq2 e (by simp) (r2.append (.cons ru .nil)) (by rw [List.length_append, List.length_singleton, List.length_take, sizeLine_eq]; rw [sizeLine_eq] at hz; omega)
    refine ih (i + 1) _ _ (by omega) (by omega) I3 ?_ nit nqt ?_ ?_ fun s' I4 => hR s' ?_
    · rw [upd_ne (Ne.symm hne), upd_same]
    · rw [upd_ne (Ne.symm nqt), upd_ne (Ne.symm nit)]
      exact ht
    · rw [upd_same, take_snoc hzi]
    · have e4 : upd (upd (upd (upd H it (ItL t it (i + 1))) q (.lst (zs.take i ++ [zs[i]]))) it (ItTE it)) q (.lst zs) = upd (upd H it (ItTE it)) q (.lst zs) := by
        funext b
        by_cases hb : b = q
        · rw [hb, upd_same, upd_same]
        · rw [upd_ne hb, upd_ne hb]
          by_cases hb2 : b = it
          · rw [hb2, upd_same, upd_same]
          · rw [upd_ne hb2, upd_ne hb2, upd_ne hb, upd_ne hb2]
      rw [← e4]
      exact I4
def rListItL (C : Addr) (sp : Nat → Sp) (E : XK) : List V → Hp → VK → Prop := fun xs H Q => ∃ a dx fs, xs = [.ref a] ∧ H a = some (.ins C dx fs) ∧
  ∀ q n, H q = none → sp n [.ref a] (upd H q (.lst [])) (fun v H1 => ∃ (it t : Addr) (zs : List V), v = .ref it ∧ H1 it = some (ItO t it 0) ∧ it ≠ t ∧ q ≠ t ∧ H1 t = some (.lst zs) ∧ H1 q = some (.lst []) ∧ (∃ dx' fs', H1 a = some (.ins C dx' fs')) ∧ Q (.ref q) (upd (upd H1 it (ItTE it)) q (.lst zs))) E
theorem call_listItL {C f : Addr} {fd : FuncData} {ps : List Str} {sp : Nat → Sp} {E : XK} {n : Nat} {CX : CXT} (hs : PySem.W.findIn X.K (.ref C) "__iter__" = some (some (.ref f))) (hfn : PySem.W.isFn X.K (.ref f) = true) (n1 : PySem.W.findIn X.K (.ref C) "__len__" = some none) (n2 : PySem.W.findIn X.K (.ref C) "__length_hint__" = some none)
    (F : FnY X.prog X.w X.K X.mg X.base CX n f fd ps sp) (hb : Binds X.K fd ps []) (hx : Passes CX X E) (hr : Room (n + 2) X.A) : CallR X (.type "list") (rListItL C sp E) := by
  intro pins s σ H xs us Q I rv h
  obtain ⟨a, dx, fs, rfl, ha, hq⟩ := h
  obtain ⟨u, rfl, ru⟩ := rv.one
  cases ru
  have sb : Sub X n X.A.in1.in1 := (Sub.in1 (Sub.in1 (⟨hr, rfl⟩ : Sub X (n + 2) X.A)))
  refine callType_codes (Q₁ := fun obj s₁ => obj = .ref s.heap.objs.size ∧ s₁ = { s with heap := s.heap.push { cls := .type "list", data := .seq #[] } }) PySem.F.called_list (PySem.F.typeCall_list_1 _) PySem.F.entry_list_init
    (code_list_new _ ⟨rfl, rfl⟩) fun obj s₁ h₁ => ?_
  obtain ⟨rfl, rfl⟩ := h₁
  have hS : (s.heap.push { cls := .type "list", data := .seq #[] }).get? s.heap.objs.size = some { cls := .type "list", data := .seq #[] } := Heap.get?_push_size _ rfl
  refine ⟨⟨_, hS, rfl⟩, PySem.F.args_list_init_2 _ _, ?_⟩
  have fr : H s.heap.objs.size = none := I.hok.fresh (Nat.le_refl _)
  have hsp := fun n => hq _ n fr
  have I1 : Inv X pins σ (upd H s.heap.objs.size (.lst [])) { s with heap := s.heap.push { cls := .type "list", data := .seq #[] } } := I.lnew (its := []) (t' := s.toks) .nil (Nat.zero_le _)
  show wpAny _ _ (do let old ← Builtin.List.listItems (.ref s.heap.objs.size); Builtin.List.listUpdate (.ref s.heap.objs.size) (fun _ => #[]); letGo old.toList.reverse; Builtin.List.listExtendWith (.ref s.heap.objs.size) (.ref a) .none) _ _ _
  refine wpAny_bind ?_
  unfold Builtin.List.listItems
  refine wpAny_bind (wpAny_seqItems hS rfl (wpAny_pure ?_))
  show wpAny _ _ (updateSeq s.heap.objs.size (fun _ => #[]) >>= fun _ => letGo (#[] : Array Value).toList.reverse >>= fun _ => Builtin.List.listExtendWith (.ref s.heap.objs.size) (.ref a) .none) _ _ _
  refine wpAny_bind (wpAny_updateSeq hS rfl ?_)
  have I2 := I1.lset (f := fun _ => #[]) (its := []) (its' := []) (ys := []) (t' := s.toks) upd_same hS rfl .nil (Nat.zero_le _)
  rw [upd_upd] at I2
  refine wpAny_bind (wpAny_letGo ?_)
  have ha2 : upd H s.heap.objs.size (.lst []) a = some (.ins C dx fs) := by rw [upd_ne (ne_of_none ha fr)]; exact ha
  have hne : s.heap.objs.size ≠ a := Ne.symm (ne_of_none ha fr)
  generalize hH2 : upd H s.heap.objs.size (.lst []) = H2 at *
  generalize s.heap.objs.size = q at *
  obtain ⟨mA, J, _⟩ := ins_get I2.hok ha2
  obtain ⟨od, J, _⟩ := J.look
  obtain ⟨m0, hF⟩ := I2.fr
  unfold Builtin.List.listExtendWith
  refine wpAny_bind (J.type.here ?_)
  have h1 : Builtin.List.listSameRef (.ref q) (.ref a) = false := by simp [Builtin.List.listSameRef, hne]
  have h2 : (Value.ref C == Value.type "list") = false := rfl
  have h3 : (Value.ref C == Value.type "tuple") = false := rfl
  simp only [h1, h2, h3, Bool.or_false, Bool.false_eq_true, if_false]
  refine wpAny_bind (PySem.W.owit_iter hF I2.ok.mod.kin J hs hfn ?_)
  have e0 : ∀ {s : Shared} {H : Hp}, Inv X pins σ H s → Env0 X.prog X.w X.K X.mg X.base X.A.in1.in1 X.stack s H := fun {s H} I => by
    have e := I.env0
    exact ⟨by rw [sb.fr]; exact e.frames, e.mod, e.bs, e.bsz, e.funs, e.frf, e.hok, e.bare⟩
  have hl := F.len _ _ _ _ _ (hsp 0)
  have r2 : Vals [V.ref a] [Value.ref a] := .cons rfl .nil
  refine wpAny_call (codeAny_mono (F.run X.A.in1.in1 X.stack _ _ ⟨[.ref a], []⟩ [.ref a] [.ref a] _ E sb.room (e0 I2) (by
    have := hb _ [.ref a] I2.kIn (by simpa using hl)
    simpa using this) r2 (hsp _)) fun r s' hq' => ?_)
  cases r with
  | error e => exact hx pins σ _ _ e s' I2 hq'
  | ok fl =>
    cases fl with
    | next => exact False.elim hq'
    | brk => exact False.elim hq'
    | cont => exact False.elim hq'
    | ret u =>
      obtain ⟨v, H', I', rv, it, t, zs, ev, hit, nit, nqt, ht, hqq, ⟨dx', fs', ha'⟩, hQ⟩ := I2.after hq'
      subst ev
      cases rv
      have stt : ∀ s'', Inv X pins σ H' s'' → s''.heap.IsListIter it t 0 := fun s'' I'' => ⟨_, itO_get I'' hit, rfl, rfl⟩
      have hT : s'.TypeIs (.ref it) "list_iterator" := (stt s' I').typeIs
      have hqi : q ≠ it := fun z => by
        rw [z, hit] at hqq
        exact (nomatch hqq)
      show wpAny _ _ (specialOf (.ref it) "__next__") _ _ _
      refine wpAny_specialOf hT slot_listiter_next.lookup ?_
      obtain ⟨mA', J', _⟩ := ins_get I'.hok ha'
      obtain ⟨od', J', _⟩ := J'.look
      refine wpAny_bind (wpAny_holding (hint_own n1 n2 I'.kIn J' ?_))
      have go : ∀ s'', Inv X pins σ H' s'' → codeAny (model X.prog X.w) X.A.in1 (.builtin "list.extend.loop" ⟨[.ref q, .ref it, .none], []⟩) (wants (fun r s₂ => r = .none ∧ EP X pins σ Q (.ref q) s₂) X.xe) s'' := fun s'' I'' =>
by
        have mu : Mut (H' it) := by rw [hit]; exact True.intro
        obtain ⟨oi, ei, _⟩ := id (stt s'' I'')
        have I5 : Inv X pins σ (upd H' it (ItL t it 0)) s'' := I''.write (x := it) (e := it) (t' := s''.toks) mu (.inl rfl) (fun b o nb z => z) ⟨_, ei⟩ (itL_ok (stt s'' I''))
        refine loop_lst (t := t) (zs := zs) sb.room.hd hqi zs.length 0 _ s'' (by simp) (Nat.zero_le _) I5 upd_same nit nqt (by rw [upd_ne (Ne.symm nit)]; exact ht) (by rw [upd_ne hqi, hqq]; rfl) fun s3 I3 => ?_
        rw [upd_upd] at I3
        exact ⟨rfl, .ref q, _, I3, rfl, hQ⟩
      obtain ⟨z, its, k, r3, hl3, e3⟩ := I'.lstM hqq
      cases r3
      refine wpAny_ite_split (fun _ => ?_) (fun _ => wpAny_pure ⟨plainId_quiet PySem.F.plain_extend_loop _, go s' I'⟩)
      refine wpAny_bind (wpAny_rule ?_)
      refine wpAny_bind ?_
      show wpAny _ _ (updateSeq q (·.push .none) >>= fun _ => updateSeq q (·.pop)) _ _ _
      refine wpAny_bind (wpAny_updateSeq e3 rfl ?_)
      have I3 := I'.lset (f := (·.push Value.none)) (its' := [Value.none]) (ys := [.non]) (t' := s'.toks) hqq e3 (by simp) (.cons rfl .nil) (by rw [List.length_singleton, sizeLine_eq]; decide)
      obtain ⟨z4, its4, k4, r4, hl4, e4⟩ := I3.lstM upd_same
      obtain ⟨u4, rfl, ru4⟩ := r4.one
      refine wpAny_updateSeq e4 rfl ?_ (by show 1 ≤ sizeLine; rw [sizeLine_eq]; decide) (by show 0 ≤ sizeLine + 1; exact Nat.zero_le _)
      have I4 := I3.lset (f := (·.pop)) (its := [u4]) (its' := []) (ys := []) (t' := s'.toks) upd_same e4 (by rfl) .nil (Nat.zero_le _)
      rw [upd_upd] at I4
      have hH : upd H' q (.lst []) = H' := by
        funext b
        by_cases hb : b = q
        · rw [hb, upd_same, hqq]
        · rw [upd_ne hb]
      rw [hH] at I4
      exact wpAny_pure ⟨plainId_quiet PySem.F.plain_extend_loop _, go _ I4⟩
end
theorem u190 {k : Nat} {A : Around} (r : Room k A) : A.units + 190 < cLine := by have := r.un; omega
end XL
set_option Elab.async false
set_option linter.all false
set_option maxRecDepth 100000
set_option maxHeartbeats 4000000
namespace K18
open PySem PySem.Spec PyProof.Rows L2 XL
def topS (i : Nat) : Stmt := PySem.Challenge.pw_drawnanew_k18_whole_points.main.body.getD i (.Pass ⟨0, 0, 0, 0⟩)
abbrev s_measure : Stmt := topS 7
theorem sc_measure : FnScope ["label", "sizes", "width", "height", "wide", "high"] ["label", "sizes"] (defScope s_measure) := ⟨rfl, rfl, rfl, by decide +kernel, rfl, by decide +kernel, by decide +kernel⟩
abbrev s_from_below : Stmt := topS 8
theorem sc_from_below : FnScope ["root", "rows", "waiting", "node"] ["root"] (defScope s_from_below) := ⟨rfl, rfl, rfl, by decide +kernel, rfl, by decide +kernel, by decide +kernel⟩
abbrev s_rectangles : Stmt := topS 9
theorem sc_rectangles : FnScope ["root", "sizes", "places", "waiting", "node", "x", "y", "width", "height", "beneath", "child"] ["root", "sizes"] (defScope s_rectangles) := ⟨rfl, rfl, rfl, by decide +kernel, rfl, by decide +kernel, by decide +kernel⟩
abbrev s_Laid_init : Stmt := inClass (topS 10) 0
theorem sc_Laid_init : FnScope ["self", "page"] ["self", "page"] (defScope s_Laid_init) := ⟨rfl, rfl, rfl, by decide +kernel, rfl, by decide +kernel, by decide +kernel⟩
abbrev s_Laid_getitem : Stmt := inClass (topS 10) 3
theorem sc_Laid_getitem : FnScope ["self", "mark"] ["self", "mark"] (defScope s_Laid_getitem) := ⟨rfl, rfl, rfl, by decide +kernel, rfl, by decide +kernel, by decide +kernel⟩
abbrev s_Laid_hit : Stmt := inClass (topS 10) 5
theorem sc_Laid_hit : FnScope ["self", "x", "y", "found", "mark", "left", "upper", "width", "height"] ["self", "x", "y"] (defScope s_Laid_hit) := ⟨rfl, rfl, rfl, by decide +kernel, rfl, by decide +kernel, by decide +kernel⟩
abbrev s_Laid_measure_again : Stmt := inClass (topS 10) 7
theorem sc_Laid_measure_again : FnScope ["self", "page", "pairs", "sizes", "measured", "mark", "label", "children", "pair", "child"] ["self", "page"] (defScope s_Laid_measure_again) := ⟨rfl, rfl, rfl, by decide +kernel, rfl, by decide +kernel, by decide +kernel⟩
abbrev s_nodes_of : Stmt := topS 13
theorem sc_nodes_of : FnScope ["root", "out", "waiting", "node"] ["root"] (defScope s_nodes_of) := ⟨rfl, rfl, rfl, by decide +kernel, rfl, by decide +kernel, by decide +kernel⟩
abbrev s_Page_init : Stmt := inClass (topS 14) 0
theorem sc_Page_init : FnScope ["self", "root", "nodes", "above", "order", "node", "below"] ["self", "root"] (defScope s_Page_init) := ⟨rfl, rfl, rfl, by decide +kernel, rfl, by decide +kernel, by decide +kernel⟩
abbrev s_Page_top : Stmt := inClass (topS 14) 1
theorem sc_Page_top : FnScope ["self"] ["self"] (defScope s_Page_top) := ⟨rfl, rfl, rfl, by decide +kernel, rfl, by decide +kernel, by decide +kernel⟩
abbrev s_mixed : Stmt := topS 16
theorem sc_mixed : FnScope ["_law_number", "_law_turn", "_law_first", "_law_second"] ["_law_number", "_law_turn"] (defScope s_mixed) := ⟨rfl, rfl, rfl, by decide +kernel, rfl, by decide +kernel, by decide +kernel⟩
abbrev s_bag : Stmt := topS 17
theorem sc_bag : FnScope ["_law_script", "_law_cell", "_law_numbers", "_law_seed", "_law_at"] ["_law_script"] (defScope s_bag) := ⟨rfl, rfl, rfl, by decide +kernel, rfl, by decide +kernel, by decide +kernel⟩
abbrev s_pick : Stmt := topS 18
theorem sc_pick : FnScope ["_law_bag_here", "_law_many", "_law_turn", "_law_worth", "_law_cell", "_law_great"] ["_law_bag_here", "_law_many"] (defScope s_pick) := ⟨rfl, rfl, rfl, by decide +kernel, rfl, by decide +kernel, by decide +kernel⟩
abbrev s_choice : Stmt := topS 19
theorem sc_choice : FnScope ["_law_bag_here", "_law_things"] ["_law_bag_here", "_law_things"] (defScope s_choice) := ⟨rfl, rfl, rfl, by decide +kernel, rfl, by decide +kernel, by decide +kernel⟩
abbrev s_text : Stmt := topS 20
theorem sc_text : FnScope ["_law_bag_here", "_law_least", "_law_most", "_law_signs", "_law_told", "_law_step"] ["_law_bag_here", "_law_least", "_law_most"] (defScope s_text) := ⟨rfl, rfl, rfl, by decide +kernel, rfl, by decide +kernel, by decide +kernel⟩
abbrev s_label : Stmt := topS 21
theorem sc_label : FnScope ["_law_bag_here", "_law_way"] ["_law_bag_here"] (defScope s_label) := ⟨rfl, rfl, rfl, by decide +kernel, rfl, by decide +kernel, by decide +kernel⟩
abbrev s_marks : Stmt := topS 22
theorem sc_marks : FnScope ["_law_bag_here", "_law_count", "_law_most", "_law_left", "_law_right", "_law_step", "_law_start", "_law_k"] ["_law_bag_here", "_law_count"] (defScope s_marks) := ⟨rfl, rfl, rfl, by decide +kernel, rfl, by decide +kernel, by decide +kernel⟩
abbrev s_flat : Stmt := topS 23
theorem sc_flat : FnScope ["_law_bag_here", "_law_marks_here", "_law_deepest", "_law_flat_here", "_law_mark", "_law_most"] ["_law_bag_here", "_law_marks_here", "_law_deepest"] (defScope s_flat) := ⟨rfl, rfl, rfl, by decide +kernel, rfl, by decide +kernel, by decide +kernel⟩
abbrev s_grown : Stmt := topS 24
theorem sc_grown : FnScope ["_law_flat_here", "_law_ready", "_law_k", "_law_beneath"] ["_law_flat_here"] (defScope s_grown) := ⟨rfl, rfl, rfl, by decide +kernel, rfl, by decide +kernel, by decide +kernel⟩
abbrev s_picture : Stmt := topS 25
theorem sc_picture : FnScope ["_law_node", "_law_inner", "_law_lines", "_law_most", "_law_wide", "_law_told", "_law_y", "_law_line", "_law_child"] ["_law_node"] (defScope s_picture) := ⟨rfl, rfl, rfl, by decide +kernel, rfl, by decide +kernel, by decide +kernel⟩
abbrev s_lines_of : Stmt := topS 26
theorem sc_lines_of : FnScope ["_law_node", "_law_above", "_law_lines", "_law_child"] ["_law_node", "_law_above", "_law_lines"] (defScope s_lines_of) := ⟨rfl, rfl, rfl, by decide +kernel, rfl, by decide +kernel, by decide +kernel⟩
abbrev s_tree : Stmt := topS 27
theorem sc_tree : FnScope ["_law_bag_here", "_law_flat_here", "_law_mark", "_law_label_here", "_law_depth"] ["_law_bag_here"] (defScope s_tree) := ⟨rfl, rfl, rfl, by decide +kernel, rfl, by decide +kernel, by decide +kernel⟩
abbrev s_holds : Stmt := topS 28
theorem sc_holds : FnScope ["_law_box", "_law_x", "_law_y"] ["_law_box", "_law_x", "_law_y"] (defScope s_holds) := ⟨rfl, rfl, rfl, by decide +kernel, rfl, by decide +kernel, by decide +kernel⟩
abbrev s_law : Stmt := topS 29
theorem sc_law : FnScope ["_law_script", "_law_bag_here", "_law_tree_here", "_law_laid", "_law_wide", "_law_picture_here", "_law_high", "_law_above", "_law_boxes", "_law_counts", "_law_mark", "_law_y", "_law_x", "_law_told", "_law_off"] ["_law_script"] (defScope s_law) := ⟨rfl, rfl, rfl, by decide +kernel, rfl, by decide +kernel, by decide +kernel⟩
abbrev s_NoNode_init : Stmt := inClass (topS 5) 0
/-- what the top leaves -/
structure Top (K : PySem.W.Frag) (mg : Str → Option Value) (W : World) where
  m_abs : mg "abs" = none
  m_enumerate : mg "enumerate" = none
  m_int : mg "int" = none
  m_isinstance : mg "isinstance" = none
  m_len : mg "len" = none
  m_list : mg "list" = none
  m_range : mg "range" = none
  m_str : mg "str" = none
  m_sum : mg "sum" = none
  m_tuple : mg "tuple" = none
  v_MOST_NODES : ∃ t, mg "MOST_NODES" = some (.int 400 t)
  a_measure : Addr
  d_measure : FuncData
  F_measure : Fun K "measure" "measure" s_measure a_measure d_measure
  b_measure : Binds K d_measure ["label", "sizes"] []
  g_measure : mg "measure" = some (.ref a_measure)
  a_from_below : Addr
  d_from_below : FuncData
  F_from_below : Fun K "from_below" "from_below" s_from_below a_from_below d_from_below
  b_from_below : Binds K d_from_below ["root"] []
  g_from_below : mg "from_below" = some (.ref a_from_below)
  a_rectangles : Addr
  d_rectangles : FuncData
  F_rectangles : Fun K "rectangles" "rectangles" s_rectangles a_rectangles d_rectangles
  b_rectangles : Binds K d_rectangles ["root", "sizes"] []
  g_rectangles : mg "rectangles" = some (.ref a_rectangles)
  a_Laid_init : Addr
  d_Laid_init : FuncData
  F_Laid_init : Fun K "__init__" "Laid.__init__" s_Laid_init a_Laid_init d_Laid_init
  b_Laid_init : Binds K d_Laid_init ["self", "page"] []
  a_Laid_getitem : Addr
  d_Laid_getitem : FuncData
  F_Laid_getitem : Fun K "__getitem__" "Laid.__getitem__" s_Laid_getitem a_Laid_getitem d_Laid_getitem
  b_Laid_getitem : Binds K d_Laid_getitem ["self", "mark"] []
  a_Laid_hit : Addr
  d_Laid_hit : FuncData
  F_Laid_hit : Fun K "hit" "Laid.hit" s_Laid_hit a_Laid_hit d_Laid_hit
  b_Laid_hit : Binds K d_Laid_hit ["self", "x", "y"] []
  a_Laid_measure_again : Addr
  d_Laid_measure_again : FuncData
  F_Laid_measure_again : Fun K "measure_again" "Laid.measure_again" s_Laid_measure_again a_Laid_measure_again d_Laid_measure_again
  b_Laid_measure_again : Binds K d_Laid_measure_again ["self", "page"] []
  a_nodes_of : Addr
  d_nodes_of : FuncData
  F_nodes_of : Fun K "nodes_of" "nodes_of" s_nodes_of a_nodes_of d_nodes_of
  b_nodes_of : Binds K d_nodes_of ["root"] []
  g_nodes_of : mg "nodes_of" = some (.ref a_nodes_of)
  a_Page_init : Addr
  d_Page_init : FuncData
  F_Page_init : Fun K "__init__" "Page.__init__" s_Page_init a_Page_init d_Page_init
  b_Page_init : Binds K d_Page_init ["self", "root"] []
  a_Page_top : Addr
  d_Page_top : FuncData
  F_Page_top : Fun K "top" "Page.top" s_Page_top a_Page_top d_Page_top
  b_Page_top : Binds K d_Page_top ["self"] []
  a_mixed : Addr
  d_mixed : FuncData
  F_mixed : Fun K "_law_mixed" "_law_mixed" s_mixed a_mixed d_mixed
  b_mixed : Binds K d_mixed ["_law_number", "_law_turn"] []
  g_mixed : mg "_law_mixed" = some (.ref a_mixed)
  a_bag : Addr
  d_bag : FuncData
  F_bag : Fun K "_law_bag" "_law_bag" s_bag a_bag d_bag
  b_bag : Binds K d_bag ["_law_script"] []
  g_bag : mg "_law_bag" = some (.ref a_bag)
  a_pick : Addr
  d_pick : FuncData
  F_pick : Fun K "_law_pick" "_law_pick" s_pick a_pick d_pick
  b_pick : Binds K d_pick ["_law_bag_here", "_law_many"] []
  g_pick : mg "_law_pick" = some (.ref a_pick)
  a_choice : Addr
  d_choice : FuncData
  F_choice : Fun K "_law_choice" "_law_choice" s_choice a_choice d_choice
  b_choice : Binds K d_choice ["_law_bag_here", "_law_things"] []
  g_choice : mg "_law_choice" = some (.ref a_choice)
  a_text : Addr
  d_text : FuncData
  F_text : Fun K "_law_text" "_law_text" s_text a_text d_text
  b_text : Binds K d_text ["_law_bag_here", "_law_least", "_law_most"] []
  g_text : mg "_law_text" = some (.ref a_text)
  a_label : Addr
  d_label : FuncData
  F_label : Fun K "_law_label" "_law_label" s_label a_label d_label
  b_label : Binds K d_label ["_law_bag_here"] []
  g_label : mg "_law_label" = some (.ref a_label)
  a_marks : Addr
  d_marks : FuncData
  F_marks : Fun K "_law_marks" "_law_marks" s_marks a_marks d_marks
  b_marks : Binds K d_marks ["_law_bag_here", "_law_count"] []
  g_marks : mg "_law_marks" = some (.ref a_marks)
  a_flat : Addr
  d_flat : FuncData
  F_flat : Fun K "_law_flat" "_law_flat" s_flat a_flat d_flat
  b_flat : Binds K d_flat ["_law_bag_here", "_law_marks_here", "_law_deepest"] []
  g_flat : mg "_law_flat" = some (.ref a_flat)
  a_grown : Addr
  d_grown : FuncData
  F_grown : Fun K "_law_grown" "_law_grown" s_grown a_grown d_grown
  b_grown : Binds K d_grown ["_law_flat_here"] []
  g_grown : mg "_law_grown" = some (.ref a_grown)
  a_picture : Addr
  d_picture : FuncData
  F_picture : Fun K "_law_picture" "_law_picture" s_picture a_picture d_picture
  b_picture : Binds K d_picture ["_law_node"] []
  g_picture : mg "_law_picture" = some (.ref a_picture)
  a_lines_of : Addr
  d_lines_of : FuncData
  F_lines_of : Fun K "_law_lines_of" "_law_lines_of" s_lines_of a_lines_of d_lines_of
  b_lines_of : Binds K d_lines_of ["_law_node", "_law_above", "_law_lines"] []
  g_lines_of : mg "_law_lines_of" = some (.ref a_lines_of)
  a_tree : Addr
  d_tree : FuncData
  F_tree : Fun K "_law_tree" "_law_tree" s_tree a_tree d_tree
  b_tree : Binds K d_tree ["_law_bag_here"] []
  g_tree : mg "_law_tree" = some (.ref a_tree)
  a_holds : Addr
  d_holds : FuncData
  F_holds : Fun K "_law_holds" "_law_holds" s_holds a_holds d_holds
  b_holds : Binds K d_holds ["_law_box", "_law_x", "_law_y"] []
  g_holds : mg "_law_holds" = some (.ref a_holds)
  a_law : Addr
  d_law : FuncData
  F_law : Fun K "law" "law" s_law a_law d_law
  b_law : Binds K d_law ["_law_script"] []
  g_law : mg "law" = some (.ref a_law)
  C_Page : Addr
  g_Page : mg "Page" = some (.ref C_Page)
  cl_Page : Cls K C_Page
  na_Page_tree : NoAttr K C_Page "tree"
  na_Page_nodes : NoAttr K C_Page "nodes"
  na_Page_above : NoAttr K C_Page "above"
  na_Page_order : NoAttr K C_Page "order"
  mk_Page : Mk K C_Page a_Page_init
  p_Page_top : Addr
  pr_Page_top : PropOf K C_Page "top" p_Page_top a_Page_top
  C_Laid : Addr
  g_Laid : mg "Laid" = some (.ref C_Laid)
  cl_Laid : Cls K C_Laid
  na_Laid_kept_page : NoAttr K C_Laid "kept_page"
  na_Laid_pairs : NoAttr K C_Laid "pairs"
  na_Laid_sizes : NoAttr K C_Laid "sizes"
  na_Laid_places : NoAttr K C_Laid "places"
  na_Laid_marks : NoAttr K C_Laid "marks"
  mk_Laid : Mk K C_Laid a_Laid_init
  sp_Laid_getitem : PySem.W.findIn K (.ref C_Laid) "__getitem__" = some (some (.ref a_Laid_getitem)) ∧ PySem.W.isFn K (.ref a_Laid_getitem) = true ∧ PySem.W.fnIn K a_Laid_getitem = true
  me_Laid_measure_again : Meth K C_Laid "measure_again" a_Laid_measure_again
  me_Laid_hit : Meth K C_Laid "hit" a_Laid_hit
  x_file : Str
  C_NoNode : Addr
  i_NoNode : Addr
  g_NoNode : mg "NoNode" = some (.ref C_NoNode)
  x_NoNode : ∀ P : Program, PySem.XExc.PF P x_file → PySem.XExc.ExTxt P K mg "NoNode" "mark" "no node is marked " C_NoNode i_NoNode
  xc_NoNode : ExcC K C_NoNode
  xf_NoNode : XfC K C_NoNode
  em_NoNode_NoNode : PySem.W.exmOne K (.ref C_NoNode) (.ref C_NoNode) = some true
/-! ### the bag -/
structure Bag (G : Hp) (o : HO) : Prop where
  ex : ∃ (n : Addr) (ns : List Int) (i g t s : Int), o = .lst [.ref n, .int i, .int g, .int t, .int s] ∧ G n = some (.lst (ns.map V.int)) ∧ 0 ≤ i ∧ 0 ≤ g
theorem Bag.same {G G' : Hp} {o : HO} (e : Same G G') (b : Bag G o) : Bag G' o := by
  obtain ⟨n, ns, i, g, t, s, h1, h2, h3⟩ := b.ex
  exact ⟨n, ns, i, g, t, s, h1, e _ _ h2, h3⟩

section
variable {P : Program} {w : World} {K : PySem.W.Frag} {mg : Str → Option Value} {base : Heap}
def spMixed : Sp := fun vs H Q _ => ∃ n t : Int, vs = [.int n, .int t] ∧ ∀ r : Int, 0 ≤ r → r < 2147483587 → Q (.int r) H
theorem ok_mixed (T : Top K mg w) {k : Nat} : FnOk P w K mg base CX0 (k + 1) T.a_mixed T.d_mixed ["_law_number", "_law_turn"] spMixed := by
  refine T.F_mixed.ok sc_mixed (fun vs H Q E h => ?_) (fun cdv A outer s H vs Q E hr h => ?_)
  · obtain ⟨n, t, rfl, _⟩ := h
    rfl
  · obtain ⟨n, t, rfl, q⟩ := h
    refine ⟨_, (pss_cons (ps_set (i := 2) sc_mixed.nd rfl (.inl rfl) (pe_op op_modY (pe_callTy cr_int (by rfl) T.m_int (by decide +kernel) (pa_cons (pe_op op_addY (pe_op op_mulY (pe_op op_addY (xv 0) pe_int) pe_int) (pe_op op_mulY (pe_op op_addY (xv 1) pe_int) pe_int)) pa_nil)) pe_int))
      (pss_cons (ps_set (i := 3) sc_mixed.nd rfl (.inl rfl) (pe_op op_modY (pe_callTy cr_int (by rfl) T.m_int (by decide +kernel) (pa_cons (pe_op op_addY (pe_op op_addY (pe_op op_mulY (xv 2) (xv 2)) (pe_op op_mulY (xv 2) pe_int)) (pe_op op_mulY (pe_op op_addY (xv 1) pe_int) pe_int)) pa_nil)) pe_int))
      (pss_one (ps_ret (pe_op op_modY (pe_callTy cr_int (by rfl) T.m_int (by decide +kernel) (pa_cons (pe_op op_addY (pe_op op_addY (pe_op op_divY (xv 3) pe_int) (pe_op op_mulY (xv 3) pe_int)) (xv 1)) pa_nil)) pe_int))))), ?_⟩
    refine ⟨.inr ⟨by decide, by decide⟩, .inr ⟨by decide, by decide⟩, by decide, fun f _ f0 f1 => ?_⟩
    refine ⟨.inl ⟨by omega, by omega⟩, .inr ⟨by decide, by decide⟩, .inr ⟨by decide, by decide⟩, by decide, fun g _ g0 g1 => ?_⟩
    refine ⟨⟨by decide, by decide⟩, fun d _ _ => ⟨.inr ⟨by decide, by decide⟩, by decide, fun r _ r0 r1 => ?_⟩⟩
    exact q r r0 r1

def spPick : Sp := fun vs H Q _ => ∃ (G : Hp) (M : List (Addr × HO)) (b : Addr) (o : HO) (n : Int), vs = [.ref b, .int n] ∧ Sep G ((b, o) :: M) H ∧ Bag G o ∧ 0 < n ∧ n < 1073741824 ∧
  ∀ (r : Int) (o' : HO) (H' : Hp), 0 ≤ r → r < n → Bag G o' → Sep G ((b, o') :: M) H' → Q (.int r) H'
theorem ok_pick (T : Top K mg w) {k : Nat} (G_mixed : FnOk P w K mg base CX0 (k + 1) T.a_mixed T.d_mixed ["_law_number", "_law_turn"] spMixed) :
    FnOk P w K mg base CX0 (k + 2) T.a_pick T.d_pick ["_law_bag_here", "_law_many"] spPick := by
  refine T.F_pick.ok sc_pick (fun vs H Q E h => ?_) (fun cdv A outer s H vs Q E hr h => ?_)
  · obtain ⟨G, M, b, o, n, rfl, _⟩ := h
    rfl
  · obtain ⟨G, M, b, o, n, rfl, S, B, n0, n1, q⟩ := h
    obtain ⟨N, ns, i, g, t, z, rfl, hN, i0, g0⟩ := B.ex
    refine ⟨_, (pss_cons (ps_set (i := 2) sc_pick.nd rfl (.inl rfl) (pe_ix (ix_k K) (xv 0) pe_int (fun _ _ => rfl)))
      (pss_cons (ps_asg (pe_op op_addY (xv 2) pe_int) (pg_sub (xv 0) pe_int set_list))
      (pss_cons (xs_if (xt_cmp op_gtY (pe_ix (ix_k K) (xv 0) pe_int (fun _ _ => rfl)) pe_int (nomark _))
      (pss_cons (ps_set (i := 3) sc_pick.nd rfl (.inl rfl) (pe_op op_modY (pe_callTy cr_int (by rfl) T.m_int (by decide +kernel) (pa_cons (pe_ix (ix_k K) (xv 0) pe_int (fun _ _ => rfl)) pa_nil)) (xv 1)))
      (pss_cons (ps_asg (pe_op op_divY (pe_ix (ix_k K) (xv 0) pe_int (fun _ _ => rfl)) (xv 1)) (pg_sub (xv 0) pe_int set_list))
      (pss_one (ps_ret (xv 3)))))
      pss_nil)
      (pss_cons (xs_if (xt_cmp op_ltY (pe_ix (ix_k K) (xv 0) pe_int (fun _ _ => rfl)) (pe_callB (cr_lenK K) (by rfl) T.m_len (by decide +kernel) (pa_cons (pe_ix (ix_k K) (xv 0) pe_int (fun _ _ => rfl)) pa_nil)) (nomark _))
      (pss_cons (ps_set (i := 4) sc_pick.nd rfl (.inl rfl) (pe_ix (ix_k K) (pe_ix (ix_k K) (xv 0) pe_int (fun _ _ => rfl)) (pe_ix (ix_k K) (xv 0) pe_int (fun _ _ => rfl)) (fun _ _ => rfl)))
      (pss_cons (ps_asg (pe_op op_addY (pe_ix (ix_k K) (xv 0) pe_int (fun _ _ => rfl)) pe_int) (pg_sub (xv 0) pe_int set_list))
      (pss_cons (ps_set (i := 5) sc_pick.nd rfl (.inl rfl) (pe_callB cr_abs (by rfl) T.m_abs (by decide +kernel) (pa_cons (xv 4) pa_nil)))
      (pss_cons (xs_if (xt_cmp op_geY (xv 5) (pe_op op_powY pe_int pe_int) (nomark _))
      (pss_cons (ps_asg (pe_op op_divY (xv 5) (xv 1)) (pg_sub (xv 0) pe_int set_list))
      (pss_one (ps_ret (pe_op op_modY (pe_callTy cr_int (by rfl) T.m_int (by decide +kernel) (pa_cons (xv 5) pa_nil)) (xv 1)))))
      pss_nil)
      (pss_one (ps_ret (pe_op op_modY (pe_callTy cr_int (by rfl) T.m_int (by decide +kernel) (pa_cons (pe_call G_mixed (hr.mono (by omega)) (by rfl) T.g_mixed T.F_mixed.kp T.b_mixed .nil pass0 (pa_cons (pe_op op_addY (pe_op op_addY (xv 5) (xv 5)) (pe_cmpR op_ltY (xv 4) pe_int (nomark _))) (pa_cons (xv 2) pa_nil))) pa_nil)) (xv 1))))))))
      pss_nil)
      (pss_one (ps_ret (pe_op op_modY (pe_callTy cr_int (by rfl) T.m_int (by decide +kernel) (pa_cons (pe_call G_mixed (hr.mono (by omega)) (by rfl) T.g_mixed T.F_mixed.kp T.b_mixed .nil pass0 (pa_cons (pe_ix (ix_k K) (xv 0) pe_int (fun _ _ => rfl)) (pa_cons (xv 2) pa_nil))) pa_nil)) (xv 1)))))))), ?_⟩
    -- the turn
    refine ⟨_, _, .inl (SqL.of S.hd), rfl, b, _, _, 3, rfl, rfl, S.hd, rfl, ?_⟩
    have S1 := S.set (o' := .lst [.ref N, .int i, .int g, .int (t + 1), .int z])
    -- a great number's rest
    refine ⟨_, _, .inl (SqL.of S1.hd), rfl, fun e => ?_, fun e => ?_⟩
    · refine ⟨_, _, .inl (SqL.of S1.hd), rfl, n0, fun r _ r0 r1 => ?_⟩
      refine ⟨_, _, .inl (SqL.of S1.hd), rfl, ⟨n0, n1⟩, fun d _ d0 => ⟨b, _, _, 2, rfl, rfl, S1.hd, rfl, ?_⟩⟩
      exact q r _ _ r0 r1 ⟨N, ns, i, d, t + 1, z, rfl, hN, i0, d0 g0⟩ S1.set
    -- a new number
    refine ⟨_, _, .inl (SqL.of S1.hd), rfl, _, _, .inl (SqL.of S1.hd), rfl, _, .inl (SqL.of (S1.st hN)), fun e => ?_, fun e => ?_⟩
    · have hi : i < (ns.map V.int).length := of_decide_eq_true e
      obtain ⟨v, hv, hm⟩ := atI_in i0 hi
      obtain ⟨c, _, rfl⟩ := List.mem_map.mp hm
      refine ⟨_, _, .inl (SqL.of S1.hd), rfl, _, _, .inl (SqL.of S1.hd), rfl, _, _, .inl (SqL.of (S1.st hN)), hv, ?_⟩
      refine ⟨_, _, .inl (SqL.of S1.hd), rfl, b, _, _, 1, rfl, rfl, S1.hd, rfl, ?_⟩
      have S2 := S1.set (o' := .lst [.ref N, .int (i + 1), .int g, .int (t + 1), .int z])
      refine ⟨⟨by decide, by decide, by decide⟩, fun p _ => ⟨fun e => ?_, fun e => ?_⟩⟩
      · refine ⟨⟨n0, n1⟩, fun d _ d0 => ⟨b, _, _, 2, rfl, rfl, S2.hd, rfl, n0, fun r _ r0 r1 => ?_⟩⟩
        exact q r _ _ r0 r1 ⟨N, ns, i + 1, d, t + 1, z, rfl, hN, by omega, d0 (by omega)⟩ S2.set
      · refine ⟨_, _, rfl, fun m _ _ => ⟨n0, fun r _ r0 r1 => ?_⟩⟩
        exact q r _ _ r0 r1 ⟨N, ns, i + 1, g, t + 1, z, rfl, hN, by omega, g0⟩ S2
    · refine ⟨_, _, .inl (SqL.of S1.hd), rfl, _, _, rfl, fun m _ _ => ⟨n0, fun r _ r0 r1 => ?_⟩⟩
      exact q r _ _ r0 r1 ⟨N, ns, i, g, t + 1, z, rfl, hN, i0, g0⟩ S1

def spBag (K : PySem.W.Frag) : Sp := fun vs H Q _ => ∃ (G : Hp) (M : List (Addr × HO)) (a : Addr) (ns : List Int), vs = [.ref a] ∧ Sep G M H ∧ SqL K G a (ns.map V.int) ∧ ns.length ≤ 63 ∧
  ∀ (b : Addr) (o : HO) (G' H' : Hp), Same G G' → Bag G' o → Sep G' ((b, o) :: M) H' → Q (.ref b) H'
theorem ok_bag (T : Top K mg w) {k : Nat} : FnOk P w K mg base CX0 (k + 1) T.a_bag T.d_bag ["_law_script"] (spBag K) := by
  refine T.F_bag.ok sc_bag (fun vs H Q E h => ?_) (fun cdv A outer s H vs Q E hr h => ?_)
  · obtain ⟨G, M, a, ns, rfl, _⟩ := h
    rfl
  · obtain ⟨G, M, a, ns, rfl, S, hA, hl, q⟩ := h
    refine ⟨_, (pss_cons (ps_setLc (i := 2) (own := [("_law_cell", 1)]) (by rfl) sc_bag.nd rfl rfl (sw_true rfl rfl rfl (by decide +kernel)) (pi_listK K (xv 0)) (blkOk_by (N := ["_law_script", "_law_cell", "_law_numbers", "_law_seed", "_law_at"]) (sc := defScope s_bag) (by decide +kernel)) (fun _ _ _ _ _ => (pg_name (i := 1) sc_bag.nd rfl (.inl rfl))) (fun _ _ _ _ _ => pts_nil) (fun _ _ _ _ _ => (pe_callTy cr_int (by rfl) T.m_int (by decide +kernel) (pa_cons (xv 1) pa_nil))))
      (pss_cons (ps_set (i := 3) sc_bag.nd rfl (.inl rfl) (pe_callB (cr_lenK K) (by rfl) T.m_len (by decide +kernel) (pa_cons (xv 2) pa_nil)))
      (pss_cons (ps_for PassesOwn.never rfl (pi_enum (by rfl) T.m_enumerate (pa_cons (pe_slice (sl_listK K) (xv 2) po_none (po_some pe_int)) pa_nil)) (pg_tupK K 2 (pgs_cons (pg_name (i := 4) sc_bag.nd rfl (.inl rfl)) (pgs_cons (pg_name (i := 1) sc_bag.nd rfl (.inl rfl)) pgs_nil)))
      (pss_one (ps_set (i := 3) sc_bag.nd rfl (.inl rfl) (pe_op op_modY (pe_callTy cr_int (by rfl) T.m_int (by decide +kernel) (pa_cons (pe_op op_addY (pe_op op_addY (pe_op op_mulY (xv 3) pe_int) (pe_op op_modY (pe_callTy cr_int (by rfl) T.m_int (by decide +kernel) (pa_cons (pe_callB cr_abs (by rfl) T.m_abs (by decide +kernel) (pa_cons (xv 1) pa_nil)) pa_nil)) pe_int)) (pe_op op_mulY (pe_op op_addY (xv 4) pe_int) (pe_cmpR op_ltY (xv 1) pe_int (nomark _)))) pa_nil)) pe_int))))
      (pss_one (ps_ret (pe_lst (pa_cons (xv 2) (pa_cons pe_int (pa_cons pe_int (pa_cons pe_int (pa_cons (xv 3) pa_nil))))))))))), ?_⟩
    refine ⟨a, rfl, ⟨_, S.l hA⟩, fun L nL => lc_pre (xs := ns.map V.int) (fun pre H' => Sep G ((L, .lst pre) :: M) H') (S.new nL) (fun pre H' p => p.l hA) (fun _ => rfl) (fun pre x post H' e p => ?_) (fun H' S1 => ?_)⟩
    · obtain ⟨c, _, rfl⟩ := List.mem_map.mp (show x ∈ ns.map V.int by rw [e]; simp)
      have hz : pre.length ≤ 63 := by
        have z := congrArg List.length e
        rw [List.length_map, List.length_append] at z
        omega
      exact ⟨_, p.hd, smallL (by omega), p.set⟩
    · -- the seed
      have S2 := S1.frz
      have hN : upd G L (.lst (ns.map V.int)) L = some (.lst (ns.map V.int)) := upd_same
      refine ⟨_, .inl (SqL.of (S2.st hN)), ?_⟩
      refine ⟨63, rfl, L, _, rfl, SqL.of (S2.st hN), fun c nc => ?_⟩
      have S3 := S2.newG (o := .lst (cutV (ns.map V.int) none (some 63))) nc
      have s3 := S2.grow (o := .lst (cutV (ns.map V.int) none (some 63))) nc
      refine ⟨c, _, rfl, SqL.of (S3.st upd_same), for_enum (xs := cutV (ns.map V.int) none (some 63)) (fun pre σ H' => ∃ (y1 y4 : Option V) (z : Int) (G' : Hp), σ = [some (.ref a), y1, some (.ref L), some (.int z), y4] ∧
        Same (upd (upd G L (.lst (ns.map V.int))) c (.lst (cutV (ns.map V.int) none (some 63)))) G' ∧ Sep G' M H') ⟨_, _, _, _, rfl, Same.refl _, S3⟩ (fun pre σ H' h => ?_) (fun pre x post σ H' W e h nW => ?_) (fun σ H' h => ?_)⟩
      · obtain ⟨_, _, _, G', _, s4, S4⟩ := h
        exact SqL.of (S4.st (s4 _ _ upd_same))
      · obtain ⟨y1, y4, z, G', rfl, s4, S4⟩ := h
        have hx : x ∈ ns.map V.int := by
          have hm : x ∈ cutV (ns.map V.int) none (some 63) := by rw [e]; simp
          exact List.mem_of_mem_drop (List.mem_of_mem_take hm)
        obtain ⟨v, _, rfl⟩ := List.mem_map.mp hx
        have S5 := S4.newG (o := .tup [.int (pre.length : Nat), .int v]) nW
        refine ⟨.inr ⟨by decide, by decide⟩, by decide, fun r _ r0 r1 => ⟨by decide, fun u _ u0 u1 => ?_⟩⟩
        exact ⟨_, _, _, _, rfl, s4.trans (S4.grow nW), S5⟩
      · obtain ⟨y1, y4, z, G', rfl, s4, S4⟩ := h
        refine ⟨sz, fun b nb => ?_⟩
        exact q b _ G' _ ((S1.frzS).trans (s3.trans s4)) ⟨L, ns, 0, 0, 0, z, rfl, s4 _ _ (s3 _ _ hN), by decide, by decide⟩ (S4.new nb)

def spChoice (K : PySem.W.Frag) : Sp := fun vs H Q _ => ∃ (G : Hp) (M : List (Addr × HO)) (b : Addr) (o : HO) (l : Addr) (xs : List V), vs = [.ref b, .ref l] ∧ Sep G ((b, o) :: M) H ∧ Bag G o ∧ SqL K G l xs ∧ 0 < xs.length ∧ xs.length < 100000 ∧
  ∀ (v : V) (o' : HO) (H' : Hp), v ∈ xs → Bag G o' → Sep G ((b, o') :: M) H' → Q v H'
theorem ok_choice (T : Top K mg w) {k : Nat} (G_pick : FnOk P w K mg base CX0 k T.a_pick T.d_pick ["_law_bag_here", "_law_many"] spPick) : FnOk P w K mg base CX0 (k + 1) T.a_choice T.d_choice ["_law_bag_here", "_law_things"] (spChoice K) := by
  refine T.F_choice.ok sc_choice (fun vs H Q E h => ?_) (fun cdv A outer s H vs Q E hr h => ?_)
  · obtain ⟨G, M, b, o, l, xs, rfl, _⟩ := h
    rfl
  · obtain ⟨G, M, b, o, l, xs, rfl, S, B, hl, x0, x1, q⟩ := h
    refine ⟨_, (pss_one (ps_ret (pe_ix (ix_k K) (xv 1) (pe_call G_pick (hr.mono (by omega)) (by rfl) T.g_pick T.F_pick.kp T.b_pick .nil pass0 (pa_cons (xv 0) (pa_cons (pe_callB (cr_lenK K) (by rfl) T.m_len (by decide +kernel) (pa_cons (xv 1) pa_nil)) pa_nil))) (fun _ _ => rfl)))), ?_⟩
    refine ⟨_, .inl (S.l hl), G, M, b, o, _, rfl, S, B, by omega, by omega, fun r o' H' r0 r1 B' S' => ?_⟩
    obtain ⟨v, hv, hm⟩ := atI_in r0 r1
    exact ⟨_, v, .inl (S'.l hl), hv, q v o' H' hm B' S'⟩

end
end K18
set_option Elab.async false
set_option linter.all false
set_option maxRecDepth 100000
set_option maxHeartbeats 4000000
namespace K18
open PySem PySem.Spec PyProof.Rows L2 XL
section
variable {P : Program} {w : World} {K : PySem.W.Frag} {mg : Str → Option Value} {base : Heap}
/-! ### drawn texts, labels -/
structure Tx (a b : Nat) (z : Str) : Prop where
  lo : a ≤ z.length
  hi : z.length ≤ b
  ch : ∀ c ∈ z.cps.toList, c < 128
theorem Tx.wide {a b a' b' : Nat} {z : Str} (h : Tx a b z) (h1 : a' ≤ a) (h2 : b ≤ b') : Tx a' b' z := ⟨Nat.le_trans h1 h.lo, Nat.le_trans h.hi h2, h.ch⟩
theorem Tx.app {a b c d : Nat} {x y : Str} (h : Tx a b x) (k : Tx c d y) : Tx (a + c) (b + d) (x ++ y) := by
  have h1 := h.lo; have h2 := h.hi; have h3 := k.lo; have h4 := k.hi
  refine ⟨by rw [app_len]; omega, by rw [app_len]; omega, fun e he => ?_⟩
  rw [app_tl] at he
  rcases List.mem_append.mp he with z | z
  · exact h.ch e z
  · exact k.ch e z
theorem Tx.lit {a b : Nat} (z : Str) (h : (Nat.ble a z.length && Nat.ble z.length b && z.cps.toList.all fun c => decide (c < 128)) = true) : Tx a b z := by
  rw [Bool.and_eq_true, Bool.and_eq_true] at h
  exact ⟨Nat.le_of_ble_eq_true h.1.1, Nat.le_of_ble_eq_true h.1.2, fun c hc => of_decide_eq_true (List.all_eq_true.mp h.2 c hc)⟩
def spText : Sp := fun vs H Q _ => ∃ (G : Hp) (M : List (Addr × HO)) (b : Addr) (o : HO) (l m : Nat), vs = [.ref b, .int (l : Nat), .int (m : Nat)] ∧ Sep G ((b, o) :: M) H ∧ Bag G o ∧ l ≤ m ∧ m ≤ 1000 ∧
  ∀ (z : Str) (o' : HO) (H' : Hp), Tx l m z → Bag G o' → Sep G ((b, o') :: M) H' → Q (.str z) H'
theorem ok_text (T : Top K mg w) {k : Nat} (G_pick : FnOk P w K mg base CX0 k T.a_pick T.d_pick ["_law_bag_here", "_law_many"] spPick) : FnOk P w K mg base CX0 (k + 1) T.a_text T.d_text ["_law_bag_here", "_law_least", "_law_most"] spText := by
  refine T.F_text.ok sc_text (fun vs H Q E h => ?_) (fun cdv A outer s H vs Q E hr h => ?_)
  · obtain ⟨G, M, b, o, l, m, rfl, _⟩ := h
    rfl
  · obtain ⟨G, M, b, o, l, m, rfl, S, B, l1, m1, q⟩ := h
    refine ⟨_, (pss_cons (ps_set (i := 3) sc_text.nd rfl (.inl rfl) pe_str)
      (pss_cons (ps_set (i := 3) sc_text.nd rfl (.inl rfl) (pe_op op_addY (xv 3) pe_str))
      (pss_cons (ps_set (i := 4) sc_text.nd rfl (.inl rfl) pe_str)
      (pss_cons (ps_for PassesOwn.never rfl (pi_range1 (by rfl) T.m_range (pa_cons (pe_op op_addY (xv 1) (pe_call G_pick (hr.mono (by omega)) (by rfl) T.g_pick T.F_pick.kp T.b_pick .nil pass0 (pa_cons (xv 0) (pa_cons (pe_op op_addY (pe_op op_subY (xv 2) (xv 1)) pe_int) pa_nil)))) pa_nil)) (pg_name (i := 5) sc_text.nd rfl (.inl rfl))
      (pss_one (ps_set (i := 4) sc_text.nd rfl (.inl rfl) (pe_op op_addY (xv 4) (pe_ix (ix_k K) (xv 3) (pe_call G_pick (hr.mono (by omega)) (by rfl) T.g_pick T.F_pick.kp T.b_pick .nil pass0 (pa_cons (xv 0) (pa_cons (pe_callB (cr_lenK K) (by rfl) T.m_len (by decide +kernel) (pa_cons (xv 3) pa_nil)) pa_nil))) (fun _ _ => rfl))))))
      (pss_one (ps_ret (xv 4))))))), ?_⟩
    refine ⟨by decide +kernel, fun sg hsg => ?_⟩
    have hlen : sg.length = 94 := by rw [hsg]; decide +kernel
    have hch : ∀ c ∈ sg.cps.toList, c < 128 := by rw [hsg]; decide +kernel
    refine ⟨G, M, b, o, _, rfl, S, B, by omega, by omega, fun r o1 H1 r0 r1 B1 S1 => ?_⟩
    refine ⟨_, rfl, by omega, by omega, for_range (lo := 0) (n := ((l : Int) + r).toNat) (fun i σ H' => ∃ (y5 : Option V) (z : Str) (o' : HO), σ = [some (.ref b), some (.int (l : Nat)), some (.int (m : Nat)), some (.str sg), some (.str z), y5] ∧ z.length = i ∧ (∀ c ∈ z.cps.toList, c < 128) ∧
      Bag G o' ∧ Sep G ((b, o') :: M) H') ⟨_, _, o1, rfl, rfl, (fun c hc => absurd hc (show c ∉ ([] : List Nat) by simp)), B1, S1⟩ (fun i σ H' hi h => ?_) (fun σ H' h => ?_)⟩
    · obtain ⟨y5, z, o', rfl, hz, hzc, B', S'⟩ := h
      refine ⟨small (by omega), G, M, b, o', _, rfl, S', B', by omega, by omega, fun r2 o2 H2 r20 r21 B2 S2 => ?_⟩
      obtain ⟨c, hc, hcm⟩ := atI_in (xs := sg.cps.toList) r20 (by rw [Array.length_toList]; exact r21)
      refine ⟨c, small (by omega), hc, ?_, fun z2 hz2 => ?_⟩
      · rw [hz]
        exact small (by show i + 1 ≤ 100000; omega)
      · refine ⟨_, z2, o2, rfl, ?_, fun d hd => ?_, B2, S2⟩
        · rw [hz2, PySem.Str.length_append, hz]
          rfl
        · rw [hz2, app_tl] at hd
          rcases List.mem_append.mp hd with k | k
          · exact hzc d k
          · have : d = c := by simpa using k
            rw [this]
            exact hch c hcm
    · obtain ⟨y5, z, o', rfl, hz, hzc, B', S'⟩ := h
      exact q z o' H' ⟨by omega, by omega, hzc⟩ B' S'
theorem digit_tx {r : Int} (h0 : 0 ≤ r) (h1 : r < 10) : Tx 1 1 (toString r : Str) := by
  have h : r = 0 ∨ r = 1 ∨ r = 2 ∨ r = 3 ∨ r = 4 ∨ r = 5 ∨ r = 6 ∨ r = 7 ∨ r = 8 ∨ r = 9 := by omega
  rcases h with rfl | rfl | rfl | rfl | rfl | rfl | rfl | rfl | rfl | rfl <;> exact Tx.lit _ (by decide +kernel)
def spLabel : Sp := fun vs H Q _ => ∃ (G : Hp) (M : List (Addr × HO)) (b : Addr) (o : HO), vs = [.ref b] ∧ Sep G ((b, o) :: M) H ∧ Bag G o ∧
  ∀ (z : Str) (o' : HO) (G' H' : Hp), Tx 1 20 z → Same G G' → Bag G' o' → Sep G' ((b, o') :: M) H' → Q (.str z) H'
theorem ok_label (T : Top K mg w) {k : Nat} (G_pick : FnOk P w K mg base CX0 k T.a_pick T.d_pick ["_law_bag_here", "_law_many"] spPick) (G_text : FnOk P w K mg base CX0 (k + 1) T.a_text T.d_text ["_law_bag_here", "_law_least", "_law_most"] spText)
    (G_choice : FnOk P w K mg base CX0 (k + 1) T.a_choice T.d_choice ["_law_bag_here", "_law_things"] (spChoice K)) : FnOk P w K mg base CX0 (k + 2) T.a_label T.d_label ["_law_bag_here"] spLabel := by
  refine T.F_label.ok sc_label (fun vs H Q E h => ?_) (fun cdv A outer s H vs Q E hr h => ?_)
  · obtain ⟨G, M, b, o, rfl, _⟩ := h
    rfl
  · obtain ⟨G, M, b, o, rfl, S, B, q⟩ := h
    refine ⟨_, (pss_cons (ps_set (i := 1) sc_label.nd rfl (.inl rfl) (pe_call G_pick (hr.mono (by omega)) (by rfl) T.g_pick T.F_pick.kp T.b_pick .nil pass0 (pa_cons (xv 0) (pa_cons pe_int pa_nil))))
      (pss_cons (xs_if (xt_cmp op_ltY (xv 1) pe_int (nomark _))
      (pss_one (ps_ret pe_str))
      pss_nil)
      (pss_cons (xs_if (xt_cmp (op_eqK K hr.units) (xv 1) pe_int (nomark _))
      (pss_one (ps_ret pe_str))
      pss_nil)
      (pss_cons (xs_if (xt_cmp op_ltY (xv 1) pe_int (nomark _))
      (pss_one (ps_ret (pe_op op_addY pe_str (pe_callTy cr_strI (by rfl) T.m_str (by decide +kernel) (pa_cons (pe_call G_pick (hr.mono (by omega)) (by rfl) T.g_pick T.F_pick.kp T.b_pick .nil pass0 (pa_cons (xv 0) (pa_cons pe_int pa_nil))) pa_nil)))))
      pss_nil)
      (pss_cons (xs_if (xt_cmp (op_eqK K hr.units) (xv 1) pe_int (nomark _))
      (pss_one (ps_ret (pe_op op_addY pe_str (pe_call G_text (hr.mono (by omega)) (by rfl) T.g_text T.F_text.kp T.b_text .nil pass0 (pa_cons (xv 0) (pa_cons pe_int (pa_cons pe_int pa_nil)))))))
      pss_nil)
      (pss_cons (xs_if (xt_cmp (op_eqK K hr.units) (xv 1) pe_int (nomark _))
      (pss_one (ps_ret (pe_call G_choice (hr.mono (by omega)) (by rfl) T.g_choice T.F_choice.kp T.b_choice .nil pass0 (pa_cons (xv 0) (pa_cons (pe_lst (pa_cons pe_str (pa_cons pe_str (pa_cons pe_str (pa_cons pe_str (pa_cons pe_str (pa_cons pe_str (pa_cons pe_str (pa_cons pe_str (pa_cons pe_str (pa_cons pe_str (pa_cons pe_str (pa_cons pe_str (pa_cons pe_str (pa_cons pe_str (pa_cons pe_str (pa_cons pe_str (pa_cons pe_str (pa_cons pe_str (pa_cons pe_str pa_nil)))))))))))))))))))) pa_nil)))))
      pss_nil)
      (pss_one (ps_ret (pe_call G_text (hr.mono (by omega)) (by rfl) T.g_text T.F_text.kp T.b_text .nil pass0 (pa_cons (xv 0) (pa_cons pe_int (pa_cons pe_int pa_nil)))))))))))), ?_⟩
    refine ⟨G, M, b, o, _, rfl, S, B, by omega, by omega, fun r o1 H1 r0 r1 B1 S1 => ?_⟩
    have sr := Same.refl G
    refine ⟨fun e => ?_, fun e => ⟨fun e => ?_, fun e => ⟨fun e => ?_, fun e => ⟨fun e => ?_, fun e => ⟨fun e => ?_, fun e => ?_⟩⟩⟩⟩⟩
    · exact q _ o1 G _ (Tx.lit _ (by decide +kernel)) sr B1 S1
    · exact q _ o1 G _ (Tx.lit _ (by decide +kernel)) sr B1 S1
    · refine ⟨G, M, b, o1, _, rfl, S1, B1, by omega, by omega, fun r2 o2 H2 r20 r21 B2 S2 => ?_⟩
      have e1 := digit_tx r20 r21
      have e0 : Tx 5 5 ("text " : Str) := Tx.lit _ (by decide +kernel)
      refine ⟨?_, ?_, fun z hz => q z o2 G _ ?_ sr B2 S2⟩
      · have h : r2 = 0 ∨ r2 = 1 ∨ r2 = 2 ∨ r2 = 3 ∨ r2 = 4 ∨ r2 = 5 ∨ r2 = 6 ∨ r2 = 7 ∨ r2 = 8 ∨ r2 = 9 := by omega
        rcases h with rfl | rfl | rfl | rfl | rfl | rfl | rfl | rfl | rfl | rfl <;> decide +kernel
      · have := e1.hi; have := e0.hi
        exact small (by omega)
      · rw [hz]
        exact (e0.app e1).wide (by decide) (by decide)
    · refine ⟨G, M, b, o1, 0, 13, rfl, S1, B1, by omega, by omega, fun z o2 H2 hz B2 S2 => ?_⟩
      have e1 : Tx 7 7 ("button " : Str) := Tx.lit _ (by decide +kernel)
      refine ⟨?_, fun z2 hz2 => q z2 o2 G _ ?_ sr B2 S2⟩
      · have := e1.hi; have := hz.hi
        exact small (by omega)
      · rw [hz2]
        exact (e1.app hz).wide (by decide) (by decide)
    · refine ⟨sz, fun p np => ?_⟩
      refine ⟨_, M, b, o1, p, _, rfl, S1.newG np, B1.same (S1.grow np), SqL.of upd_same, by decide, by decide, fun v o2 H2 hv B2 S2 => ?_⟩
      have hz : ∃ z : Str, v = .str z ∧ Tx 1 20 z := by
        simp only [List.mem_cons, List.not_mem_nil, or_false] at hv
        rcases hv with rfl | rfl | rfl | rfl | rfl | rfl | rfl | rfl | rfl | rfl | rfl | rfl | rfl | rfl | rfl | rfl | rfl | rfl | rfl <;> exact ⟨_, rfl, Tx.lit _ (by decide +kernel)⟩
      obtain ⟨z, rfl, hz⟩ := hz
      exact q z o2 _ _ hz (S1.grow np) B2 S2
    · refine ⟨G, M, b, o1, 1, 20, rfl, S1, B1, by omega, by omega, fun z o2 H2 hz B2 S2 => ?_⟩
      exact q z o2 G _ hz sr B2 S2

end
end K18
set_option Elab.async false
set_option linter.all false
set_option maxRecDepth 100000
set_option maxHeartbeats 4000000
namespace K18
open PySem PySem.Spec PyProof.Rows L2 XL
/-! ### data of a bounded size -/
theorem showAll : ∀ {xs : List PyData}, (∀ x ∈ xs, x.showable = true) → PyData.showableAll xs = true
  | [], _ => by simp only [PyData.showableAll]
  | x :: xs, h => by
    simp only [PyData.showableAll, h x (by simp), showAll (xs := xs) fun y hy => h y (List.mem_cons_of_mem _ hy), Bool.and_self]
theorem layAll : ∀ {xs : List PyData}, (∀ x ∈ xs, x.canLay0 = true) → PyData.canLayAll0 xs = true
  | [], _ => by simp only [PyData.canLayAll0]
  | x :: xs, h => by
    simp only [PyData.canLayAll0, h x (by simp), layAll (xs := xs) fun y hy => h y (List.mem_cons_of_mem _ hy), Bool.and_self]
theorem depthAll_le {n : Nat} : ∀ {xs : List PyData}, (∀ x ∈ xs, x.depth ≤ n) → PyData.depthAll xs ≤ n
  | [], _ => by simp only [PyData.depthAll]; omega
  | x :: xs, h => by
    have h1 := h x (by simp)
    have h2 := depthAll_le (xs := xs) fun y hy => h y (List.mem_cons_of_mem _ hy)
    simp only [PyData.depthAll]
    omega
theorem shortAll {n : Nat} : ∀ {xs : List PyData}, (∀ x ∈ xs, x.leavesShort n = true) → PyData.leavesShortAll n xs = true
  | [], _ => by simp only [PyData.leavesShortAll]
  | x :: xs, h => by
    simp only [PyData.leavesShortAll, h x (by simp), shortAll (xs := xs) fun y hy => h y (List.mem_cons_of_mem _ hy), Bool.and_self]
theorem weightAll_le {n : Nat} : ∀ {xs : List PyData}, (∀ x ∈ xs, x.weight ≤ n) → PyData.weightAll xs ≤ xs.length * (n + 1)
  | [], _ => by simp only [PyData.weightAll]; omega
  | x :: xs, h => by
    have h1 := h x (by simp)
    have h2 := weightAll_le (xs := xs) fun y hy => h y (List.mem_cons_of_mem _ hy)
    simp only [PyData.weightAll, List.length_cons, Nat.add_mul]
    omega
structure Fit (w dp : Nat) (d : PyData) : Prop where
  cl : d.canLay0 = true
  sh : d.showable = true
  ls : d.leavesShort 8 = true
  dp : d.depth ≤ dp
  wt : d.weight ≤ w
theorem Fit.mono {w dp w' dp' : Nat} {d : PyData} (h : Fit w dp d) (h1 : w ≤ w') (h2 : dp ≤ dp') : Fit w' dp' d := ⟨h.cl, h.sh, h.ls, Nat.le_trans h.dp h2, Nat.le_trans h.wt h1⟩
theorem Fit.shaped {w dp : Nat} {d : PyData} (h : Fit w dp d) (h2 : dp ≤ 64) : SeqAt.shaped d = true := by
  unfold SeqAt.shaped
  rw [h.cl, decide_eq_true (Nat.le_trans h.dp h2)]
  rfl
theorem Fit.self {w dp : Nat} {d : PyData} (h : Fit w dp d) : PyData.eqv d d = true := SeqAt.eqv_refl d h.cl
structure Shw (d : PyData) : Prop where
  sh : d.showable = true
  nd : d.hasDict = false
  dp : d.depth ≤ 64
  ln : d.shown.length ≤ sizeLine
theorem Fit.shw {w dp : Nat} {d : PyData} (h : Fit w dp d) (h1 : w ≤ 1048576) (h2 : dp ≤ 64) : Shw d :=
  ⟨h.sh, PyData.hasDict_of_canLay d h.cl, Nat.le_trans h.dp h2, PyData.shown_fits (B := 8) (by decide) (by decide) h.ls (Nat.le_trans h.wt (Nat.le_trans h1 (by decide)))⟩
theorem Fit.tup {w dp : Nat} {ds : List PyData} (hw : PyData.weightAll ds ≤ w) (h : ∀ d ∈ ds, ∃ w', Fit w' dp d) : Fit w (dp + 1) (.tuple ds) := by
  have dl := depthAll_le (n := dp) fun d hd => (h d hd).choose_spec.dp
  refine ⟨?_, ?_, ?_, ?_, ?_⟩
  · simp only [PyData.canLay0]; exact layAll fun d hd => (h d hd).choose_spec.cl
  · simp only [PyData.showable]; exact showAll fun d hd => (h d hd).choose_spec.sh
  · simp only [PyData.leavesShort]; exact shortAll fun d hd => (h d hd).choose_spec.ls
  · simp only [PyData.depth]; omega
  · simp only [PyData.weight]; exact hw
theorem Fit.lst {w dp : Nat} {ds : List PyData} (hw : PyData.weightAll ds ≤ w) (h : ∀ d ∈ ds, ∃ w', Fit w' dp d) : Fit w (dp + 1) (.list ds) := by
  have dl := depthAll_le (n := dp) fun d hd => (h d hd).choose_spec.dp
  refine ⟨?_, ?_, ?_, ?_, ?_⟩
  · simp only [PyData.canLay0]; exact layAll fun d hd => (h d hd).choose_spec.cl
  · simp only [PyData.showable]; exact showAll fun d hd => (h d hd).choose_spec.sh
  · simp only [PyData.leavesShort]; exact shortAll fun d hd => (h d hd).choose_spec.ls
  · simp only [PyData.depth]; omega
  · simp only [PyData.weight]; exact hw
theorem Fit.tups {w dp : Nat} {ds : List PyData} (h : ∀ d ∈ ds, Fit w dp d) : Fit (ds.length * (w + 1)) (dp + 1) (.tuple ds) := .tup (weightAll_le fun d hd => (h d hd).wt) fun d hd => ⟨w, h d hd⟩
theorem Fit.lsts {w dp : Nat} {ds : List PyData} (h : ∀ d ∈ ds, Fit w dp d) : Fit (ds.length * (w + 1)) (dp + 1) (.list ds) := .lst (weightAll_le fun d hd => (h d hd).wt) fun d hd => ⟨w, h d hd⟩
theorem Fit.str {z : Str} {w : Nat} (h : ∀ c ∈ z.cps.toList, c < 1114112) (l : z.length ≤ w) : Fit w 0 (.str z) := by
  refine ⟨?_, by simp only [PyData.showable], ?_, by simp only [PyData.depth]; omega, ?_⟩
  · simp only [PyData.canLay0]
    unfold PyData.strOk
    rw [← Array.all_toList, List.all_eq_true]
    exact fun c hc => decide_eq_true (h c hc)
  · simp only [PyData.leavesShort]
    rw [List.all_eq_true]
    exact fun c hc => decide_eq_true (Nat.lt_trans (h c hc) (by decide))
  · simp only [PyData.weight]
    exact l
theorem LS_low : ∀ c ∈ LS.cps.toList, c < 1114112 := by decide +kernel
theorem Fit.name {z : Str} {a b : Nat} (h : Lt a b z) : Fit b 0 (.str z) := .str (fun c hc => LS_low c (h.ch c hc)) h.hi
theorem dig_short : ∀ n : Nat, n < 10 → (PyData.shown (.int (n : Nat))).length ≤ 8 ∧ PyData.weight (.int (n : Nat)) ≤ 4 ∧ PyData.showable (.int (n : Nat)) = true := by decide +kernel
theorem Fit.digit {n : Int} (h0 : 0 ≤ n) (h1 : n ≤ 9) : Fit 4 0 (.int n) := by
  obtain ⟨k, rfl⟩ := Int.eq_ofNat_of_zero_le h0
  have z := dig_short k (by omega)
  refine ⟨by simp only [PyData.canLay0], z.2.2, ?_, by simp only [PyData.depth]; omega, z.2.1⟩
  simp only [PyData.leavesShort]
  exact decide_eq_true z.1
/-! ### data at a value -/
theorem dp_tup {K : PySem.W.Frag} {G : Hp} {v : V} {ds : List PyData} (h : Dp K G v (.tuple ds)) : ∃ a xs, v = .ref a ∧ SqT K G a xs ∧ DpAll K G xs ds := by
  cases h with
  | tup h1 h2 => exact ⟨_, _, rfl, h1, h2⟩
theorem dpa_cons {K : PySem.W.Frag} {G : Hp} {xs : List V} {d : PyData} {ds : List PyData} (h : DpAll K G xs (d :: ds)) : ∃ x r, xs = x :: r ∧ Dp K G x d ∧ DpAll K G r ds := by
  cases h with
  | cons h1 h2 => exact ⟨_, _, rfl, h1, h2⟩
theorem dpa_nil {K : PySem.W.Frag} {G : Hp} {xs : List V} (h : DpAll K G xs []) : xs = [] := by
  cases h
  rfl
theorem dp_str {K : PySem.W.Frag} {G : Hp} {v : V} {z : Str} (h : Dp K G v (.str z)) : v = .str z := by
  cases h
  rfl
theorem dpa_len {K : PySem.W.Frag} {G : Hp} : ∀ {xs : List V} {ds : List PyData}, DpAll K G xs ds → xs.length = ds.length
  | _, _, .nil => rfl
  | _, _, .cons _ h => congrArg (· + 1) (dpa_len h)
theorem dpa_get {K : PySem.W.Frag} {G : Hp} : ∀ {xs : List V} {ds : List PyData} {i : Nat} {x : V}, DpAll K G xs ds → xs[i]? = some x → ∃ d, ds[i]? = some d ∧ Dp K G x d
  | _, _, _, _, .nil, h => by simp at h
  | _, _, 0, _, .cons h1 _, h => by
    simp at h
    subst h
    exact ⟨_, rfl, h1⟩
  | _, _, i + 1, _, .cons _ h2, h => by
    rw [List.getElem?_cons_succ] at h
    obtain ⟨d, e1, e2⟩ := dpa_get h2 h
    exact ⟨d, by rw [List.getElem?_cons_succ]; exact e1, e2⟩
theorem dpa_app {K : PySem.W.Frag} {G : Hp} : ∀ {xs ys : List V} {ds es : List PyData}, DpAll K G xs ds → DpAll K G ys es → DpAll K G (xs ++ ys) (ds ++ es)
  | _, _, _, _, .nil, h => h
  | _, _, _, _, .cons h1 h2, h => .cons h1 (dpa_app h2 h)
theorem dpa_take {K : PySem.W.Frag} {G : Hp} : ∀ {xs : List V} {ds : List PyData} (n : Nat), DpAll K G xs ds → DpAll K G (xs.take n) (ds.take n)
  | _, _, 0, _ => .nil
  | _, _, _ + 1, .nil => .nil
  | _, _, n + 1, .cons h1 h2 => .cons h1 (dpa_take n h2)
theorem dpa_drop {K : PySem.W.Frag} {G : Hp} : ∀ {xs : List V} {ds : List PyData} (n : Nat), DpAll K G xs ds → DpAll K G (xs.drop n) (ds.drop n)
  | _, _, 0, h => h
  | _, _, _ + 1, .nil => .nil
  | _, _, n + 1, .cons _ h2 => dpa_drop n h2
theorem dpa_one {K : PySem.W.Frag} {G : Hp} {v : V} {d : PyData} (h : Dp K G v d) : DpAll K G [v] [d] := .cons h .nil
theorem Sep.mk {G H : Hp} {M : List (Addr × HO)} {p : Addr} {o : HO} (S : Sep G M H) (h : H p = none) : ∃ G', Same G G' ∧ Sep G' M (upd H p o) ∧ G' p = some o := ⟨_, S.grow h, S.newG h, upd_same⟩

/-! ### trees of nodes -/
inductive Tr where
  | node (m l : Str) (ks : List Tr)
def mrk : Tr → Str
  | .node m _ _ => m
def lbl : Tr → Str
  | .node _ l _ => l
def kids : Tr → List Tr
  | .node _ _ ks => ks
theorem tr_eta (t : Tr) : t = .node (mrk t) (lbl t) (kids t) := by cases t; rfl
mutual
def toD : Tr → PyData
  | .node m l ks => .tuple [.str m, .str l, .tuple (toDs ks)]
def toDs : List Tr → List PyData
  | [] => []
  | s :: r => toD s :: toDs r
end
theorem toDs_eq : ∀ ps, toDs ps = ps.map toD
  | [] => by simp only [toDs, List.map_nil]
  | s :: r => by simp only [toDs, List.map_cons, toDs_eq r]
theorem toD_eq (t : Tr) : toD t = .tuple [.str (mrk t), .str (lbl t), .tuple ((kids t).map toD)] := by
  cases t
  simp only [toD, mrk, lbl, kids, toDs_eq]
mutual
def hgt : Tr → Nat
  | .node _ _ ks => hgts ks + 1
def hgts : List Tr → Nat
  | [] => 0
  | s :: r => max (hgt s) (hgts r)
end
theorem hgt_eq (t : Tr) : hgt t = hgts (kids t) + 1 := by
  cases t
  simp only [hgt, kids]
theorem hgt_mem {p : Tr} : ∀ {ps : List Tr}, p ∈ ps → hgt p ≤ hgts ps
  | q :: r, h => by
    rcases List.mem_cons.mp h with rfl | h
    · simp only [hgts]; omega
    · have := hgt_mem h
      simp only [hgts]; omega
theorem hgts_le {n : Nat} : ∀ {ps : List Tr}, (∀ p ∈ ps, hgt p ≤ n) → hgts ps ≤ n
  | [], _ => by simp only [hgts]; omega
  | p :: r, h => by
    have h1 := h p (by simp)
    have h2 := hgts_le (ps := r) fun q hq => h q (List.mem_cons_of_mem _ hq)
    simp only [hgts]; omega
theorem hgt_kid {p s : Tr} (h : p ∈ kids s) : hgt p + 1 ≤ hgt s := by
  have := hgt_mem h
  rw [hgt_eq s]
  omega
/-! in page order -/
mutual
def pre : Tr → List Tr
  | .node m l ks => .node m l ks :: pres ks
def pres : List Tr → List Tr
  | [] => []
  | s :: r => pre s ++ pres r
end
theorem pre_eq (t : Tr) : pre t = t :: pres (kids t) := by
  cases t
  simp only [pre, kids]
theorem pres_app : ∀ xs ys, pres (xs ++ ys) = pres xs ++ pres ys
  | [], ys => by simp only [List.nil_append, pres]
  | x :: xs, ys => by simp only [List.cons_append, pres, pres_app xs ys, List.append_assoc]
theorem pres_one (p : Tr) : pres [p] = pre p := by simp only [pres, List.append_nil]
theorem mem_pres {x : Tr} : ∀ {ps : List Tr}, x ∈ pres ps ↔ ∃ p ∈ ps, x ∈ pre p
  | [] => by simp [pres]
  | p :: r => by simp [pres, mem_pres (ps := r)]
theorem self_pre (t : Tr) : t ∈ pre t := by rw [pre_eq]; simp
theorem many_le : ∀ ps : List Tr, ps.length ≤ (pres ps).length
  | [] => by simp
  | p :: r => by
    have := many_le r
    have e := congrArg List.length (pre_eq p)
    rw [List.length_cons] at e
    simp only [pres, List.length_append, List.length_cons]
    omega
/-! from below -/
mutual
def post : Tr → List Tr
  | .node m l ks => posts ks ++ [.node m l ks]
def posts : List Tr → List Tr
  | [] => []
  | s :: r => post s ++ posts r
end
theorem post_eq (t : Tr) : post t = posts (kids t) ++ [t] := by
  cases t
  simp only [post, kids]
theorem posts_app : ∀ xs ys, posts (xs ++ ys) = posts xs ++ posts ys
  | [], ys => by simp only [List.nil_append, posts]
  | x :: xs, ys => by simp only [List.cons_append, posts, posts_app xs ys, List.append_assoc]
theorem posts_one (p : Tr) : posts [p] = post p := by simp only [posts, List.append_nil]
mutual
theorem post_perm : ∀ t, (post t).Perm (pre t)
  | .node m l ks => by
    simp only [post, pre]
    exact (List.perm_append_comm).trans (List.Perm.cons _ (posts_perm ks))
theorem posts_perm : ∀ ts, (posts ts).Perm (pres ts)
  | [] => by simp only [posts, pres]; exact List.Perm.refl _
  | t :: r => by
    simp only [posts, pres]
    exact (post_perm t).append (posts_perm r)
end
/-- ahead of a node stand those beneath it -/
theorem take_post : ∀ n t, hgt t ≤ n → ∀ i p, (post t)[i]? = some p → ∃ r, (post t).take i = r ++ posts (kids p)
  | 0, t, h, _, _, _ => by rw [hgt_eq] at h; omega
  | n + 1, t, h, i, p, e => by
    have ih := take_post n
    have go : ∀ (ps : List Tr), (∀ q ∈ ps, hgt q ≤ n) → ∀ j, (posts ps)[j]? = some p → ∃ r, (posts ps).take j = r ++ posts (kids p) := by
      intro ps
      induction ps with
      | nil => intro _ j e; simp [posts] at e
      | cons q qs ih2 =>
        intro hq j e
        simp only [posts] at e ⊢
        by_cases hj : j < (post q).length
        · rw [List.getElem?_append_left hj] at e
          obtain ⟨r, hr⟩ := ih q (hq q (by simp)) j p e
          exact ⟨r, by rw [List.take_append_of_le_length (by omega), hr]⟩
        · rw [List.getElem?_append_right (by omega)] at e
          obtain ⟨r, hr⟩ := ih2 (fun x hx => hq x (List.mem_cons_of_mem _ hx)) _ e
          exact ⟨post q ++ r, by rw [List.take_append, List.take_of_length_le (by omega), hr, List.append_assoc]⟩
    rw [post_eq t] at e ⊢
    by_cases hi : i < (posts (kids t)).length
    · rw [List.getElem?_append_left hi] at e
      obtain ⟨r, hr⟩ := go _ (fun q hq => by have := hgt_kid hq; omega) i e
      exact ⟨r, by rw [List.take_append_of_le_length (by omega), hr]⟩
    · rw [List.getElem?_append_right (by omega)] at e
      have hl : i - (posts (kids t)).length = 0 := by
        have := (List.getElem?_eq_some_iff.mp e).1
        simp at this
        omega
      rw [hl] at e
      obtain rfl : t = p := by simpa using e
      have ei : i = (posts (kids t)).length := by omega
      exact ⟨[], by rw [ei, List.take_append_of_le_length (Nat.le_refl _), List.take_length, List.nil_append]⟩
theorem kid_posts {c : Tr} : ∀ {ks : List Tr}, c ∈ ks → c ∈ posts ks
  | k :: r, h => by
    simp only [posts, List.mem_append]
    rcases List.mem_cons.mp h with rfl | h
    · exact .inl (by rw [post_eq]; simp)
    · exact .inr (kid_posts h)
/-! sizes -/
def stp (z : Str) (a p : Int × Int) : Int × Int := if z = "row" then (a.1 + p.1, if a.2 < p.2 then p.2 else a.2) else (if a.1 < p.1 then p.1 else a.1, a.2 + p.2)
def msr (z : Str) (ps : List (Int × Int)) : Int × Int := if ps = [] then (if z = "row" ∨ z = "col" then (0, 0) else (z.length, 1)) else ps.foldl (stp z) (0, 0)
mutual
def meas : Tr → Int × Int
  | .node _ l ks => msr l (meass ks)
def meass : List Tr → List (Int × Int)
  | [] => []
  | s :: r => meas s :: meass r
end
theorem meass_eq : ∀ ps, meass ps = ps.map meas
  | [] => by simp only [meass, List.map_nil]
  | s :: r => by simp only [meass, List.map_cons, meass_eq r]
theorem meas_eq (t : Tr) : meas t = msr (lbl t) ((kids t).map meas) := by
  cases t
  simp only [meas, lbl, kids, meass_eq]
/-! rectangles -/
abbrev Bx := Int × Int × Int × Int
mutual
def rects (x y : Int) : Tr → List (Str × Bx)
  | .node m l ks => (m, (x, y, (msr l (meass ks)).1, (msr l (meass ks)).2)) :: rectss (decide (l = "row")) x y ks
def rectss (row : Bool) (x y : Int) : List Tr → List (Str × Bx)
  | [] => []
  | k :: r => rects x y k ++ rectss row (if row then x + (meas k).1 else x) (if row then y else y + (meas k).2) r
end
theorem rects_eq (x y : Int) (t : Tr) : rects x y t = (mrk t, (x, y, (meas t).1, (meas t).2)) :: rectss (decide (lbl t = "row")) x y (kids t) := by
  cases t
  simp only [rects, mrk, lbl, kids, meas]
  first | rfl | (congr 2)
def offs (row : Bool) (x y : Int) : List Tr → List (Tr × Int × Int)
  | [] => []
  | k :: r => (k, x, y) :: offs row (if row then x + (meas k).1 else x) (if row then y else y + (meas k).2) r
def rectF : List (Tr × Int × Int) → List (Str × Bx)
  | [] => []
  | (t, x, y) :: r => rects x y t ++ rectF r
theorem rectss_eq (row : Bool) : ∀ (ks : List Tr) (x y : Int), rectss row x y ks = rectF (offs row x y ks)
  | [], _, _ => by simp only [rectss, offs, rectF]
  | k :: r, x, y => by simp only [rectss, offs, rectF, rectss_eq row r]
theorem rectF_app : ∀ xs ys, rectF (xs ++ ys) = rectF xs ++ rectF ys
  | [], ys => by simp only [List.nil_append, rectF]
  | (t, x, y) :: r, ys => by simp only [List.cons_append, rectF, rectF_app r ys, List.append_assoc]
mutual
theorem rects_marks (x y : Int) : ∀ t, (rects x y t).map (·.1) = (pre t).map mrk
  | .node m l ks => by simp only [rects, pre, List.map_cons, mrk, rectss_marks]
theorem rectss_marks (row : Bool) (x y : Int) : ∀ ts, (rectss row x y ts).map (·.1) = (pres ts).map mrk
  | [] => by simp only [rectss, pres, List.map_nil]
  | t :: r => by simp only [rectss, pres, List.map_append, rects_marks, rectss_marks]
end
def shf (a b : Int) (r : Str × Bx) : Str × Bx := (r.1, (r.2.1 + a, r.2.2.1 + b, r.2.2.2.1, r.2.2.2.2))
mutual
theorem rects_shift (a b x y : Int) : ∀ t, rects (x + a) (y + b) t = (rects x y t).map (shf a b)
  | .node m l ks => by
    simp only [rects, List.map_cons, shf, rectss_shift a b x y]
theorem rectss_shift (a b x y : Int) (row : Bool) : ∀ ts, rectss row (x + a) (y + b) ts = (rectss row x y ts).map (shf a b)
  | [] => by simp only [rectss, List.map_nil]
  | t :: r => by
    simp only [rectss, List.map_append, rects_shift a b x y]
    congr 1
    cases row
    · have e := rectss_shift a b x (y + (meas t).2) false r
      have e2 : y + (meas t).2 + b = y + b + (meas t).2 := by omega
      rw [e2] at e
      exact e
    · have e := rectss_shift a b (x + (meas t).1) y true r
      have e2 : x + (meas t).1 + a = x + a + (meas t).1 := by omega
      rw [e2] at e
      exact e
end
/-! the flat list of a tree -/
mutual
def fl (d : Nat) : Tr → List (Str × Str × Nat)
  | .node m l ks => (m, l, d) :: fls (d + 1) ks
def fls (d : Nat) : List Tr → List (Str × Str × Nat)
  | [] => []
  | s :: r => fl d s ++ fls d r
end
theorem fl_eq (d : Nat) (t : Tr) : fl d t = (mrk t, lbl t, d) :: fls (d + 1) (kids t) := by
  cases t
  simp only [fl, mrk, lbl, kids]
mutual
theorem fl_pre (d : Nat) : ∀ t, (fl d t).map (fun x => (x.1, x.2.1)) = (pre t).map fun t => (mrk t, lbl t)
  | .node m l ks => by simp only [fl, pre, List.map_cons, mrk, lbl, fls_pre]
theorem fls_pre (d : Nat) : ∀ ts, (fls d ts).map (fun x => (x.1, x.2.1)) = (pres ts).map fun t => (mrk t, lbl t)
  | [] => by simp only [fls, pres, List.map_nil]
  | t :: r => by simp only [fls, pres, List.map_append, fl_pre, fls_pre]
end
mutual
theorem fl_hgt (d : Nat) (n : Nat) : ∀ t, (∀ x ∈ fl d t, x.2.2 < n) → d + hgt t ≤ n
  | .node m l ks, h => by
    simp only [fl, List.mem_cons] at h
    have h0 := h (m, l, d) (.inl rfl)
    have h1 := fls_hgt (d + 1) n ks fun x hx => h x (.inr hx)
    simp only [hgt]
    rcases h1 with h1 | h1
    · rw [h1]; simp only [hgts]; show d + 1 ≤ n; exact h0
    · omega
theorem fls_hgt (d : Nat) (n : Nat) : ∀ ts, (∀ x ∈ fls d ts, x.2.2 < n) → ts = [] ∨ d + hgts ts ≤ n
  | [], _ => .inl rfl
  | t :: r, h => by
    simp only [fls, List.mem_append] at h
    have h0 := fl_hgt d n t fun x hx => h x (.inl hx)
    have h1 := fls_hgt d n r fun x hx => h x (.inr hx)
    refine .inr ?_
    simp only [hgts]
    rcases h1 with h1 | h1
    · rw [h1]; simp only [hgts]; omega
    · omega
end
/-! node values -/
theorem node_at {K : PySem.W.Frag} {G : Hp} {v : V} {t : Tr} (h : Dp K G v (toD t)) : ∃ a kv us, v = .ref a ∧ SqT K G a [.str (mrk t), .str (lbl t), .ref kv] ∧ SqT K G kv us ∧ DpAll K G us ((kids t).map toD) := by
  rw [toD_eq] at h
  obtain ⟨a, xs, rfl, h1, h2⟩ := dp_tup h
  obtain ⟨x1, r1, rfl, h3, h4⟩ := dpa_cons h2
  obtain ⟨x2, r2, rfl, h5, h6⟩ := dpa_cons h4
  obtain ⟨x3, r3, rfl, h7, h8⟩ := dpa_cons h6
  rw [dpa_nil h8] at h1
  obtain ⟨kv, us, rfl, h9, h10⟩ := dp_tup h7
  rw [dp_str h3, dp_str h5] at h1
  exact ⟨a, kv, us, rfl, h1, h9, h10⟩
theorem map_get {ps : List Tr} {i : Nat} {d : PyData} (h : (ps.map toD)[i]? = some d) : ∃ p, ps[i]? = some p ∧ d = toD p := by
  rw [List.getElem?_map] at h
  obtain ⟨p, h1, h2⟩ := Option.map_eq_some_iff.mp h
  exact ⟨p, h1, h2.symm⟩

section
variable {P : Program} {w : World} {K : PySem.W.Frag} {mg : Str → Option Value} {base : Heap}
end
end K18
set_option Elab.async false
set_option linter.all false
set_option maxRecDepth 100000
set_option maxHeartbeats 4000000
namespace K18
open PySem PySem.Spec PyProof.Rows L2 XL
section
variable {P : Program} {w : World} {K : PySem.W.Frag} {mg : Str → Option Value} {base : Heap}
/-! ### a tree out of its flat list -/
abbrev Fr3 := Str × Str × Nat
def Lv : Nat → List Fr3 → Prop
  | _, [] => True
  | p, x :: r => 1 ≤ x.2.2 ∧ x.2.2 ≤ p + 1 ∧ Lv x.2.2 r
def FlOk (fs : List Fr3) : Prop := ∃ x r, fs = x :: r ∧ x.2.2 = 0 ∧ Lv 0 r
theorem lv_pos : ∀ {p : Nat} {r : List Fr3}, Lv p r → ∀ x ∈ r, 1 ≤ x.2.2
  | _, y :: r, h, x, hx => by
    rcases List.mem_cons.mp hx with rfl | hx
    · exact h.1
    · exact lv_pos h.2.2 x hx
/-- the next one is at most one deeper -/
theorem lv_next : ∀ {p : Nat} {r : List Fr3} {i : Nat} {x y : Fr3}, Lv p r → r[i]? = some x → r[i + 1]? = some y → y.2.2 ≤ x.2.2 + 1
  | _, a :: b :: r, 0, x, y, h, e1, e2 => by
    simp at e1 e2
    subst e1 e2
    exact h.2.2.2.1
  | _, a :: r, i + 1, x, y, h, e1, e2 => by
    rw [List.getElem?_cons_succ] at e1 e2
    exact lv_next h.2.2 e1 e2
  | _, [], _, _, _, _, e1, _ => by simp at e1
  | _, [a], 0, x, y, _, e1, e2 => by simp at e2
theorem fl_next {fs : List Fr3} (h : FlOk fs) {i : Nat} {x y : Fr3} (e1 : fs[i]? = some x) (e2 : fs[i + 1]? = some y) : y.2.2 ≤ x.2.2 + 1 := by
  obtain ⟨a, r, rfl, h0, hl⟩ := h
  cases i with
  | zero =>
    simp at e1
    subst e1
    rw [List.getElem?_cons_succ] at e2
    cases r with
    | nil => simp at e2
    | cons b r =>
      simp at e2
      subst e2
      have := hl.2.1
      omega
  | succ i =>
    rw [List.getElem?_cons_succ] at e1 e2
    exact lv_next hl e1 e2
theorem fl_later {fs : List Fr3} (h : FlOk fs) {i : Nat} {x : Fr3} (hi : 1 ≤ i) (e : fs[i]? = some x) : 1 ≤ x.2.2 := by
  obtain ⟨a, r, rfl, h0, hl⟩ := h
  obtain ⟨j, rfl⟩ : ∃ j, i = j + 1 := ⟨i - 1, by omega⟩
  rw [List.getElem?_cons_succ] at e
  exact lv_pos hl x (List.mem_of_getElem? e)
/-- what a stack of trees tells -/
def told : List (Nat × Tr) → List Fr3
  | [] => []
  | (d, t) :: r => fl d t ++ told r
theorem told_same {d : Nat} : ∀ (ts : List Tr) (r : List (Nat × Tr)), told (ts.map (fun t => (d, t)) ++ r) = fls d ts ++ told r
  | [], r => by simp only [List.map_nil, List.nil_append, fls]
  | t :: ts, r => by simp only [List.map_cons, List.cons_append, told, fls, told_same ts r, List.append_assoc]
def RdAt (K : PySem.W.Frag) (G : Hp) (v : V) (p : Nat × Tr) : Prop := ∃ a nv, v = .ref a ∧ G a = some (.tup [.int (p.1 : Nat), nv]) ∧ Dp K G nv (toD p.2)
theorem RdAt.same {K : PySem.W.Frag} {G G' : Hp} {v : V} {p : Nat × Tr} (e : Same G G') (h : RdAt K G v p) : RdAt K G' v p := by
  obtain ⟨a, nv, h1, h2, h3⟩ := h
  exact ⟨a, nv, h1, e _ _ h2, dp_same e h3⟩
def FlAt (G : Hp) (v : V) (p : Fr3) : Prop := ∃ a, v = .ref a ∧ G a = some (.tup [.str p.1, .str p.2.1, .int (p.2.2 : Nat)])
theorem FlAt.same {G G' : Hp} {v : V} {p : Fr3} (e : Same G G') (h : FlAt G v p) : FlAt G' v p := by
  obtain ⟨a, h1, h2⟩ := h
  exact ⟨a, h1, e _ _ h2⟩
def spGrown (K : PySem.W.Frag) : Sp := fun vs H Q _ => ∃ (G : Hp) (M : List (Addr × HO)) (l : Addr) (us : List V) (fs : List Fr3), vs = [.ref l] ∧ Sep G M H ∧ G l = some (.lst us) ∧ Paired (FlAt G) us fs ∧ FlOk fs ∧ fs.length ≤ 1000 ∧
  ∀ (v : V) (t : Tr) (G' H' : Hp), Same G G' → Dp K G' v (toD t) → fl 0 t = fs → Sep G' M H' → Q v H'
theorem atI_last {α : Type} (xs : List α) (x : α) : atI (xs ++ [x]) (-1) = some x := by
  unfold atI ixN
  rw [if_neg (by omega), List.length_append]
  have e : (-1 + ((xs.length + [x].length : Nat) : Int)).toNat = xs.length := by simp; omega
  rw [if_pos (by simp; omega), e]
  simp
theorem prd_unsnoc {α β : Type} {F : α → β → Prop} {xs : List α} {x : α} {ys : List β} (h : Paired F (xs ++ [x]) ys) : ∃ ys' y, ys = ys' ++ [y] ∧ Paired F xs ys' ∧ F x y := by
  induction xs generalizing ys with
  | nil =>
    cases h with
    | cons h t =>
      cases t
      exact ⟨[], _, rfl, .nil, h⟩
  | cons a xs ih =>
    cases h with
    | cons h t =>
      obtain ⟨ys', y, rfl, h1, h2⟩ := ih t
      exact ⟨_ :: ys', y, rfl, .cons h h1, h2⟩
theorem nil_or_snoc {α : Type} (xs : List α) : xs = [] ∨ ∃ ys y, xs = ys ++ [y] := by
  rcases List.eq_nil_or_concat xs with h | ⟨ys, y, h⟩
  · exact .inl h
  · exact .inr ⟨ys, y, by rw [h, List.concat_eq_append]⟩
theorem rev_cons {α : Type} {xs ys : List α} {y : α} (h : xs.reverse = ys ++ [y]) : ∃ r, xs = y :: r ∧ r.reverse = ys := by
  cases xs with
  | nil => simp at h
  | cons a r =>
    rw [List.reverse_cons] at h
    obtain ⟨h1, h2⟩ := List.append_inj' h rfl
    cases h2
    exact ⟨r, rfl, h1⟩
theorem told_head {rd : List (Nat × Tr)} {d : Nat} {t : Tr} : told ((d, t) :: rd) = (mrk t, lbl t, d) :: (fls (d + 1) (kids t) ++ told rd) := by
  simp only [told, fl_eq, List.cons_append]
theorem ok_grown (T : Top K mg w) {k : Nat} : FnOk P w K mg base CX0 (k + 1) T.a_grown T.d_grown ["_law_flat_here"] (spGrown K) := by
  refine T.F_grown.ok sc_grown (fun vs H Q E h => ?_) (fun cdv A outer s H vs Q E hr h => ?_)
  · obtain ⟨G, M, l, us, fs, rfl, _⟩ := h
    rfl
  · obtain ⟨G, M, l, us, fs, rfl, S, hl, hus, ok, fl1000, q⟩ := h
    refine ⟨_, (pss_cons (ps_set (i := 1) sc_grown.nd rfl (.inl rfl) (pe_lst pa_nil))
      (pss_cons (ps_for PassesOwn.never rfl (pi_range3 (by rfl) T.m_range (pa_cons (pe_op op_subY (pe_callB (cr_lenK K) (by rfl) T.m_len (by decide +kernel) (pa_cons (xv 0) pa_nil)) pe_int) (pa_cons (pe_un un_neg pe_int) (pa_cons (pe_un un_neg pe_int) pa_nil)))) (pg_name (i := 2) sc_grown.nd rfl (.inl rfl))
      (pss_cons (ps_set (i := 3) sc_grown.nd rfl (.inl rfl) (pe_lst pa_nil))
      (pss_cons (xs_while PassesOwn.never (PW.pt (xw_and (xt_truK K (xv 1)) (pw_and1 (xt_cmp op_gtY (pe_ix (ix_k K) (pe_ix (ix_k K) (xv 1) (pe_un un_neg pe_int) (fun _ _ => rfl)) pe_int (fun _ _ => rfl)) (pe_ix (ix_k K) (pe_ix (ix_k K) (xv 0) (xv 2) (fun _ _ => rfl)) pe_int (fun _ _ => rfl)) (nomark _)))))
      (pss_one (ps_expr (pe_bmK K PySem.F.plainAttrs_list PySem.F.slot_list_append PySem.F.type_list_append mt_append (xv 3) (pa_cons (pe_ix (ix_k K) (pe_bm0 PySem.F.plainAttrs_list PySem.F.slot_list_pop PySem.F.type_list_pop mt_pop (xv 1)) pe_int (fun _ _ => rfl)) pa_nil)))))
      (pss_one (ps_expr (pe_bmK K PySem.F.plainAttrs_list PySem.F.slot_list_append PySem.F.type_list_append mt_append (xv 1) (pa_cons (pe_tup (pa_cons (pe_ix (ix_k K) (pe_ix (ix_k K) (xv 0) (xv 2) (fun _ _ => rfl)) pe_int (fun _ _ => rfl)) (pa_cons (pe_tup (pa_cons (pe_ix (ix_k K) (pe_ix (ix_k K) (xv 0) (xv 2) (fun _ _ => rfl)) pe_int (fun _ _ => rfl)) (pa_cons (pe_ix (ix_k K) (pe_ix (ix_k K) (xv 0) (xv 2) (fun _ _ => rfl)) pe_int (fun _ _ => rfl)) (pa_cons (pe_callTy (call_tupleK K) (by rfl) T.m_tuple (by decide +kernel) (pa_cons (xv 3) pa_nil)) pa_nil)))) pa_nil))) pa_nil)))))))
      (pss_one (ps_ret (pe_ix (ix_k K) (pe_ix (ix_k K) (xv 1) pe_int (fun _ _ => rfl)) pe_int (fun _ _ => rfl)))))), ?_⟩
    have ul := prd_len hus
    refine ⟨sz, fun R nR => ?_⟩
    have S1 := S.new (o := .lst []) nR
    refine ⟨_, .inl (SqL.of (S1.st hl)), 1, rfl, 1, rfl, (us.length : Int) - 1, -1, -1, us.length, rfl, ?_, for_rangeC (lo := (us.length : Int) - 1) (c := -1) (n := us.length) (fun i σ H' => ∃ (y2 y3 : Option V) (ws : List V) (rd : List (Nat × Tr)) (G' : Hp), σ = [some (.ref l), some (.ref R), y2, y3] ∧
      Same G G' ∧ Paired (RdAt K G') ws rd.reverse ∧ told rd = fs.drop (fs.length - i) ∧ (rd.map (·.1)).Pairwise (· ≥ ·) ∧ rd.length ≤ i ∧ Sep G' ((R, .lst ws) :: M) H') ⟨_, _, [], [], G, rfl, Same.refl _, .nil, by simp [told], .nil, Nat.le_refl _, S1⟩ (fun i σ H' hi h => ?_) (fun σ H' h => ?_)⟩
    · have z := RgC.neg (i := (us.length : Int) - 1) (j := -1) (by omega) (by omega) (by omega) (by omega)
      have e1 : ((us.length : Int) - 1 - -1).toNat = us.length := by omega
      rw [e1] at z
      exact z
    · obtain ⟨y2, y3, ws, rd, G1, rfl, s1, hws, htold, hpw, hrl, S2⟩ := h
      have ek : ((us.length : Int) - 1 + (i : Nat) * (-1)) = ((us.length - 1 - i : Nat) : Int) := by omega
      rw [ek]
      obtain ⟨u, hu⟩ : ∃ u, us[us.length - 1 - i]? = some u := ⟨_, List.getElem?_eq_getElem (by omega)⟩
      obtain ⟨x, hx, ax, rfl, hax⟩ := prd_get hus hu
      have hdrop : fs.drop (fs.length - (i + 1)) = x :: fs.drop (fs.length - i) := by
        have e : fs.length - (i + 1) = us.length - 1 - i := by omega
        rw [e, List.drop_eq_getElem_cons (by omega)]
        have hx2 := (List.getElem?_eq_some_iff.mp hx).2
        rw [hx2]
        congr 2
        omega
      refine ⟨sz, fun Bn nB => ?_⟩
      have S3 := S2.new (o := .lst []) nB
      refine ⟨fun m σ H' => ∃ (ws' bs : List V) (pp rd' : List (Nat × Tr)), σ = [some (.ref l), some (.ref R), some (.int ((us.length - 1 - i : Nat) : Int)), some (.ref Bn)] ∧ rd = pp ++ rd' ∧ m = rd'.length ∧ (∀ p ∈ pp, x.2.2 < p.1) ∧ Paired (RdAt K G1) ws' rd'.reverse ∧
        DpAll K G1 bs ((pp.map (·.2)).map toD) ∧ Sep G1 ((Bn, .lst bs) :: (R, .lst ws') :: M) H', ⟨rd.length, ws, [], [], rd, rfl, rfl, rfl, (fun _ h => nomatch h), hws, .nil, S3⟩, fun m σ H4 h => ?_⟩
      obtain ⟨ws', bs, pp, rd', rfl, erd, rfl, hpp, hws', hbs, S4⟩ := h
      have hl4 := S4.st (s1 _ _ hl)
      have hax4 := S4.st (s1 _ _ hax)
      have eK : atI us ((us.length - 1 - i : Nat) : Int) = some (.ref ax) := atI_nat hu
      have rdl : rd.length = pp.length + rd'.length := by rw [erd, List.length_append]
      have main : (∀ p ∈ rd', p.1 ≤ x.2.2) → ∃ ts : List Tr, pp = ts.map (fun t => (x.2.2 + 1, t)) := fun hle => by
        have all : ∀ p ∈ pp, p.1 = x.2.2 + 1 := fun p hp => by
          have h1 := hpp p hp
          have h2 : p.1 ≤ x.2.2 + 1 := by
            cases hpc : pp with
            | nil => rw [hpc] at hp; cases hp
            | cons p0 pr =>
              have e0 : p0.1 ≤ x.2.2 + 1 := by
                obtain ⟨d0, t0⟩ := p0
                have ed := htold
                rw [erd, hpc, List.cons_append, told_head] at ed
                have hy : fs[fs.length - i]? = some (mrk t0, lbl t0, d0) := by
                  have e2 := congrArg List.head? ed
                  rw [List.head?_drop] at e2
                  exact e2.symm
                have e3 : fs.length - i = (us.length - 1 - i) + 1 := by omega
                rw [e3] at hy
                exact fl_next ok hx hy
              have hpw2 := hpw
              rw [erd, hpc, List.cons_append, List.map_cons, List.pairwise_cons] at hpw2
              rw [hpc] at hp
              rcases List.mem_cons.mp hp with rfl | hp
              · exact e0
              · have := hpw2.1 p.1 (List.mem_map_of_mem (List.mem_append_left _ hp))
                omega
          omega
        refine ⟨pp.map (·.2), ?_⟩
        rw [List.map_map]
        have : pp.map ((fun t => (x.2.2 + 1, t)) ∘ fun p => p.2) = pp.map id := List.map_congr_left fun p hp => by
          show (x.2.2 + 1, p.2) = p
          rw [← all p hp]
        rw [this, List.map_id]
      have wl := prd_len hws'
      rw [List.length_reverse] at wl
      rcases nil_or_snoc ws' with ew | ⟨wp, w0, ew⟩
      · subst ew
        have hle : ∀ p ∈ rd', p.1 ≤ x.2.2 := fun p hp => by
          have : rd' = [] := List.length_eq_zero_iff.mp (by rw [← wl]; rfl)
          rw [this] at hp
          cases hp
        refine ⟨!([] : List V).isEmpty, .inl ⟨_, SqL.of S4.sw.hd, rfl⟩, (fun e => nomatch e), fun e => ⟨ff, fun _ => ?f1⟩⟩
        case f1 =>
          obtain ⟨ts, ets⟩ := main hle
          have e2 : pp.map (·.2) = ts := by
            rw [ets, List.map_map]
            exact List.map_id _
          rw [e2] at hbs
          refine ⟨.inl ⟨rfl, _, SqL.of S4.sw.hd⟩, _, _, .inl (SqL.of hl4), eK, _, _, .inr (SqT.of hax4), atI_nat (j := 2) rfl, _, _, .inl (SqL.of hl4), eK, _, _, .inr (SqT.of hax4), atI_nat (j := 0) rfl, _, _, .inl (SqL.of hl4), eK, _, _, .inr (SqT.of hax4), atI_nat (j := 1) rfl,
            Bn, bs, rfl, .inl ⟨SqL.of S4.hd, fun t5 nt5 => ?_⟩⟩
          obtain ⟨G5, s5, S5, h5⟩ := Sep.mk (o := .tup bs) S4 nt5
          refine ⟨sz, fun t6 nt6 => ?_⟩
          obtain ⟨G6, s6, S6, h6⟩ := Sep.mk (o := .tup [.str x.1, .str x.2.1, .ref t5]) S5 nt6
          refine ⟨sz, fun t7 nt7 => ?_⟩
          obtain ⟨G7, s7, S7, h7⟩ := Sep.mk (o := .tup [.int (x.2.2 : Nat), .ref t6]) S6 nt7
          have s17 := s5.trans (s6.trans s7)
          have dt : Dp K G7 (.ref t6) (toD (.node x.1 x.2.1 ts)) := by
            rw [toD_eq]
            exact .tup (SqT.of (s7 _ _ h6)) (.cons (.str _) (.cons (.str _) (.cons (.tup (SqT.of (s7 _ _ (s6 _ _ h5))) (dpa_same s17 hbs)) .nil)))
          refine ⟨R, [], .ref t7, rfl, rfl, S7.sw.hd, smallL (by omega), _, _, [] ++ [.ref t7], (x.2.2, .node x.1 x.2.1 ts) :: rd', G7, rfl, s1.trans s17, ?_, ?_, ?_, by rw [List.length_cons]; omega, S7.drop.set⟩
          · rw [List.reverse_cons]
            exact prd_app (prd_imp (fun _ _ => RdAt.same s17) hws') (.cons ⟨t7, .ref t6, rfl, h7, dt⟩ .nil)
          · rw [hdrop, told_head]
            have e3 := htold
            rw [erd, ets, told_same] at e3
            rw [← e3]
            rfl
          · rw [List.map_cons, List.pairwise_cons]
            refine ⟨fun n hn => ?_, ?_⟩
            · obtain ⟨p, hp, rfl⟩ := List.mem_map.mp hn
              exact hle p hp
            · have hpw2 := hpw
              rw [erd, List.map_append, List.pairwise_append] at hpw2
              exact hpw2.2.1
      · subst ew
        obtain ⟨rr, p0, err, hwp, hp0⟩ := prd_unsnoc hws'
        obtain ⟨rt, ert, err2⟩ := rev_cons err
        subst ert
        have hp0' := hp0
        obtain ⟨a0, nv, rfl, ha0, hnv⟩ := hp0
        have ha4 := S4.st ha0
        have ne : (!(wp ++ [V.ref a0]).isEmpty) = true := by simp
        by_cases hgt : x.2.2 < p0.1
        · refine ⟨!(wp ++ [V.ref a0]).isEmpty, .inl ⟨_, SqL.of S4.sw.hd, rfl⟩, fun _ => ⟨1, rfl, _, _, .inl (SqL.of S4.sw.hd), atI_last _ _, _, _, .inr (SqT.of ha4), atI_nat (j := 0) rfl, _, _, .inl (SqL.of hl4), eK, _, _, .inr (SqT.of hax4), atI_nat (j := 2) rfl, fun _ => ?_, fun e => absurd (show (x.2.2 : Int) < (p0.1 : Int) by omega) (of_decide_eq_false e)⟩, fun e => absurd (ne.symm.trans e) (by decide)⟩
          have S5 := S4.sw.set (o' := .lst wp)
          have ppl : pp.length + 1 ≤ rd.length := by rw [rdl, List.length_cons]; omega
          have bl := dpa_len hbs
          rw [List.length_map, List.length_map] at bl
          refine ⟨.inl ⟨rfl, _, SqL.of S4.hd⟩, .inl ⟨rfl, _, SqL.of S4.sw.hd⟩, R, wp ++ [V.ref a0], .ref a0, rfl, rfl, S4.sw.hd, by simp, ?_⟩
          rw [List.dropLast_concat]
          refine ⟨_, _, .inr (SqT.of (S5.st ha0)), atI_nat (j := 1) rfl, Bn, bs, nv, rfl, rfl, S5.sw.hd, smallL (by omega), ?_⟩
          refine ⟨rt.length, by rw [List.length_cons]; omega, wp, bs ++ [nv], pp ++ [p0], rt, rfl, by rw [erd, List.append_assoc]; rfl, rfl, fun p hp => ?_, by rw [err2]; exact hwp, ?_, S5.sw.set⟩
          · rcases List.mem_append.mp hp with z | z
            · exact hpp p z
            · rw [List.mem_singleton.mp z]
              exact hgt
          · rw [List.map_append, List.map_append]
            exact dpa_app hbs (dpa_one hnv)
        · have hle : ∀ p ∈ p0 :: rt, p.1 ≤ x.2.2 := fun p hp => by
            have hpw2 := hpw
            rw [erd, List.map_append, List.pairwise_append] at hpw2
            have h3 := hpw2.2.1
            rw [List.map_cons, List.pairwise_cons] at h3
            rcases List.mem_cons.mp hp with rfl | hp
            · omega
            · have := h3.1 p.1 (List.mem_map_of_mem hp)
              omega
          refine ⟨!(wp ++ [V.ref a0]).isEmpty, .inl ⟨_, SqL.of S4.sw.hd, rfl⟩, fun _ => ⟨1, rfl, _, _, .inl (SqL.of S4.sw.hd), atI_last _ _, _, _, .inr (SqT.of ha4), atI_nat (j := 0) rfl, _, _, .inl (SqL.of hl4), eK, _, _, .inr (SqT.of hax4), atI_nat (j := 2) rfl, fun e => absurd (show (x.2.2 : Int) < (p0.1 : Int) from of_decide_eq_true e) (by omega), fun _ => ?f2⟩, fun e => absurd (ne.symm.trans e) (by decide)⟩
          case f2 =>
            obtain ⟨ts, ets⟩ := main hle
            have e2 : pp.map (·.2) = ts := by
              rw [ets, List.map_map]
              exact List.map_id _
            rw [e2] at hbs
            refine ⟨.inl ⟨rfl, _, SqL.of S4.sw.hd⟩, _, _, .inl (SqL.of hl4), eK, _, _, .inr (SqT.of hax4), atI_nat (j := 2) rfl, _, _, .inl (SqL.of hl4), eK, _, _, .inr (SqT.of hax4), atI_nat (j := 0) rfl, _, _, .inl (SqL.of hl4), eK, _, _, .inr (SqT.of hax4), atI_nat (j := 1) rfl,
              Bn, bs, rfl, .inl ⟨SqL.of S4.hd, fun t5 nt5 => ?_⟩⟩
            obtain ⟨G5, s5, S5, h5⟩ := Sep.mk (o := .tup bs) S4 nt5
            refine ⟨sz, fun t6 nt6 => ?_⟩
            obtain ⟨G6, s6, S6, h6⟩ := Sep.mk (o := .tup [.str x.1, .str x.2.1, .ref t5]) S5 nt6
            refine ⟨sz, fun t7 nt7 => ?_⟩
            obtain ⟨G7, s7, S7, h7⟩ := Sep.mk (o := .tup [.int (x.2.2 : Nat), .ref t6]) S6 nt7
            have s17 := s5.trans (s6.trans s7)
            have dt : Dp K G7 (.ref t6) (toD (.node x.1 x.2.1 ts)) := by
              rw [toD_eq]
              exact .tup (SqT.of (s7 _ _ h6)) (.cons (.str _) (.cons (.str _) (.cons (.tup (SqT.of (s7 _ _ (s6 _ _ h5))) (dpa_same s17 hbs)) .nil)))
            refine ⟨R, (wp ++ [V.ref a0]), .ref t7, rfl, rfl, S7.sw.hd, smallL (by omega), _, _, (wp ++ [V.ref a0]) ++ [.ref t7], (x.2.2, .node x.1 x.2.1 ts) :: (p0 :: rt), G7, rfl, s1.trans s17, ?_, ?_, ?_, by rw [List.length_cons]; omega, S7.drop.set⟩
            · rw [List.reverse_cons]
              exact prd_app (prd_imp (fun _ _ => RdAt.same s17) hws') (.cons ⟨t7, .ref t6, rfl, h7, dt⟩ .nil)
            · rw [hdrop, told_head]
              have e3 := htold
              rw [erd, ets, told_same] at e3
              rw [← e3]
              rfl
            · rw [List.map_cons, List.pairwise_cons]
              refine ⟨fun n hn => ?_, ?_⟩
              · obtain ⟨p, hp, rfl⟩ := List.mem_map.mp hn
                exact hle p hp
              · have hpw2 := hpw
                rw [erd, List.map_append, List.pairwise_append] at hpw2
                exact hpw2.2.1
    · obtain ⟨y2, y3, ws, rd, G1, rfl, s1, hws, htold, hpw, hrl, S2⟩ := h
      rw [ul, Nat.sub_self, List.drop_zero] at htold
      obtain ⟨x0, r0, ef, hx0, hlv⟩ := id ok
      cases rd with
      | nil =>
        rw [ef] at htold
        simp [told] at htold
      | cons p rd =>
        obtain ⟨d, t⟩ := p
        rw [told_head, ef] at htold
        injection htold with h1 h2
        have hd : d = 0 := by rw [← h1] at hx0; exact hx0
        have er : rd = [] := by
          cases rd with
          | nil => rfl
          | cons p2 rd =>
            obtain ⟨d2, t2⟩ := p2
            have hm : (mrk t2, lbl t2, d2) ∈ r0 := by
              rw [← h2, told_head]
              simp
            have h3 := lv_pos hlv _ hm
            rw [List.map_cons, List.pairwise_cons] at hpw
            have h4 := hpw.1 d2 (by simp)
            have h3' : 1 ≤ d2 := h3
            omega
        subst er hd
        have hws1 : Paired (RdAt K G1) ws [(0, t)] := hws
        cases hws1 with
        | cons hw ht =>
          cases ht
          obtain ⟨a0, nv, rfl, ha0, hnv⟩ := hw
          refine ⟨_, _, .inl (SqL.of S2.hd), atI_nat (j := 0) rfl, _, _, .inr (SqT.of (S2.st ha0)), atI_nat (j := 1) rfl, q nv t G1 H' s1 hnv ?_ S2.drop⟩
          rw [ef, fl_eq, ← h1, ← h2]
          simp [told]

end
end K18
set_option Elab.async false
set_option linter.all false
set_option maxRecDepth 100000
set_option maxHeartbeats 4000000
namespace K18
open PySem PySem.Spec PyProof.Rows L2 XL
section
variable {P : Program} {w : World} {K : PySem.W.Frag} {mg : Str → Option Value} {base : Heap}
/-! ### drawn marks, flat lists -/
theorem num3 : ∀ n : Nat, n < 997 → PySem.intText? ((toString ((n : Nat) : Int) : String) : Str) = some ((n : Nat) : Int) ∧ (Nat.ble 1 ((toString ((n : Nat) : Int) : String) : Str).length && Nat.ble ((toString ((n : Nat) : Int) : String) : Str).length 3 && ((toString ((n : Nat) : Int) : String) : Str).cps.toList.all fun c => decide (c < 128)) = true := by decide +kernel
theorem cop997 : ∀ s : Nat, s < 997 → 0 < s → Nat.gcd 997 s = 1 := by decide +kernel
def nOf (a b : Nat) (k : Nat) : Nat := (a + k * b) % 997
theorem nOf_inj {a b i j : Nat} (hb : b < 997) (hb0 : 0 < b) (hi : i < 997) (hj : j < 997) (h : nOf a b i = nOf a b j) : i = j := by
  have key : ∀ {i j : Nat}, i < 997 → j ≤ i → nOf a b i = nOf a b j → i = j := fun {i j} hi hji h => by
    unfold nOf at h
    have e : a + i * b = (a + j * b) + (i - j) * b := by
      rw [Nat.sub_mul]
      have := Nat.mul_le_mul_right b hji
      omega
    rw [e] at h
    have h2 : 997 ∣ (i - j) * b := by
      refine Nat.dvd_of_mod_eq_zero ?_
      generalize a + j * b = u at *
      generalize (i - j) * b = v at *
      omega
    have h5 : 997 ∣ (i - j) := Nat.Coprime.dvd_of_dvd_mul_right (show Nat.Coprime 997 b from cop997 b hb hb0) h2
    obtain ⟨c, hc⟩ := h5
    cases c with
    | zero => omega
    | succ c => omega
  rcases Nat.le_total j i with h1 | h1
  · exact key hi h1 h
  · exact (key hj h1 h.symm).symm
def mkO (l r : Str) (a b k : Nat) : Str := l ++ ((toString ((nOf a b k : Nat) : Int) : String) : Str) ++ r
theorem nOf_lt (a b k : Nat) : nOf a b k < 997 := Nat.mod_lt _ (by decide)
theorem num_tx3 (a b k : Nat) : Tx 1 3 ((toString ((nOf a b k : Nat) : Int) : String) : Str) := Tx.lit _ (num3 _ (nOf_lt a b k)).2
theorem mkO_inj {l r : Str} {a b i j : Nat} (hb : b < 997) (hb0 : 0 < b) (hi : i < 997) (hj : j < 997) (h : mkO l r a b i = mkO l r a b j) : i = j := by
  have e := congrArg (fun z : Str => z.cps.toList) h
  unfold mkO at e
  simp only [app_tl] at e
  have e2 := List.append_cancel_left (List.append_cancel_right e)
  have e3 : ((toString ((nOf a b i : Nat) : Int) : String) : Str) = ((toString ((nOf a b j : Nat) : Int) : String) : Str) := by
    have : ∀ x y : Str, x.cps.toList = y.cps.toList → x = y := fun x y h => by
      cases x; cases y
      simp at h
      rw [h]
    exact this _ _ e2
  have e4 := (num3 _ (nOf_lt a b i)).1
  rw [e3, (num3 _ (nOf_lt a b j)).1] at e4
  exact nOf_inj (a := a) hb hb0 hi hj (by
    have := Option.some.inj e4
    omega)
theorem nd_map {α β : Type} {f : α → β} : ∀ {l : List α}, (∀ i j, i ∈ l → j ∈ l → f i = f j → i = j) → l.Nodup → (l.map f).Nodup
  | [], _, _ => List.nodup_nil
  | x :: l, h, nd => by
    rw [List.nodup_cons] at nd
    rw [List.map_cons, List.nodup_cons]
    refine ⟨fun hm => ?_, nd_map (fun i j hi hj => h i j (List.mem_cons_of_mem _ hi) (List.mem_cons_of_mem _ hj)) nd.2⟩
    obtain ⟨y, hy, e⟩ := List.mem_map.mp hm
    have := h y x (List.mem_cons_of_mem _ hy) List.mem_cons_self e
    rw [this] at hy
    exact nd.1 hy
theorem lg997 {n : Nat} (h : n < 997) : ((n : Nat) : Int).natAbs.log2 < 1920 := by
  have : ∀ n : Nat, n < 997 → n.log2 < 1920 := by decide +kernel
  exact this n h
def spMarks : Sp := fun vs H Q _ => ∃ (G : Hp) (M : List (Addr × HO)) (b : Addr) (o : HO) (c : Nat), vs = [.ref b, .int (c : Nat)] ∧ Sep G ((b, o) :: M) H ∧ Bag G o ∧ c ≤ 400 ∧
  ∀ (D : Addr) (zs : List Str) (o' : HO) (G' H' : Hp), Same G G' → G' D = some (.lst (zs.map V.str)) → zs.length = c → zs.Nodup → (∀ z ∈ zs, Tx 1 59 z) → Bag G' o' → Sep G' ((b, o') :: M) H' → Q (.ref D) H'
theorem ok_marks (T : Top K mg w) {k : Nat} (G_pick : FnOk P w K mg base CX0 k T.a_pick T.d_pick ["_law_bag_here", "_law_many"] spPick) (G_text : FnOk P w K mg base CX0 (k + 1) T.a_text T.d_text ["_law_bag_here", "_law_least", "_law_most"] spText) : FnOk P w K mg base CX0 (k + 2) T.a_marks T.d_marks ["_law_bag_here", "_law_count"] spMarks := by
  refine T.F_marks.ok sc_marks (fun vs H Q E h => ?_) (fun cdv A outer s H vs Q E hr h => ?_)
  · obtain ⟨G, M, b, o, c, rfl, _⟩ := h
    rfl
  · obtain ⟨G, M, b, o, c, rfl, S, B, c4, q⟩ := h
    refine ⟨_, (pss_cons (ps_set (i := 2) sc_marks.nd rfl (.inl rfl) (pe_ix (ix_k K) (pe_lst (pa_cons pe_int (pa_cons pe_int (pa_cons pe_int (pa_cons pe_int pa_nil))))) (pe_call G_pick (hr.mono (by omega)) (by rfl) T.g_pick T.F_pick.kp T.b_pick .nil pass0 (pa_cons (xv 0) (pa_cons pe_int pa_nil))) (fun _ _ => rfl)))
      (pss_cons (ps_set (i := 3) sc_marks.nd rfl (.inr rfl) (pe_call G_text (hr.mono (by omega)) (by rfl) T.g_text T.F_text.kp T.b_text .nil pass0 (pa_cons (xv 0) (pa_cons pe_int (pa_cons (xv 2) pa_nil)))))
      (pss_cons (ps_set (i := 4) sc_marks.nd rfl (.inr rfl) (pe_call G_text (hr.mono (by omega)) (by rfl) T.g_text T.F_text.kp T.b_text .nil pass0 (pa_cons (xv 0) (pa_cons pe_int (pa_cons (xv 2) pa_nil)))))
      (pss_cons (ps_set (i := 5) sc_marks.nd rfl (.inr rfl) (pe_op op_addY pe_int (pe_call G_pick (hr.mono (by omega)) (by rfl) T.g_pick T.F_pick.kp T.b_pick .nil pass0 (pa_cons (xv 0) (pa_cons pe_int pa_nil)))))
      (pss_cons (ps_set (i := 6) sc_marks.nd rfl (.inr rfl) (pe_call G_pick (hr.mono (by omega)) (by rfl) T.g_pick T.F_pick.kp T.b_pick .nil pass0 (pa_cons (xv 0) (pa_cons pe_int pa_nil))))
      (pss_one (ps_ret (pe_lc (own := [("_law_k", 7)]) (by rfl) sc_marks.nd (pi_range1 (by rfl) T.m_range (pa_cons (xv 1) pa_nil)) (blkOk_by (N := ["_law_bag_here", "_law_count", "_law_most", "_law_left", "_law_right", "_law_step", "_law_start", "_law_k"]) (sc := defScope s_marks) (by decide +kernel)) (fun _ _ _ _ _ => (pg_name (i := 7) sc_marks.nd rfl (.inl rfl))) (fun _ _ _ _ _ => pts_nil) (fun _ _ _ _ _ => (pe_op op_addY (pe_op op_addY (xv 3) (pe_callTy cr_strI (by rfl) T.m_str (by decide +kernel) (pa_cons (pe_op op_modY (pe_callTy cr_int (by rfl) T.m_int (by decide +kernel) (pa_cons (pe_op op_addY (xv 6) (pe_op op_mulY (xv 7) (xv 5))) pa_nil)) pe_int) pa_nil))) (xv 4))))))))))), ?_⟩
    refine ⟨sz, fun l1 nl1 => ?_⟩
    obtain ⟨G1, s1, S1, h1⟩ := Sep.mk (o := .lst [.int 3, .int 3, .int 3, .int 28]) S nl1
    refine ⟨G1, _, b, o, 4, rfl, S1, B.same s1, by decide, by decide, fun r2 o2 H2 r20 r21 B2 S2 => ?_⟩
    obtain ⟨m, hm, m28⟩ : ∃ m : Nat, atI [V.int 3, .int 3, .int 3, .int 28] r2 = some (.int (m : Nat)) ∧ m ≤ 28 := by
      rcases (by omega : r2 = 0 ∨ r2 = 1 ∨ r2 = 2 ∨ r2 = 3) with rfl | rfl | rfl | rfl
      · exact ⟨3, atI_nat (j := 0) rfl, by decide⟩
      · exact ⟨3, atI_nat (j := 1) rfl, by decide⟩
      · exact ⟨3, atI_nat (j := 2) rfl, by decide⟩
      · exact ⟨28, atI_nat (j := 3) rfl, by decide⟩
    refine ⟨_, _, .inl (SqL.of (S2.st h1)), hm, ?_⟩
    refine ⟨G1, _, b, o2, 0, m, rfl, S2, B2, Nat.zero_le _, by omega, fun z3 o3 H3 t3 B3 S3 => ?_⟩
    refine ⟨G1, _, b, o3, 0, m, rfl, S3, B3, Nat.zero_le _, by omega, fun z4 o4 H4 t4 B4 S4 => ?_⟩
    refine ⟨G1, _, b, o4, 996, rfl, S4, B4, by decide, by decide, fun r5 o5 H5 r50 r51 B5 S5 => ?_⟩
    refine ⟨G1, _, b, o5, 997, rfl, S5, B5, by decide, by decide, fun r6 o6 H6 r60 r61 B6 S6 => ?_⟩
    obtain ⟨st, rfl⟩ := Int.eq_ofNat_of_zero_le r50
    obtain ⟨a, rfl⟩ := Int.eq_ofNat_of_zero_le r60
    have t3h := t3.hi
    have t4h := t4.hi
    refine ⟨_, rfl, by omega, by omega, fun D nD => lc_range (lo := 0) (n := ((c : Nat) : Int).toNat) (fun i H' => Sep G1 ((D, .lst (((List.range i).map (mkO z3 z4 a (1 + st))).map V.str)) :: (b, o6) :: M) H') (S6.new nD) (fun i H' hi p => ?_) (fun H7 S7 => ?_)⟩
    · refine ⟨rfl, .inr ⟨by omega, by omega⟩, by decide, fun r7 e7 r70 r71 => ?_⟩
      have e8 : r7 = ((nOf a (1 + st) i : Nat) : Int) := by
        rw [e7]
        unfold nOf
        have : ((a : Int) + (0 + (i : Nat)) * (1 + (st : Int))) = ((a + i * (1 + st) : Nat) : Int) := by
          rw [Int.zero_add]
          push_cast
          omega
        rw [this]
        omega
      have tx3 := num_tx3 a (1 + st) i
      have tx3h := tx3.hi
      rw [e8]
      refine ⟨lg997 (nOf_lt _ _ _), small (by omega), fun t8 et8 => ⟨?_, fun t9 et9 => ?_⟩⟩
      · rw [et8, app_len]
        exact small (by omega)
      · refine ⟨_, p.hd, smallL (by rw [List.length_map, List.length_map, List.length_range]; omega), ?_⟩
        rw [List.range_succ, List.map_append, List.map_append]
        have : t9 = mkO z3 z4 a (1 + st) i := by rw [et9, et8]; rfl
        rw [this]
        exact p.set
    · have S8 := S7.frz
      have ec : ((c : Nat) : Int).toNat = c := by omega
      rw [ec] at S7 S8
      refine q D _ o6 _ _ (s1.trans S7.frzS) upd_same (by rw [List.length_map, List.length_range]) ?_ (fun z hz => ?_) (B6.same S7.frzS) S8
      · refine nd_map (fun i j hi hj h => mkO_inj (by omega) (by omega) ?_ ?_ h) List.nodup_range
        · have := List.mem_range.mp hi; omega
        · have := List.mem_range.mp hj; omega
      · obtain ⟨i, hi, rfl⟩ := List.mem_map.mp hz
        exact ((t3.app (num_tx3 a (1 + st) i)).app t4).wide (by omega) (by omega)

end
end K18
set_option Elab.async false
set_option linter.all false
set_option maxRecDepth 100000
set_option maxHeartbeats 4000000
namespace K18
open PySem PySem.Spec PyProof.Rows L2 XL
section
variable {P : Program} {w : World} {K : PySem.W.Frag} {mg : Str → Option Value} {base : Heap}
theorem lv_snoc : ∀ {p : Nat} {r : List Fr3} {y : Fr3}, Lv p r → 1 ≤ y.2.2 → y.2.2 ≤ ((r.getLast?.map (·.2.2)).getD p) + 1 → Lv p (r ++ [y])
  | p, [], y, _, h1, h2 => ⟨h1, h2, trivial⟩
  | p, x :: r, y, h, h1, h2 => by
    refine ⟨h.1, h.2.1, lv_snoc h.2.2 h1 ?_⟩
    cases r with
    | nil => simpa using h2
    | cons z r =>
      cases hw : (z :: r).getLast? with
      | none => simp at hw
      | some w0 =>
        rw [List.getLast?_cons_cons, hw] at h2
        simpa using h2
theorem flok_snoc {fs : List Fr3} {x y : Fr3} (h : FlOk (fs ++ [x])) (h1 : 1 ≤ y.2.2) (h2 : y.2.2 ≤ x.2.2 + 1) : FlOk (fs ++ [x] ++ [y]) := by
  obtain ⟨a, r, e, h0, hl⟩ := h
  refine ⟨a, r ++ [y], by rw [e]; rfl, h0, lv_snoc hl h1 ?_⟩
  have e2 := congrArg List.getLast? e
  rw [List.getLast?_append] at e2
  simp at e2
  cases r with
  | nil =>
    simp at e2
    rw [e2] at h2
    simp
    omega
  | cons z r =>
    rw [List.getLast?_cons_cons] at e2
    rw [← e2]
    simpa using h2
def spFlat : Sp := fun vs H Q _ => ∃ (G : Hp) (M : List (Addr × HO)) (b : Addr) (o : HO) (l : Addr) (zs : List Str) (dp : Nat), vs = [.ref b, .ref l, .int (dp : Nat)] ∧ Sep G ((b, o) :: M) H ∧ Bag G o ∧ G l = some (.lst (zs.map V.str)) ∧ 0 < zs.length ∧ zs.length ≤ 400 ∧ 1 ≤ dp ∧ dp ≤ 100 ∧
  ∀ (D : Addr) (us : List V) (fs : List Fr3) (o' : HO) (G' H' : Hp), Same G G' → G' D = some (.lst us) → Paired (FlAt G') us fs → FlOk fs → fs.map (·.1) = zs → (∀ f ∈ fs, Tx 1 20 f.2.1 ∧ f.2.2 ≤ dp) → Bag G' o' → Sep G' ((b, o') :: M) H' → Q (.ref D) H'
theorem cut_from1 (xs : List V) : cutV xs (some 1) none = xs.drop 1 := by
  unfold cutV
  have e : HT.sIx xs.length 0 (some 1) = min 1 xs.length := HT.sIx_nat xs.length 0 1
  rw [e, HT.sIx_none]
  cases xs with
  | nil => simp
  | cons a r =>
    simp
theorem ok_flat (T : Top K mg w) {k : Nat} (G_pick : FnOk P w K mg base CX0 k T.a_pick T.d_pick ["_law_bag_here", "_law_many"] spPick) (G_label : FnOk P w K mg base CX0 (k + 2) T.a_label T.d_label ["_law_bag_here"] spLabel) : FnOk P w K mg base CX0 (k + 3) T.a_flat T.d_flat ["_law_bag_here", "_law_marks_here", "_law_deepest"] spFlat := by
  refine T.F_flat.ok sc_flat (fun vs H Q E h => ?_) (fun cdv A outer s H vs Q E hr h => ?_)
  · obtain ⟨G, M, b, o, l, zs, dp, rfl, _⟩ := h
    rfl
  · obtain ⟨G, M, b, o, l, zs, dp, rfl, S, B, hl, z0, z4, d1, d100, q⟩ := h
    refine ⟨_, (pss_cons (ps_set (i := 3) sc_flat.nd rfl (.inl rfl) (pe_lst (pa_cons (pe_tup (pa_cons (pe_ix (ix_k K) (xv 1) pe_int (fun _ _ => rfl)) (pa_cons (pe_call G_label (hr.mono (by omega)) (by rfl) T.g_label T.F_label.kp T.b_label .nil pass0 (pa_cons (xv 0) pa_nil)) (pa_cons pe_int pa_nil)))) pa_nil)))
      (pss_cons (ps_for PassesOwn.never rfl (pi_listK K (pe_slice (sl_listK K) (xv 1) (po_some pe_int) po_none)) (pg_name (i := 4) sc_flat.nd rfl (.inl rfl))
      (pss_cons (ps_set (i := 5) sc_flat.nd rfl (.inl rfl) (pe_op op_addY (pe_ix (ix_k K) (pe_ix (ix_k K) (xv 3) (pe_un un_neg pe_int) (fun _ _ => rfl)) pe_int (fun _ _ => rfl)) pe_int))
      (xss_cut (xs_if (xt_cmp op_gtY (xv 5) (xv 2) (nomark _))
      (pss_one (ps_set (i := 5) sc_flat.nd rfl (.inl rfl) (xv 2)))
      pss_nil)
      (pss_one (ps_expr (pe_bmK K PySem.F.plainAttrs_list PySem.F.slot_list_append PySem.F.type_list_append mt_append (xv 3) (pa_cons (pe_tup (pa_cons (xv 4) (pa_cons (pe_call G_label (hr.mono (by omega)) (by rfl) T.g_label T.F_label.kp T.b_label .nil pass0 (pa_cons (xv 0) pa_nil)) (pa_cons (pe_op op_addY pe_int (pe_call G_pick (hr.mono (by omega)) (by rfl) T.g_pick T.F_pick.kp T.b_pick .nil pass0 (pa_cons (xv 0) (pa_cons (xv 5) pa_nil)))) pa_nil)))) pa_nil)))))))
      (pss_one (ps_ret (xv 3))))), ?_⟩
    obtain ⟨z, zr, rfl⟩ : ∃ z zr, zs = z :: zr := List.exists_cons_of_ne_nil (fun e => by rw [e] at z0; exact absurd z0 (by decide))
    refine ⟨_, _, .inl (SqL.of (S.st hl)), atI_nat (j := 0) rfl, G, _, b, o, rfl, S, B, fun z1 o1 G1 H1 t1 s1 B1 S1 => ⟨sz, fun p2 np2 => ?_⟩⟩
    obtain ⟨G2, s2, S2, h2⟩ := Sep.mk (o := .tup [.str z, .str z1, .int 0]) S1 np2
    refine ⟨sz, fun L nL => ?_⟩
    have S3 := (S2.new (o := .lst [.ref p2]) nL).sw
    have s02 := s1.trans s2
    refine ⟨1, rfl, l, _, rfl, SqL.of (S3.st (s02 _ _ hl)), fun p4 np4 => ?_⟩
    rw [cut_from1]
    obtain ⟨G4, s4, S4, h4⟩ := Sep.mk (o := .lst (((z :: zr).map V.str).drop 1)) S3 np4
    have h4 : G4 p4 = some (.lst (zr.map V.str)) := h4
    have s04 := s02.trans s4
    refine ⟨p4, rfl, ⟨_, SqL.of (S4.st h4)⟩, for_list (xs := zr.map V.str) (fun i σ H' => ∃ (y4 y5 : Option V) (o' : HO) (us : List V) (fs : List Fr3) (f : Fr3) (u : V) (G' : Hp), σ = [some (.ref b), some (.ref l), some (.int (dp : Nat)), some (.ref L), y4, y5] ∧ Same G4 G' ∧ Bag G' o' ∧
      Paired (FlAt G') (us ++ [u]) (fs ++ [f]) ∧ FlOk (fs ++ [f]) ∧ (fs ++ [f]).map (·.1) = z :: zr.take i ∧ (∀ x ∈ fs ++ [f], Tx 1 20 x.2.1 ∧ x.2.2 ≤ dp) ∧ us.length = i ∧ Sep G' ((b, o') :: (L, .lst (us ++ [u])) :: M) H')
      ⟨_, _, o1, [], [], (z, z1, 0), .ref p2, G4, rfl, Same.refl _, (B1.same s2).same s4, .cons ⟨p2, rfl, s4 _ _ h2⟩ .nil, ⟨_, [], rfl, rfl, trivial⟩, rfl, fun x hx => ?_, rfl, S4⟩ (fun i σ H' _ h => ?_) (fun i u σ H' hu h => ?_) (fun σ H' h => ?_)⟩
    · have : x = (z, z1, 0) := by simpa using hx
      rw [this]
      exact ⟨t1, Nat.zero_le _⟩
    · obtain ⟨_, _, _, _, _, _, _, G', _, s', _, _, _, _, _, _, S'⟩ := h
      exact SqL.of (S'.st (s' _ _ h4))
    · obtain ⟨y4, y5, o5, us, fs, f, uf, G5, rfl, s5, B5, hus, fok, hmk, hfx, ul, S5⟩ := h
      rw [List.getElem?_map] at hu
      obtain ⟨zm, hzm, rfl⟩ := Option.map_eq_some_iff.mp hu
      have il := (List.getElem?_eq_some_iff.mp hzm).1
      obtain ⟨fs', f', ef, hus', hf⟩ := prd_unsnoc hus
      obtain ⟨rfl, ef2⟩ := List.append_inj' ef rfl
      obtain rfl : f = f' := by simpa using ef2
      obtain ⟨af, rfl, haf⟩ := hf
      have fd := (hfx f (by simp)).2
      refine ⟨1, rfl, _, _, .inl (SqL.of S5.sw.hd), atI_last _ _, _, _, .inr (SqT.of (S5.st haf)), atI_nat (j := 2) rfl, ?_⟩
      refine ⟨fun σ H' => ∃ m : Nat, σ = [some (.ref b), some (.ref l), some (.int (dp : Nat)), some (.ref L), some (.str zm), some (.int (m : Nat))] ∧ H' = _ ∧ 1 ≤ m ∧ m ≤ dp ∧ m ≤ f.2.2 + 1, ⟨fun e => ⟨dp, rfl, rfl, d1, Nat.le_refl _, ?_⟩, fun e => ⟨f.2.2 + 1, rfl, rfl, by omega, ?_, Nat.le_refl _⟩⟩, fun σ H6 h => ?_⟩
      · have := of_decide_eq_true e
        omega
      · have := of_decide_eq_false e
        omega
      obtain ⟨m, rfl, rfl, m1, mdp, mf⟩ := h
      refine ⟨.inl ⟨rfl, _, SqL.of S5.sw.hd⟩, G5, _, b, o5, rfl, S5, B5, fun z7 o7 G7 H7 t7 s7 B7 S7 => ?_⟩
      refine ⟨G7, _, b, o7, _, rfl, S7, B7, by omega, by omega, fun r8 o8 H8 r80 r81 B8 S8 => ⟨sz, fun p9 np9 => ?_⟩⟩
      obtain ⟨j, rfl⟩ := Int.eq_ofNat_of_zero_le r80
      have ej : (1 : Int) + (j : Int) = ((1 + j : Nat) : Int) := by omega
      rw [ej]
      obtain ⟨G9, s9, S9, h9⟩ := Sep.mk (o := .tup [.str zm, .str z7, .int ((1 + j : Nat) : Int)]) S8 np9
      have s59 := s7.trans s9
      refine ⟨L, _, _, rfl, rfl, S9.sw.hd, smallL (by rw [List.length_append, ul]; show i + 1 < _; rw [List.length_cons] at z4; omega), ?_⟩
      refine ⟨_, _, o8, us ++ [.ref af], fs ++ [f], (zm, z7, 1 + j), .ref p9, G9, rfl, s5.trans s59, B8.same s9, prd_app (prd_imp (fun _ _ => FlAt.same s59) hus) (.cons ⟨p9, rfl, h9⟩ .nil), flok_snoc fok (by show 1 ≤ 1 + j; omega) (by show 1 + j ≤ _; omega), ?_, fun x hx => ?_, by rw [List.length_append, ul]; rfl, S9.sw.set.sw⟩
      · rw [List.map_append, hmk, take_snoc hzm]
        rfl
      · rcases List.mem_append.mp hx with k | k
        · exact hfx x k
        · rw [List.mem_singleton.mp k]
          exact ⟨t7, by show 1 + j ≤ dp; omega⟩
    · obtain ⟨y4, y5, o5, us, fs, f, uf, G5, rfl, s5, B5, hus, fok, hmk, hfx, ul, S5⟩ := h
      rw [List.length_map, List.take_length] at hmk
      have S6 := S5.sw
      exact q L _ _ o5 _ _ (s04.trans (s5.trans S6.frzS)) upd_same (prd_imp (fun _ _ => FlAt.same S6.frzS) hus) fok hmk hfx (B5.same S6.frzS) S6.frz

end
end K18
set_option Elab.async false
set_option linter.all false
set_option maxRecDepth 100000
set_option maxHeartbeats 4000000
namespace K18
open PySem PySem.Spec PyProof.Rows L2 XL
section
variable {P : Program} {w : World} {K : PySem.W.Frag} {mg : Str → Option Value} {base : Heap}
structure TrOk (t : Tr) : Prop where
  nd : ((pre t).map mrk).Nodup
  ln : (pre t).length ≤ 400
  hg : hgt t ≤ 60
  tx : ∀ p ∈ pre t, Tx 1 59 (mrk p) ∧ Tx 1 20 (lbl p)
theorem trok_of {t : Tr} {fs : List Fr3} {zs : List Str} {n : Nat} (h : fl 0 t = fs) (hz : fs.map (·.1) = zs) (nd : zs.Nodup) (zl : zs.length ≤ 400) (ht : ∀ z ∈ zs, Tx 1 59 z) (hf : ∀ f ∈ fs, Tx 1 20 f.2.1 ∧ f.2.2 < n) (hn : n ≤ 60) : TrOk t := by
  have e := fl_pre 0 t
  rw [h] at e
  have e1 : (pre t).map mrk = zs := by
    have z := congrArg (List.map (·.1)) e
    rw [List.map_map, List.map_map] at z
    rw [← hz]
    exact z.symm
  refine ⟨by rw [e1]; exact nd, ?_, ?_, fun p hp => ⟨?_, ?_⟩⟩
  · have z := congrArg List.length e1
    rw [List.length_map] at z
    omega
  · have z := fl_hgt 0 n t fun x hx => (hf x (by rw [← h]; exact hx)).2
    omega
  · exact ht _ (by rw [← e1]; exact List.mem_map_of_mem hp)
  · have hm : (mrk p, lbl p) ∈ fs.map (fun x => (x.1, x.2.1)) := by rw [e]; exact List.mem_map_of_mem hp
    obtain ⟨f, hf1, ef⟩ := List.mem_map.mp hm
    have := (hf f hf1).1
    have e2 : f.2.1 = lbl p := (Prod.mk.inj ef).2
    rw [e2] at this
    exact this

end
end K18
set_option Elab.async false
set_option linter.all false
set_option maxRecDepth 100000
set_option maxHeartbeats 4000000
namespace K18
open PySem PySem.Spec PyProof.Rows L2 XL
section
variable {P : Program} {w : World} {K : PySem.W.Frag} {mg : Str → Option Value} {base : Heap}
/-! ### nodes_of, from_below -/
theorem dpa_unsnoc {K : PySem.W.Frag} {G : Hp} {xs : List V} {x : V} {ds : List PyData} (h : DpAll K G (xs ++ [x]) ds) : ∃ ds' d, ds = ds' ++ [d] ∧ DpAll K G xs ds' ∧ Dp K G x d := by
  induction xs generalizing ds with
  | nil =>
    cases h with
    | cons h t =>
      cases t
      exact ⟨[], _, rfl, .nil, h⟩
  | cons a xs ih =>
    cases h with
    | cons h t =>
      obtain ⟨ds', d, rfl, h1, h2⟩ := ih t
      exact ⟨_ :: ds', d, rfl, .cons h h1, h2⟩
theorem dpa_rev {K : PySem.W.Frag} {G : Hp} : ∀ {xs : List V} {ds : List PyData}, DpAll K G xs ds → DpAll K G xs.reverse ds.reverse
  | _, _, .nil => .nil
  | _, _, .cons h t => by
    rw [List.reverse_cons, List.reverse_cons]
    exact dpa_app (dpa_rev t) (dpa_one h)
theorem map_snoc {ts : List Tr} {ds : List PyData} {d : PyData} (h : ts.map toD = ds ++ [d]) : ∃ ts' t, ts = ts' ++ [t] ∧ ts'.map toD = ds ∧ toD t = d := by
  rcases nil_or_snoc ts with rfl | ⟨ts', t, rfl⟩
  · simp at h
  · rw [List.map_append] at h
    obtain ⟨h1, h2⟩ := List.append_inj' h rfl
    exact ⟨ts', t, rfl, h1, by simpa using h2⟩
def spNodes (K : PySem.W.Frag) : Sp := fun vs H Q _ => ∃ (G : Hp) (M : List (Addr × HO)) (v : V) (t : Tr), vs = [v] ∧ Sep G M H ∧ Dp K G v (toD t) ∧ (pre t).length ≤ 1000 ∧
  ∀ (l : Addr) (us : List V) (G' H' : Hp), Same G G' → G' l = some (.lst us) → DpAll K G' us ((pre t).map toD) → Sep G' M H' → Q (.ref l) H'
theorem ok_nodes_of (T : Top K mg w) {k : Nat} : FnOk P w K mg base CX0 (k + 1) T.a_nodes_of T.d_nodes_of ["root"] (spNodes K) := by
  refine T.F_nodes_of.ok sc_nodes_of (fun vs H Q E h => ?_) (fun cdv A outer s H vs Q E hr h => ?_)
  · obtain ⟨G, M, v, t, rfl, _⟩ := h
    rfl
  · obtain ⟨G, M, v, t, rfl, S, hv, pl, q⟩ := h
    refine ⟨_, (pss_cons (ps_set (i := 1) sc_nodes_of.nd rfl (.inl rfl) (pe_lst pa_nil))
      (pss_cons (ps_set (i := 2) sc_nodes_of.nd rfl (.inl rfl) (pe_lst (pa_cons (xv 0) pa_nil)))
      (pss_cons (xs_while PassesOwn.never (xt_truK K (xv 2))
      (pss_cons (ps_set (i := 3) sc_nodes_of.nd rfl (.inl rfl) (pe_bm0 PySem.F.plainAttrs_list PySem.F.slot_list_pop PySem.F.type_list_pop mt_pop (xv 2)))
      (pss_cons (ps_expr (pe_bmK K PySem.F.plainAttrs_list PySem.F.slot_list_append PySem.F.type_list_append mt_append (xv 1) (pa_cons (xv 3) pa_nil)))
      (pss_one (ps_expr (pe_bmK K PySem.F.plainAttrs_list PySem.F.slot_list_extend PySem.F.type_list_extend (mt_extT K) (xv 2) (pa_cons (pe_revTK K (pe_ix (ix_k K) (xv 3) pe_int (fun _ _ => rfl)) (pe_str (pe_un un_neg pe_int) fun _ _ _ h => ⟨1, rfl, h⟩)) pa_nil)))))))
      (pss_one (ps_ret (xv 1)))))), ?_⟩
    refine ⟨sz, fun O nO => ?_⟩
    have S1 := S.new (o := .lst []) nO
    refine ⟨sz, fun W nW => ?_⟩
    have S2 := S1.new (o := .lst [v]) nW
    refine ⟨fun m σ H' => ∃ (y3 : Option V) (os ws : List V) (dn ts : List Tr) (G' : Hp), σ = [some v, some (.ref O), some (.ref W), y3] ∧ Same G G' ∧ m = (pres ts).length ∧ dn ++ pres ts = pre t ∧ DpAll K G' os (dn.map toD) ∧ DpAll K G' ws (ts.reverse.map toD) ∧ ts.length ≤ (pres ts).length ∧ Sep G' ((W, .lst ws) :: (O, .lst os) :: M) H',
      ⟨(pre t).length, _, [], [v], [], [t], G, rfl, Same.refl _, by rw [pres_one], by rw [pres_one]; rfl, .nil, dpa_one hv, by rw [pres_one, pre_eq]; simp, S2⟩, fun m σ H' h => ?_⟩
    obtain ⟨y3, os, ws, dn, ts, G1, rfl, s1, rfl, hall, hos, hws, htl, S3⟩ := h
    have al := congrArg List.length hall
    rw [List.length_append] at al
    have ol := dpa_len hos
    rw [List.length_map] at ol
    have wl := dpa_len hws
    rw [List.length_map, List.length_reverse] at wl
    rcases nil_or_snoc ws with ew | ⟨wp, w0, ew⟩
    · subst ew
      refine ⟨!([] : List V).isEmpty, .inl ⟨_, SqL.of S3.hd, rfl⟩, (fun e => nomatch e), fun _ => ?_⟩
      have e0 : ts = [] := List.length_eq_zero_iff.mp wl.symm
      subst e0
      have e1 : dn = pre t := by simpa [pres] using hall
      rw [e1] at hos
      have S4 := S3.drop
      exact q O os _ _ (s1.trans S4.frzS) upd_same (dpa_same S4.frzS hos) S4.frz
    · subst ew
      have ne : (!(wp ++ [w0]).isEmpty) = true := by simp
      refine ⟨!(wp ++ [w0]).isEmpty, .inl ⟨_, SqL.of S3.hd, rfl⟩, fun _ => ?_, fun e => absurd (ne.symm.trans e) (by decide)⟩
      obtain ⟨ds', d, eds, hwp, hw0⟩ := dpa_unsnoc hws
      obtain ⟨tr', t0, ert, emp, rfl⟩ := map_snoc eds
      obtain ⟨tr, ets, etr⟩ := rev_cons ert
      subst ets
      have S4 := S3.set (o' := .lst wp)
      refine ⟨.inl ⟨rfl, _, SqL.of S3.hd⟩, W, wp ++ [w0], w0, rfl, rfl, S3.hd, by simp, ?_⟩
      rw [List.dropLast_concat]
      have S5 := S4.sw.set (o' := .lst (os ++ [w0]))
      refine ⟨.inl ⟨rfl, _, SqL.of S4.sw.hd⟩, O, os, w0, rfl, rfl, S4.sw.hd, smallL (by omega), ?_⟩
      obtain ⟨a0, kv, kus, rfl, ha0, hkv, hkus⟩ := node_at hw0
      have kl := dpa_len hkus
      rw [List.length_map] at kl
      refine ⟨.inl ⟨rfl, _, SqL.of S5.sw.hd⟩, _, _, .inr (S5.t ha0), atI_nat (j := 2) rfl, kv, kus, rfl, S5.t hkv, fun p6 np6 => ?_⟩
      obtain ⟨G6, s6, S6, h6⟩ := Sep.mk (o := .tup kus.reverse) S5 np6
      have pe : pres (t0 :: tr) = t0 :: pres (kids t0 ++ tr) := by
        simp only [pres]
        rw [pre_eq, List.cons_append, pres_app]
      rw [pe] at hall htl al
      have kml := many_le (kids t0 ++ tr)
      rw [List.length_append] at kml
      rw [List.length_cons] at wl al htl
      rw [List.length_append, List.length_singleton] at wl
      refine ⟨W, p6, wp, kus.reverse, rfl, rfl, S6.sw.hd, SqT.of (S6.st h6), small (by rw [List.length_reverse]; omega), ?_⟩
      refine ⟨(pres (kids t0 ++ tr)).length, by rw [pe, List.length_cons]; omega, _, os ++ [.ref a0], wp ++ kus.reverse, dn ++ [t0], kids t0 ++ tr, G6, rfl, s1.trans s6, rfl, by rw [List.append_assoc]; exact hall, ?_, ?_, by rw [List.length_append]; exact kml, S6.sw.set⟩
      · rw [List.map_append]
        exact dpa_app (dpa_same s6 hos) (dpa_one (dp_same s6 hw0))
      · rw [List.reverse_append, List.map_append, etr, emp, List.map_reverse]
        exact dpa_app (dpa_same s6 hwp) (dpa_rev (dpa_same s6 hkus))

end
end K18
set_option Elab.async false
set_option linter.all false
set_option maxRecDepth 100000
set_option maxHeartbeats 4000000
namespace K18
open PySem PySem.Spec PyProof.Rows L2 XL
section
variable {P : Program} {w : World} {K : PySem.W.Frag} {mg : Str → Option Value} {base : Heap}
def spBelow (K : PySem.W.Frag) : Sp := fun vs H Q _ => ∃ (G : Hp) (M : List (Addr × HO)) (v : V) (t : Tr), vs = [v] ∧ Sep G M H ∧ Dp K G v (toD t) ∧ (pre t).length ≤ 1000 ∧
  ∀ (l : Addr) (us : List V) (G' H' : Hp), Same G G' → G' l = some (.lst us) → DpAll K G' us ((post t).map toD) → Sep G' M H' → Q (.ref l) H'
theorem ok_from_below (T : Top K mg w) {k : Nat} : FnOk P w K mg base CX0 (k + 1) T.a_from_below T.d_from_below ["root"] (spBelow K) := by
  refine T.F_from_below.ok sc_from_below (fun vs H Q E h => ?_) (fun cdv A outer s H vs Q E hr h => ?_)
  · obtain ⟨G, M, v, t, rfl, _⟩ := h
    rfl
  · obtain ⟨G, M, v, t, rfl, S, hv, pl, q⟩ := h
    refine ⟨_, (pss_cons (ps_set (i := 1) sc_from_below.nd rfl (.inl rfl) (pe_lst pa_nil))
      (pss_cons (ps_set (i := 2) sc_from_below.nd rfl (.inl rfl) (pe_lst (pa_cons (xv 0) pa_nil)))
      (pss_cons (xs_while PassesOwn.never (xt_truK K (xv 2))
      (pss_cons (ps_set (i := 3) sc_from_below.nd rfl (.inl rfl) (pe_bm0 PySem.F.plainAttrs_list PySem.F.slot_list_pop PySem.F.type_list_pop mt_pop (xv 2)))
      (pss_cons (ps_expr (pe_bmK K PySem.F.plainAttrs_list PySem.F.slot_list_append PySem.F.type_list_append mt_append (xv 1) (pa_cons (xv 3) pa_nil)))
      (pss_one (ps_expr (pe_bmK K PySem.F.plainAttrs_list PySem.F.slot_list_extend PySem.F.type_list_extend (mt_extT K) (xv 2) (pa_cons (pe_ix (ix_k K) (xv 3) pe_int (fun _ _ => rfl)) pa_nil)))))))
      (pss_one (ps_ret (pe_revK K (xv 1) (pe_str (pe_un un_neg pe_int) fun _ _ _ h => ⟨1, rfl, h⟩))))))), ?_⟩
    refine ⟨sz, fun O nO => ?_⟩
    have S1 := S.new (o := .lst []) nO
    refine ⟨sz, fun W nW => ?_⟩
    have S2 := S1.new (o := .lst [v]) nW
    have ppl := (post_perm t).length_eq
    refine ⟨fun m σ H' => ∃ (y3 : Option V) (os ws : List V) (dn ts : List Tr), σ = [some v, some (.ref O), some (.ref W), y3] ∧ m = (posts ts).length ∧ posts ts ++ dn.reverse = post t ∧ DpAll K G os (dn.map toD) ∧ DpAll K G ws (ts.map toD) ∧ Sep G ((W, .lst ws) :: (O, .lst os) :: M) H',
      ⟨(post t).length, _, [], [v], [], [t], rfl, by rw [posts_one], by rw [posts_one]; simp, .nil, dpa_one hv, S2⟩, fun m σ H' h => ?_⟩
    obtain ⟨y3, os, ws, dn, ts, rfl, rfl, hall, hos, hws, S3⟩ := h
    have al := congrArg List.length hall
    rw [List.length_append, List.length_reverse] at al
    have ol := dpa_len hos
    rw [List.length_map] at ol
    have wl := dpa_len hws
    rw [List.length_map] at wl
    have tl := many_le ts
    rw [← (posts_perm ts).length_eq] at tl
    rcases nil_or_snoc ws with ew | ⟨wp, w0, ew⟩
    · subst ew
      refine ⟨!([] : List V).isEmpty, .inl ⟨_, SqL.of S3.hd, rfl⟩, (fun e => nomatch e), fun _ => ?_⟩
      have e0 : ts = [] := List.length_eq_zero_iff.mp wl.symm
      subst e0
      have e1 : dn.reverse = post t := by simpa [posts] using hall
      refine ⟨O, os, rfl, SqL.of S3.sw.hd, fun p4 np4 => ?_⟩
      obtain ⟨G4, s4, S4, h4⟩ := Sep.mk (o := .lst os.reverse) S3 np4
      refine q p4 _ G4 _ s4 h4 ?_ S4.drop.drop
      rw [← e1, List.map_reverse]
      exact dpa_rev (dpa_same s4 hos)
    · subst ew
      have ne : (!(wp ++ [w0]).isEmpty) = true := by simp
      refine ⟨!(wp ++ [w0]).isEmpty, .inl ⟨_, SqL.of S3.hd, rfl⟩, fun _ => ?_, fun e => absurd (ne.symm.trans e) (by decide)⟩
      obtain ⟨ds', d, eds, hwp, hw0⟩ := dpa_unsnoc hws
      obtain ⟨tr, t0, ets, emp, rfl⟩ := map_snoc eds
      subst ets
      have S4 := S3.set (o' := .lst wp)
      refine ⟨.inl ⟨rfl, _, SqL.of S3.hd⟩, W, wp ++ [w0], w0, rfl, rfl, S3.hd, by simp, ?_⟩
      rw [List.dropLast_concat]
      have S5 := S4.sw.set (o' := .lst (os ++ [w0]))
      refine ⟨.inl ⟨rfl, _, SqL.of S4.sw.hd⟩, O, os, w0, rfl, rfl, S4.sw.hd, smallL (by omega), ?_⟩
      obtain ⟨a0, kv, kus, rfl, ha0, hkv, hkus⟩ := node_at hw0
      have kl := dpa_len hkus
      rw [List.length_map] at kl
      have kml := many_le (kids t0)
      have pe : posts (tr ++ [t0]) = posts (tr ++ kids t0) ++ [t0] := by rw [posts_app, posts_one, post_eq, posts_app, List.append_assoc]
      have pe2 := congrArg List.length pe
      have pe3 := congrArg List.length (posts_app tr (kids t0))
      rw [List.length_append, (posts_perm (kids t0)).length_eq] at pe3
      rw [List.length_append, List.length_singleton] at pe2
      rw [pe] at hall
      rw [List.length_append, List.length_singleton, List.length_append, List.length_singleton] at wl
      have trl := many_le tr
      rw [← (posts_perm tr).length_eq] at trl
      refine ⟨.inl ⟨rfl, _, SqL.of S5.sw.hd⟩, _, _, .inr (S5.t ha0), atI_nat (j := 2) rfl, W, kv, wp, kus, rfl, rfl, S5.sw.hd, S5.t hkv, small (by omega), ?_⟩
      refine ⟨(posts (tr ++ kids t0)).length, by rw [pe, List.length_append]; simp, _, os ++ [.ref a0], wp ++ kus, dn ++ [t0], tr ++ kids t0, rfl, rfl, ?_, ?_, ?_, S5.sw.set⟩
      · rw [List.reverse_append, ← hall, List.append_assoc]
        rfl
      · rw [List.map_append]
        exact dpa_app hos (dpa_one hw0)
      · rw [List.map_append, emp]
        exact dpa_app hwp hkus
/-! ### pages -/

structure PgAt (K : PySem.W.Frag) (C : Addr) (G : Hp) (p : Addr) (t : Tr) : Prop where
  ex : ∃ (dx N A O : Addr) (v : V) (us : List V) (ka kn : List (Key × V)), G p = some (.ins C dx [("tree", v), ("nodes", .ref N), ("above", .ref A), ("order", .ref O)]) ∧ Dp K G v (toD t) ∧ G N = some (.dK kn) ∧ G A = some (.dK ka) ∧ G O = some (.lst (((pre t).map mrk).map V.str)) ∧
    DpAll K G us ((pre t).map toD) ∧ kn = (((pre t).map mrk).map (fun m => (Sum.inr m : Key))).zip us
theorem PgAt.same {K : PySem.W.Frag} {C : Addr} {G G' : Hp} {p : Addr} {t : Tr} (e : Same G G') (h : PgAt K C G p t) : PgAt K C G' p t := by
  obtain ⟨dx, N, A, O, v, us, ka, kn, h1, h2, h3, h4, h5, h6, h7⟩ := h.ex
  exact ⟨dx, N, A, O, v, us, ka, kn, e _ _ h1, dp_same e h2, e _ _ h3, e _ _ h4, e _ _ h5, dpa_same e h6, h7⟩
def spPage (K : PySem.W.Frag) (C : Addr) : Sp := fun vs H Q _ => ∃ (G : Hp) (M : List (Addr × HO)) (x dx : Addr) (v : V) (t : Tr), vs = [.ref x, v] ∧ Sep G ((x, .ins C dx []) :: M) H ∧ Dp K G v (toD t) ∧ ((pre t).map mrk).Nodup ∧ (pre t).length ≤ 400 ∧
  ∀ (G' H' : Hp), Same G G' → PgAt K C G' x t → Sep G' M H' → Q .non H'
theorem valV_none {kvs : List (Key × V)} {k : Key} (h : k ∉ kvs.map (·.1)) : valV kvs k = none := by
  induction kvs with
  | nil => rfl
  | cons p r ih =>
    rw [List.map_cons, List.mem_cons, not_or] at h
    rw [valV_neg (fun e => h.1 e.symm)]
    exact ih h.2
theorem putK_new {kvs : List (Key × V)} {k : Key} {v : V} (h : valV kvs k = none) : putK kvs k v = kvs ++ [(k, v)] := by
  unfold putK
  rw [valV_any, h]
  rfl
theorem putK_len (kvs : List (Key × V)) (k : Key) (v : V) : (putK kvs k v).length ≤ kvs.length + 1 := by
  unfold putK
  split
  · rw [List.length_map]; omega
  · simp

end
end K18
set_option Elab.async false
set_option linter.all false
set_option maxRecDepth 100000
set_option maxHeartbeats 4000000
namespace K18
open PySem PySem.Spec PyProof.Rows L2 XL
section
variable {P : Program} {w : World} {K : PySem.W.Frag} {mg : Str → Option Value} {base : Heap}
/-! ### fields -/
theorem putF_ne {f g : Str} {v x : V} {r : List (Str × V)} (h : decide (g = f) = false := by decide +kernel) : putF f v ((g, x) :: r) = (g, x) :: putF f v r := by
  show (if g = f then _ else _) = _
  rw [if_neg (of_decide_eq_false h)]
theorem putF_eq {f : Str} {v x : V} {r : List (Str × V)} : putF f v ((f, x) :: r) = (f, v) :: r := by
  show (if f = f then _ else _) = _
  rw [if_pos rfl]
theorem putF_nil {f : Str} {v : V} : putF f v [] = [(f, v)] := rfl
theorem lk_ne {f g : Str} {x : V} {r : List (Str × V)} (h : (f == g) = false := by decide +kernel) : List.lookup f ((g, x) :: r) = List.lookup f r := by simp [List.lookup, h]
theorem lk_eq {f : Str} {x : V} {r : List (Str × V)} : List.lookup f ((f, x) :: r) = some x := by simp [List.lookup]
theorem Sep.keep {G H : Hp} {M : List (Addr × HO)} {p : Addr} {o : HO} (S : Sep G ((p, o) :: M) H) : ∃ G', Same G G' ∧ Sep G' M H ∧ G' p = some o := ⟨_, S.frzS, S.frz, upd_same⟩

mutual
theorem sub_pre {p : Tr} : ∀ t, p ∈ pre t → (pres (kids p)).length ≤ (pre t).length
  | .node m l ks, h => by
    simp only [pre, List.mem_cons, List.length_cons] at h ⊢
    rcases h with rfl | h
    · simp only [kids]; omega
    · have := sub_pres ks h
      omega
theorem sub_pres {p : Tr} : ∀ ts, p ∈ pres ts → (pres (kids p)).length ≤ (pres ts).length
  | [], h => by simp [pres] at h
  | t :: r, h => by
    simp only [pres, List.mem_append, List.length_append] at h ⊢
    rcases h with h | h
    · have := sub_pre t h; omega
    · have := sub_pres r h; omega
end
theorem sub_len {p t : Tr} (h : p ∈ pre t) : (pres (kids p)).length ≤ (pre t).length := sub_pre t h
theorem kV_str (z : Str) : V.str z = kV (Sum.inr z : Key) := rfl
theorem ok_Page_init (T : Top K mg w) (G_nodes_of : FnOk P w K mg base CX0 1 T.a_nodes_of T.d_nodes_of ["root"] (spNodes K)) : FnOk P w K mg base CX0 2 T.a_Page_init T.d_Page_init ["self", "root"] (spPage K T.C_Page) := by
  refine T.F_Page_init.ok sc_Page_init (fun vs H Q E h => ?_) (fun cdv A outer s H vs Q E hr h => ?_)
  · obtain ⟨G, M, x, dx, v, t, rfl, _⟩ := h
    rfl
  · obtain ⟨G, M, x, dx, v, t, rfl, S, hv, nd, pl, q⟩ := h
    refine ⟨_, (pss_cons (ps_set (i := 2) sc_Page_init.nd rfl (.inl rfl) pe_dnewK)
      (pss_cons (ps_set (i := 3) sc_Page_init.nd rfl (.inl rfl) (pe_disp (pps_cons (pe_ix (ix_k K) (xv 1) pe_int (fun _ _ => rfl)) pe_non pps_nil) (by rfl) (by rfl) (fun z => by cases z) (by decide)))
      (pss_cons (ps_set (i := 4) sc_Page_init.nd rfl (.inl rfl) (pe_lst pa_nil))
      (pss_cons (ps_for PassesOwn.never rfl (pi_listK K (pe_call G_nodes_of (hr.mono (by omega)) (by rfl) T.g_nodes_of T.F_nodes_of.kp T.b_nodes_of .nil pass0 (pa_cons (xv 1) pa_nil))) (pg_name (i := 5) sc_Page_init.nd rfl (.inl rfl))
      (pss_cons (xs_if (pt_cmp (pc_din (hu_of hr) (pe_ix (ix_k K) (xv 5) pe_int (fun _ _ => rfl)) (xv 2)))
      (pss_one ps_never)
      pss_nil)
      (pss_cons (ps_dput (hu_of hr) (xv 2) (pe_ix (ix_k K) (xv 5) pe_int (fun _ _ => rfl)) (xv 5) rfl)
      (pss_cons (ps_expr (pe_bmK K PySem.F.plainAttrs_list PySem.F.slot_list_append PySem.F.type_list_append mt_append (xv 4) (pa_cons (pe_ix (ix_k K) (xv 5) pe_int (fun _ _ => rfl)) pa_nil)))
      (pss_one (ps_for PassesOwn.never rfl (pi_tupK K (pe_ix (ix_k K) (xv 5) pe_int (fun _ _ => rfl))) (pg_name (i := 6) sc_Page_init.nd rfl (.inl rfl))
      (pss_one (ps_dput (hu_of hr) (xv 3) (pe_ix (ix_k K) (xv 6) pe_int (fun _ _ => rfl)) (pe_ix (ix_k K) (xv 5) pe_int (fun _ _ => rfl)) rfl))))))))
      (pss_cons (xs_if (xt_cmp op_gtY (pe_callB (cr_lenK K) (by rfl) T.m_len (by decide +kernel) (pa_cons (xv 4) pa_nil)) (xe_globI (by rfl) T.v_MOST_NODES) (nomark _))
      (pss_one ps_never)
      pss_nil)
      (pss_cons (ps_fld (xv 0) (xv 1) rfl)
      (pss_cons (ps_fld (xv 0) (xv 2) rfl)
      (pss_cons (ps_fld (xv 0) (xv 3) rfl)
      (pss_one (ps_fld (xv 0) (xv 4) rfl)))))))))), ?_⟩
    obtain ⟨a0, kv0, kus0, rfl, ha0, hkv0, hkus0⟩ := node_at hv
    refine fun N nN => ?_
    have S1 := S.new (o := .dK []) nN
    refine fun A' nA => ?_
    have S2 := S1.new (o := .dK []) nA
    refine ⟨_, _, .inr (S2.t ha0), atI_nat (j := 0) rfl, S2.hd, [(Sum.inr (mrk t), V.non)], rfl, by simp, sz, fun O nO => ?_⟩
    have S3 := (S2.set (o' := .dK (mergeK [] [(Sum.inr (mrk t), V.non)]))).new (o := .lst []) nO
    refine ⟨G, _, _, t, rfl, S3, hv, by omega, fun D us G1 H1 s1 hD hus S4 => ?_⟩
    have ul := dpa_len hus
    rw [List.length_map] at ul
    refine ⟨D, rfl, ⟨us, SqL.of (S4.st hD)⟩, for_list (xs := us) (fun i σ H' => ∃ (y5 y6 : Option V) (ka : List (Key × V)), σ = [some (.ref x), some (.ref a0), some (.ref N), some (.ref A'), some (.ref O), y5, y6] ∧ ka.length ≤ 1 + 400 * i ∧
      Sep G1 ((O, .lst ((((pre t).take i).map mrk).map V.str)) :: (A', .dK ka) :: (N, .dK (((((pre t).take i).map mrk).map (fun m => (Sum.inr m : Key))).zip (us.take i))) :: (x, .ins T.C_Page dx []) :: M) H')
      ⟨_, _, _, rfl, (show (mergeK [] [(Sum.inr (mrk t), V.non)] : List (Key × V)).length ≤ 1 from Nat.le_refl _), S4⟩ (fun i σ H' _ h => ?_) (fun i u σ H' hu h => ?_) (fun σ H' h => ?_)⟩
    · obtain ⟨_, _, _, _, _, S'⟩ := h
      exact SqL.of (S'.st hD)
    · obtain ⟨y5, y6, ka, rfl, kal, S5⟩ := h
      obtain ⟨d, hd, hud⟩ := dpa_get hus hu
      obtain ⟨p, hp, rfl⟩ := map_get hd
      obtain ⟨a, kv, kus, rfl, ha, hkv, hkus⟩ := node_at hud
      have il := (List.getElem?_eq_some_iff.mp hp).1
      have kl := dpa_len hkus
      rw [List.length_map] at kl
      have kml := many_le (kids p)
      have kcl : (pres (kids p)).length ≤ (pre t).length := sub_len (List.mem_of_getElem? hp)
      have tkl : ((pre t).take i).length = i := by rw [List.length_take]; omega
      have utl : (us.take i).length = i := by rw [List.length_take]; omega
      have keys : ((((((pre t).take i).map mrk).map (fun m => (Sum.inr m : Key))).zip (us.take i)).map (·.1)) = (((pre t).take i).map mrk).map (fun m => (Sum.inr m : Key)) := List.map_fst_zip (by rw [List.length_map, List.length_map, tkl, utl]; exact Nat.le_refl _)
      have free : valV ((((((pre t).take i).map mrk).map (fun m => (Sum.inr m : Key))).zip (us.take i))) (Sum.inr (mrk p)) = none := valV_none (by
        rw [keys]
        intro hm
        obtain ⟨m, hm1, hm2⟩ := List.mem_map.mp hm
        cases hm2
        have e1 : (pre t).map mrk = ((pre t).take i).map mrk ++ mrk p :: ((pre t).drop (i + 1)).map mrk := by
          conv => lhs; rw [(take_pre hp).1]
          rw [List.map_append, List.map_cons]
        rw [e1, List.nodup_append] at nd
        exact nd.2.2 _ hm1 _ List.mem_cons_self rfl)
      have SN := S5.perm (List.perm_append_comm_assoc [_, _] [_] _)
      refine ⟨_, _, .inr (S5.t ha), atI_nat (j := 0) rfl, N, _, rfl, DGet.k (k := Sum.inr (mrk p)) SN.hd, _, rfl, ?_⟩
      rw [free]
      refine ⟨ff, fun _ => ?_⟩
      refine ⟨_, _, .inr (S5.t ha), atI_nat (j := 0) rfl, N, _, rfl, DPut.k (k := Sum.inr (mrk p)) SN.hd (smallL (by rw [List.length_zip, utl]; omega)), ?_⟩
      rw [putK_new free]
      have S6 := SN.set (o' := .dK (((((pre t).take i).map mrk).map (fun m => (Sum.inr m : Key))).zip (us.take i) ++ [(Sum.inr (mrk p), V.ref a)]))
      refine ⟨.inl ⟨rfl, _, SqL.of S6.sw.hd⟩, _, _, .inr (S6.t ha), atI_nat (j := 0) rfl, O, _, _, rfl, rfl, S6.sw.hd, smallL (by rw [List.length_map, List.length_map, tkl]; omega), ?_⟩
      have S7 := S6.sw.set (o' := .lst ((((pre t).take i).map mrk).map V.str ++ [V.str (mrk p)]))
      have S8 := S7.perm (List.perm_append_comm_assoc [_, _] [_] _)
      refine ⟨_, _, .inr (S7.t ha), atI_nat (j := 2) rfl, kv, rfl, ⟨kus, S7.t hkv⟩, for_tup (xs := kus) (fun j σ H' => ∃ (y6 : Option V) (ka' : List (Key × V)), σ = [some (.ref x), some (.ref a0), some (.ref N), some (.ref A'), some (.ref O), some (.ref a), y6] ∧ ka'.length ≤ 1 + 400 * i + j ∧
        Sep G1 ((A', .dK ka') :: (O, .lst ((((pre t).take i).map mrk).map V.str ++ [V.str (mrk p)])) :: (N, .dK (((((pre t).take i).map mrk).map (fun m => (Sum.inr m : Key))).zip (us.take i) ++ [(Sum.inr (mrk p), V.ref a)])) :: (x, .ins T.C_Page dx []) :: M) H')
        ⟨_, ka, rfl, by omega, S8⟩ (fun j σ H' _ h => ?_) (fun j c σ H' hc h => ?_) (fun σ H' h => ?_)⟩
      · obtain ⟨_, _, _, _, S'⟩ := h
        exact S'.t hkv
      · obtain ⟨y6, ka', rfl, kal', S9⟩ := h
        obtain ⟨d, hd, hcd⟩ := dpa_get hkus hc
        obtain ⟨pc, hpc, rfl⟩ := map_get hd
        obtain ⟨ac, kvc, kusc, rfl, hac, _, _⟩ := node_at hcd
        have jl := (List.getElem?_eq_some_iff.mp hpc).1
        refine ⟨_, _, .inr (S9.t ha), atI_nat (j := 0) rfl, _, _, .inr (S9.t hac), atI_nat (j := 0) rfl, A', _, rfl, DPut.k (k := Sum.inr (mrk pc)) S9.hd ?_, _, _, rfl, ?_, S9.set⟩
        · have : 400 * i ≤ 400 * 400 := Nat.mul_le_mul_left _ (by omega)
          rw [sizeLine_eq]
          omega
        · have := putK_len ka' (Sum.inr (mrk pc)) (.str (mrk p))
          omega
      · obtain ⟨y6, ka', rfl, kal', S9⟩ := h
        refine ⟨_, _, ka', rfl, by omega, ?_⟩
        rw [take_snoc hp, take_snoc hu, List.map_append, List.map_append, List.map_append, List.zip_append (by rw [List.length_map, List.length_map, tkl, utl])]
        exact S9.sw
    · obtain ⟨y5, y6, ka, rfl, kal, S5⟩ := h
      rw [ul, List.take_length, List.take_of_length_le (by omega)] at S5
      refine ⟨_, .inl (SqL.of S5.hd), fun e => ?_, fun _ => ?_⟩
      · have := of_decide_eq_true e
        rw [List.length_map, List.length_map] at this
        omega
      have SX := S5.perm (List.perm_append_comm_assoc [_, _, _] [_] _)
      refine ⟨x, T.C_Page, dx, [], rfl, SX.hd, T.cl_Page, T.na_Page_tree, by decide, ?_⟩
      rw [putF_nil]
      have X1 := SX.set (o' := .ins T.C_Page dx [("tree", .ref a0)])
      refine ⟨x, T.C_Page, dx, _, rfl, X1.hd, T.cl_Page, T.na_Page_nodes, by simp, ?_⟩
      rw [putF_ne, putF_nil]
      have X2 := X1.set (o' := .ins T.C_Page dx [("tree", .ref a0), ("nodes", .ref N)])
      refine ⟨x, T.C_Page, dx, _, rfl, X2.hd, T.cl_Page, T.na_Page_above, by simp, ?_⟩
      rw [putF_ne, putF_ne, putF_nil]
      have X3 := X2.set (o' := .ins T.C_Page dx [("tree", .ref a0), ("nodes", .ref N), ("above", .ref A')])
      refine ⟨x, T.C_Page, dx, _, rfl, X3.hd, T.cl_Page, T.na_Page_order, by simp, ?_⟩
      rw [putF_ne, putF_ne, putF_ne, putF_nil]
      have X4 := X3.set (o' := .ins T.C_Page dx [("tree", .ref a0), ("nodes", .ref N), ("above", .ref A'), ("order", .ref O)])
      obtain ⟨Ga, sa, Sa, ea⟩ := Sep.keep X4
      obtain ⟨Gb, sb, Sb, eb⟩ := Sep.keep Sa
      obtain ⟨Gc, sc, Sc, ec⟩ := Sep.keep Sb
      obtain ⟨Gd, sd, Sd, ed⟩ := Sep.keep Sc
      have sAll := sa.trans (sb.trans (sc.trans sd))
      exact q Gd _ (s1.trans sAll) ⟨dx, N, A', O, _, us, ka, _, sd _ _ (sc _ _ (sb _ _ ea)), dp_same (s1.trans sAll) hv, ed, sd _ _ ec, sd _ _ (sc _ _ eb), dpa_same sAll hus, rfl⟩ Sd

end
end K18
set_option Elab.async false
set_option linter.all false
set_option maxRecDepth 100000
set_option maxHeartbeats 4000000
namespace K18
open PySem PySem.Spec PyProof.Rows L2 XL
section
variable {P : Program} {w : World} {K : PySem.W.Frag} {mg : Str → Option Value} {base : Heap}
/-! ### measure, Page.top, rectangles -/
def Pr (G : Hp) (v : V) (p : Int × Int) : Prop := ∃ a, v = .ref a ∧ G a = some (.tup [.int p.1, .int p.2])
theorem Pr.same {G G' : Hp} (e : Same G G') {v : V} {p : Int × Int} (h : Pr G v p) : Pr G' v p := by
  obtain ⟨a, h1, h2⟩ := h
  exact ⟨a, h1, e _ _ h2⟩
def spMeasure (K : PySem.W.Frag) : Sp := fun as H Q _ => ∃ (G : Hp) (M : List (Addr × HO)) (z : Str) (t : Addr) (vs : List V) (ps : List (Int × Int)), as = [.str z, .ref t] ∧ Sep G M H ∧ z.length ≤ 100 ∧ G t = some (.tup vs) ∧ Paired (Pr G) vs ps ∧
  ∀ (v : V) (G' H' : Hp), Pr G' v (msr z ps) → Same G G' → Sep G' M H' → Q v H'
theorem ok_measure (T : Top K mg w) {k : Nat} : FnOk P w K mg base CX0 (k + 1) T.a_measure T.d_measure ["label", "sizes"] (spMeasure K) := by
  refine T.F_measure.ok sc_measure (fun vs H Q E h => ?_) (fun cdv A outer s H vs Q E hr h => ?_)
  · obtain ⟨G, M, z, t, vs, ps, rfl, _⟩ := h
    rfl
  · obtain ⟨G, M, z, t, vs, ps, rfl, S, hz, ht, hp, q⟩ := h
    refine ⟨_, (pss_cons (xs_if (pt_not (xt_truK K (xv 1)))
      (pss_cons (xs_if (PW.pt (xw_or (xt_cmp (op_eqK K hr.units) (xv 0) pe_str (nomark _)) (pw_or1 (xt_cmp (op_eqK K hr.units) (xv 0) pe_str (nomark _)))))
      (pss_one (ps_ret (pe_tup (pa_cons pe_int (pa_cons pe_int pa_nil)))))
      pss_nil)
      (pss_one (ps_ret (pe_tup (pa_cons (pe_callB (cr_lenK K) (by rfl) T.m_len (by decide +kernel) (pa_cons (xv 0) pa_nil)) (pa_cons pe_int pa_nil))))))
      pss_nil)
      (pss_cons (ps_set (i := 2) sc_measure.nd rfl (.inl rfl) pe_int)
      (pss_cons (ps_set (i := 3) sc_measure.nd rfl (.inl rfl) pe_int)
      (pss_cons (ps_for PassesOwn.never rfl (pi_tupK K (xv 1)) (pg_tupK K 2 (pgs_cons (pg_name (i := 4) sc_measure.nd rfl (.inl rfl)) (pgs_cons (pg_name (i := 5) sc_measure.nd rfl (.inl rfl)) pgs_nil)))
      (pss_one (xs_if (xt_cmp (op_eqK K hr.units) (xv 0) pe_str (nomark _))
      (pss_cons (ps_set (i := 2) sc_measure.nd rfl (.inl rfl) (pe_op op_addY (xv 2) (xv 4)))
      (pss_one (xs_if (xt_cmp op_gtY (xv 5) (xv 3) (nomark _))
      (pss_one (ps_set (i := 3) sc_measure.nd rfl (.inl rfl) (xv 5)))
      pss_nil)))
      (pss_cons (ps_set (i := 3) sc_measure.nd rfl (.inl rfl) (pe_op op_addY (xv 3) (xv 5)))
      (pss_one (xs_if (xt_cmp op_gtY (xv 4) (xv 2) (nomark _))
      (pss_one (ps_set (i := 2) sc_measure.nd rfl (.inl rfl) (xv 4)))
      pss_nil))))))
      (pss_one (ps_ret (pe_tup (pa_cons (xv 2) (pa_cons (xv 3) pa_nil))))))))), ?_⟩
    have ret : ∀ (p : Addr) (u v : Int), (u, v) = msr z ps → H p = none → Q (.ref p) (upd H p (.tup [.int u, .int v])) := fun p u v e np =>
      q (.ref p) _ _ ⟨p, rfl, by rw [← e]; exact upd_same⟩ (S.grow np) (S.newG np)
    refine ⟨!vs.isEmpty, .inr (.inl ⟨vs, SqT.of (S.st ht), rfl⟩), fun e => ?_, fun e => ?_⟩
    · -- no children
      have ev : vs = [] := by cases vs with
        | nil => rfl
        | cons _ _ => exact nomatch e
      subst ev
      cases hp
      refine ⟨fun e => ⟨fun _ => ⟨sz, fun p np => ret p _ _ ?_ np⟩, fun e => nomatch e⟩, fun e => ⟨fun e2 => ⟨sz, fun p np => ret p _ _ ?_ np⟩, fun e2 => ⟨small (by omega), sz, fun p np => ret p _ _ ?_ np⟩⟩⟩
      · unfold msr
        rw [if_pos rfl, if_pos (.inl (of_decide_eq_true e))]
      · unfold msr
        rw [if_pos rfl, if_pos (.inr (of_decide_eq_true e2))]
      · unfold msr
        rw [if_pos rfl, if_neg]
        rintro (h | h)
        · exact of_decide_eq_false e h
        · exact of_decide_eq_false e2 h
    · have hne : ps ≠ [] := by
        rintro rfl
        cases hp
        exact nomatch e
      refine ⟨t, rfl, ⟨vs, SqT.of (S.st ht)⟩, for_tup (xs := vs) (fun i σ H' => ∃ y4 y5, σ = [some (.str z), some (.ref t), some (.int ((ps.take i).foldl (stp z) (0, 0)).1), some (.int ((ps.take i).foldl (stp z) (0, 0)).2), y4, y5] ∧ H' = H)
        ⟨_, _, rfl, rfl⟩ (fun i σ H' _ h => ?_) (fun i x σ H' hx h => ?_) (fun σ H' h => ?_)⟩
      · obtain ⟨_, _, _, rfl⟩ := h
        exact SqT.of (S.st ht)
      · obtain ⟨y4, y5, rfl, rfl⟩ := h
        obtain ⟨p, hpi, a, rfl, ha⟩ := prd_get hp hx
        have e1 := take_snoc hpi
        generalize hA : (ps.take i).foldl (stp z) (0, 0) = A at *
        have e2 : (ps.take (i + 1)).foldl (stp z) (0, 0) = stp z A p := by rw [e1, List.foldl_append, hA]; rfl
        refine ⟨a, _, rfl, SqT.of (S.st ha), rfl, _, _, rfl, _, _, rfl, rfl, fun e => ⟨fun e3 => ?_, fun e3 => ?_⟩, fun e => ⟨fun e3 => ?_, fun e3 => ?_⟩⟩
        · refine ⟨some (.int p.1), some (.int p.2), ?_, rfl⟩
          rw [e2]
          unfold stp
          rw [if_pos (of_decide_eq_true e), if_pos (of_decide_eq_true e3)]
          rfl
        · refine ⟨some (.int p.1), some (.int p.2), ?_, rfl⟩
          rw [e2]
          unfold stp
          rw [if_pos (of_decide_eq_true e), if_neg (of_decide_eq_false e3)]
          rfl
        · refine ⟨some (.int p.1), some (.int p.2), ?_, rfl⟩
          rw [e2]
          unfold stp
          rw [if_neg (of_decide_eq_false e), if_pos (of_decide_eq_true e3)]
          rfl
        · refine ⟨some (.int p.1), some (.int p.2), ?_, rfl⟩
          rw [e2]
          unfold stp
          rw [if_neg (of_decide_eq_false e), if_neg (of_decide_eq_false e3)]
          rfl
      · obtain ⟨y4, y5, rfl, rfl⟩ := h
        rw [prd_len hp, List.take_length]
        refine ⟨sz, fun p np => ret p _ _ ?_ np⟩
        unfold msr
        rw [if_neg hne]
def spTop (K : PySem.W.Frag) (C : Addr) : Sp := fun vs H Q _ => ∃ (G : Hp) (p : Addr) (t : Tr), vs = [.ref p] ∧ Same G H ∧ PgAt K C G p t ∧ ∀ v, Dp K G v (toD t) → Q v H
theorem ok_Page_top (T : Top K mg w) {k : Nat} : FnOk P w K mg base CX0 (k + 1) T.a_Page_top T.d_Page_top ["self"] (spTop K T.C_Page) := by
  refine T.F_Page_top.ok sc_Page_top (fun vs H Q E h => ?_) (fun cdv A outer s H vs Q E hr h => ?_)
  · obtain ⟨G, p, t, rfl, _⟩ := h
    rfl
  · obtain ⟨G, p, t, rfl, S, pg, q⟩ := h
    obtain ⟨dx, N, A', O, v, us, ka, kn, h1, h2, _⟩ := pg.ex
    refine ⟨_, (pss_one (ps_ret (pe_fldK K (xv 0)))), ?_⟩
    exact ⟨p, T.C_Page, dx, _, _, rfl, S _ _ h1, T.cl_Page, T.na_Page_tree, lk_eq, q v h2⟩

end
end K18
set_option Elab.async false
set_option linter.all false
set_option maxRecDepth 100000
set_option maxHeartbeats 4000000
namespace K18
open PySem PySem.Spec PyProof.Rows L2 XL
section
variable {P : Program} {w : World} {K : PySem.W.Frag} {mg : Str → Option Value} {base : Heap}
/-! ### rectangles -/
def SzOk (G : Hp) (kvs : List (Key × V)) (t : Tr) : Prop := ∀ p ∈ pre t, ∃ v, valV kvs (Sum.inr (mrk p)) = some v ∧ Pr G v (meas p)
def BxAt (G : Hp) (kv : Key × V) (r : Str × Bx) : Prop := kv.1 = Sum.inr r.1 ∧ ∃ a, kv.2 = .ref a ∧ G a = some (.tup [.int r.2.1, .int r.2.2.1, .int r.2.2.2.1, .int r.2.2.2.2])
theorem BxAt.same {G G' : Hp} (e : Same G G') {kv : Key × V} {r : Str × Bx} (h : BxAt G kv r) : BxAt G' kv r := by
  obtain ⟨h1, a, h2, h3⟩ := h
  exact ⟨h1, a, h2, e _ _ h3⟩
def WtAt (K : PySem.W.Frag) (G : Hp) (v : V) (f : Tr × Int × Int) : Prop := ∃ a nv, v = .ref a ∧ G a = some (.tup [nv, .int f.2.1, .int f.2.2]) ∧ Dp K G nv (toD f.1)
theorem WtAt.same {K : PySem.W.Frag} {G G' : Hp} (e : Same G G') {v : V} {f : Tr × Int × Int} (h : WtAt K G v f) : WtAt K G' v f := by
  obtain ⟨a, nv, h1, h2, h3⟩ := h
  exact ⟨a, nv, h1, e _ _ h2, dp_same e h3⟩
def spRect (K : PySem.W.Frag) : Sp := fun vs H Q _ => ∃ (G : Hp) (M : List (Addr × HO)) (v : V) (t : Tr) (sd : Addr) (kvs : List (Key × V)), vs = [v, .ref sd] ∧ Sep G M H ∧ Dp K G v (toD t) ∧ G sd = some (.dK kvs) ∧ SzOk G kvs t ∧ ((pre t).map mrk).Nodup ∧ (pre t).length ≤ 400 ∧
  ∀ (D : Addr) (kp : List (Key × V)) (G' H' : Hp), Same G G' → G' D = some (.dK kp) → Paired (BxAt G') kp (rects 0 0 t) → Sep G' M H' → Q (.ref D) H'
theorem prd_keys {G : Hp} : ∀ {kp : List (Key × V)} {rs : List (Str × Bx)}, Paired (BxAt G) kp rs → kp.map (·.1) = rs.map fun r => (Sum.inr r.1 : Key)
  | _, _, .nil => rfl
  | _, _, .cons h t => by rw [List.map_cons, List.map_cons, h.1, prd_keys t]
theorem prd_rev {α β : Type} {F : α → β → Prop} : ∀ {xs : List α} {ys : List β}, Paired F xs ys → Paired F xs.reverse ys.reverse
  | _, _, .nil => .nil
  | _, _, .cons r t => by
    rw [List.reverse_cons, List.reverse_cons]
    exact prd_app (prd_rev t) (.cons r .nil)
theorem offs_snoc (row : Bool) : ∀ (ks : List Tr) (x y : Int) (k : Tr), ∃ x' y', offs row x y (ks ++ [k]) = offs row x y ks ++ [(k, x', y')]
  | [], x, y, k => ⟨x, y, rfl⟩
  | c :: ks, x, y, k => by
    obtain ⟨x', y', e⟩ := offs_snoc row ks (if row then x + (meas c).1 else x) (if row then y else y + (meas c).2) k
    exact ⟨x', y', by simp only [List.cons_append, offs, e]⟩
/-- the corner behind some children -/
def cor (row : Bool) (x y : Int) : List Tr → Int × Int
  | [] => (x, y)
  | k :: r => cor row (if row then x + (meas k).1 else x) (if row then y else y + (meas k).2) r
theorem offs_cor (row : Bool) : ∀ (ks : List Tr) (x y : Int) (k : Tr), offs row x y (ks ++ [k]) = offs row x y ks ++ [(k, (cor row x y ks).1, (cor row x y ks).2)]
  | [], x, y, k => rfl
  | c :: ks, x, y, k => by simp only [List.cons_append, offs, cor, offs_cor row ks]
theorem cor_snoc (row : Bool) : ∀ (ks : List Tr) (x y : Int) (k : Tr), cor row x y (ks ++ [k]) = (if row then (cor row x y ks).1 + (meas k).1 else (cor row x y ks).1, if row then (cor row x y ks).2 else (cor row x y ks).2 + (meas k).2)
  | [], x, y, k => rfl
  | c :: ks, x, y, k => by simp only [List.cons_append, cor, cor_snoc row ks]
theorem offs_len (row : Bool) : ∀ (ks : List Tr) (x y : Int), (offs row x y ks).length = ks.length
  | [], _, _ => rfl
  | k :: r, x, y => by simp only [offs, List.length_cons, offs_len row r]
theorem offs_mem (row : Bool) {f : Tr × Int × Int} : ∀ {ks : List Tr} {x y : Int}, f ∈ offs row x y ks → f.1 ∈ ks
  | k :: r, x, y, h => by
    simp only [offs, List.mem_cons] at h
    rcases h with rfl | h
    · simp
    · exact List.mem_cons_of_mem _ (offs_mem row h)
theorem fs_le : ∀ fs : List (Tr × Int × Int), fs.length ≤ (rectF fs).length
  | [] => by simp
  | (t, x, y) :: r => by
    have := fs_le r
    simp only [rectF, List.length_append, List.length_cons, rects_eq]
    omega
mutual
theorem pre_trans {p q : Tr} : ∀ t, q ∈ pre t → p ∈ pre q → p ∈ pre t
  | .node m l ks, h, hp => by
    simp only [pre, List.mem_cons] at h ⊢
    rcases h with rfl | h
    · simpa only [pre, List.mem_cons] using hp
    · exact .inr (pres_trans ks h hp)
theorem pres_trans {p q : Tr} : ∀ ts, q ∈ pres ts → p ∈ pre q → p ∈ pres ts
  | [], h, _ => by simp [pres] at h
  | t :: r, h, hp => by
    simp only [pres, List.mem_append] at h ⊢
    rcases h with h | h
    · exact .inl (pre_trans t h hp)
    · exact .inr (pres_trans r h hp)
end
theorem kid_pre {c p t : Tr} (h : p ∈ pre t) (hc : c ∈ kids p) : c ∈ pre t := pre_trans t h (by rw [pre_eq]; exact List.mem_cons_of_mem _ (mem_pres.mpr ⟨c, hc, self_pre c⟩))
theorem ok_rectangles (T : Top K mg w) {k : Nat} : FnOk P w K mg base CX0 (k + 1) T.a_rectangles T.d_rectangles ["root", "sizes"] (spRect K) := by
  refine T.F_rectangles.ok sc_rectangles (fun vs H Q E h => ?_) (fun cdv A outer s H vs Q E hr h => ?_)
  · obtain ⟨G, M, v, t, sd, kvs, rfl, _⟩ := h
    rfl
  · obtain ⟨G, M, v, t, sd, kvs, rfl, S, hv, hsd, hsz, nd, pl, q⟩ := h
    refine ⟨_, (pss_cons (ps_set (i := 2) sc_rectangles.nd rfl (.inl rfl) pe_dnewK)
      (pss_cons (ps_set (i := 3) sc_rectangles.nd rfl (.inl rfl) (pe_lst (pa_cons (pe_tup (pa_cons (xv 0) (pa_cons pe_int (pa_cons pe_int pa_nil)))) pa_nil)))
      (pss_cons (xs_while PassesOwn.never (xt_truK K (xv 3))
      (pss_cons (ps_asg (pe_bm0 PySem.F.plainAttrs_list PySem.F.slot_list_pop PySem.F.type_list_pop mt_pop (xv 3)) (pg_tupK K 3 (pgs_cons (pg_name (i := 4) sc_rectangles.nd rfl (.inl rfl)) (pgs_cons (pg_name (i := 5) sc_rectangles.nd rfl (.inl rfl)) (pgs_cons (pg_name (i := 6) sc_rectangles.nd rfl (.inl rfl)) pgs_nil)))))
      (pss_cons (ps_asg (pe_dget (hu_of hr) (xv 1) (pe_ix (ix_k K) (xv 4) pe_int (fun _ _ => rfl)) (fun _ _ => rfl)) (pg_tupK K 2 (pgs_cons (pg_name (i := 7) sc_rectangles.nd rfl (.inl rfl)) (pgs_cons (pg_name (i := 8) sc_rectangles.nd rfl (.inl rfl)) pgs_nil))))
      (pss_cons (ps_dput (hu_of hr) (xv 2) (pe_ix (ix_k K) (xv 4) pe_int (fun _ _ => rfl)) (pe_tup (pa_cons (xv 5) (pa_cons (xv 6) (pa_cons (xv 7) (pa_cons (xv 8) pa_nil))))) rfl)
      (pss_cons (ps_set (i := 9) sc_rectangles.nd rfl (.inl rfl) (pe_lst pa_nil))
      (pss_cons (ps_for PassesOwn.never rfl (pi_tupK K (pe_ix (ix_k K) (xv 4) pe_int (fun _ _ => rfl))) (pg_name (i := 10) sc_rectangles.nd rfl (.inl rfl))
      (pss_cons (ps_expr (pe_bmK K PySem.F.plainAttrs_list PySem.F.slot_list_append PySem.F.type_list_append mt_append (xv 9) (pa_cons (pe_tup (pa_cons (xv 10) (pa_cons (xv 5) (pa_cons (xv 6) pa_nil)))) pa_nil)))
      (pss_one (xs_if (xt_cmp (op_eqK K hr.units) (pe_ix (ix_k K) (xv 4) pe_int (fun _ _ => rfl)) pe_str (nomark _))
      (pss_one (ps_set (i := 5) sc_rectangles.nd rfl (.inl rfl) (pe_op op_addY (xv 5) (pe_ix (ix_k K) (pe_dget (hu_of hr) (xv 1) (pe_ix (ix_k K) (xv 10) pe_int (fun _ _ => rfl)) (fun _ _ => rfl)) pe_int (fun _ _ => rfl)))))
      (pss_one (ps_set (i := 6) sc_rectangles.nd rfl (.inl rfl) (pe_op op_addY (xv 6) (pe_ix (ix_k K) (pe_dget (hu_of hr) (xv 1) (pe_ix (ix_k K) (xv 10) pe_int (fun _ _ => rfl)) (fun _ _ => rfl)) pe_int (fun _ _ => rfl)))))))))
      (pss_one (ps_expr (pe_bmK K PySem.F.plainAttrs_list PySem.F.slot_list_extend PySem.F.type_list_extend mt_extend (xv 3) (pa_cons (pe_revK K (xv 9) (pe_str (pe_un un_neg pe_int) fun _ _ _ h => ⟨1, rfl, h⟩)) pa_nil))))))))))
      (pss_one (ps_ret (xv 2)))))), ?_⟩
    refine fun D nD => ?_
    have S1 := S.new (o := .dK []) nD
    refine ⟨sz, fun p1 np1 => ?_⟩
    obtain ⟨G2, s2, S2, h2⟩ := Sep.mk (o := .tup [v, .int 0, .int 0]) S1 np1
    refine ⟨sz, fun W nW => ?_⟩
    have S3 := S2.new (o := .lst [.ref p1]) nW
    have rl : (rects 0 0 t).length = (pre t).length := by
      have e := congrArg List.length (rects_marks 0 0 t)
      rw [List.length_map, List.length_map] at e
      exact e
    refine ⟨fun m σ H' => ∃ (y4 y5 y6 y7 y8 y9 y10 : Option V) (ws : List V) (fs : List (Tr × Int × Int)) (kp : List (Key × V)) (dn : List (Str × Bx)) (G' : Hp), σ = [some v, some (.ref sd), some (.ref D), some (.ref W), y4, y5, y6, y7, y8, y9, y10] ∧ Same G2 G' ∧ m = (rectF fs).length ∧ dn ++ rectF fs = rects 0 0 t ∧
      Paired (WtAt K G') ws fs.reverse ∧ Paired (BxAt G') kp dn ∧ (∀ f ∈ fs, f.1 ∈ pre t) ∧ Sep G' ((W, .lst ws) :: (D, .dK kp) :: M) H',
      ⟨_, _, _, _, _, _, _, _, [.ref p1], [(t, 0, 0)], [], [], G2, rfl, Same.refl _, rfl, by simp only [rectF, List.append_nil, List.nil_append], .cons ⟨p1, v, rfl, h2, dp_same s2 hv⟩ .nil, .nil, fun f hf => ?_, S3⟩, fun m σ H' h => ?_⟩
    · rw [List.mem_singleton.mp hf]
      exact self_pre t
    obtain ⟨y4, y5, y6, y7, y8, y9, y10, ws, fs, kp, dn, G3, rfl, s3, rfl, hall, hws, hkp, hfs, S4⟩ := h
    have al := congrArg List.length hall
    rw [List.length_append, rl] at al
    have kpl := prd_len hkp
    have wl := prd_len hws
    rw [List.length_reverse] at wl
    have fle := fs_le fs
    have s03 := s2.trans s3
    rcases nil_or_snoc ws with ew | ⟨wp, w0, ew⟩
    · subst ew
      refine ⟨!([] : List V).isEmpty, .inl ⟨_, SqL.of S4.hd, rfl⟩, (fun e => nomatch e), fun _ => ?_⟩
      have e0 : fs = [] := List.length_eq_zero_iff.mp wl.symm
      subst e0
      have e1 : dn = rects 0 0 t := by simpa [rectF] using hall
      rw [e1] at hkp
      have S5 := S4.drop
      exact q D kp _ _ (s03.trans S5.frzS) upd_same (prd_imp (fun _ _ => BxAt.same S5.frzS) hkp) S5.frz
    · subst ew
      have ne : (!(wp ++ [w0]).isEmpty) = true := by simp
      refine ⟨!(wp ++ [w0]).isEmpty, .inl ⟨_, SqL.of S4.hd, rfl⟩, fun _ => ?_, fun e => absurd (ne.symm.trans e) (by decide)⟩
      obtain ⟨fr, f0, efr, hwp, hw0⟩ := prd_unsnoc hws
      obtain ⟨ft, eft, etr⟩ := rev_cons efr
      subst eft
      obtain ⟨t0, x0, y0⟩ := f0
      obtain ⟨a1, nv, rfl, ha1, hnv⟩ := hw0
      obtain ⟨a0, kv, kus, rfl, ha0, hkv, hkus⟩ := node_at hnv
      have ht0 : t0 ∈ pre t := hfs _ List.mem_cons_self
      have S5 := S4.set (o' := .lst wp)
      refine ⟨.inl ⟨rfl, _, SqL.of S4.hd⟩, W, wp ++ [V.ref a1], .ref a1, rfl, rfl, S4.hd, by simp, ?_⟩
      rw [List.dropLast_concat]
      refine ⟨a1, _, rfl, SqT.of (S5.st ha1), rfl, _, _, rfl, _, _, rfl, _, _, rfl, rfl, ?_⟩
      obtain ⟨sv, hsv, as, rfl, has⟩ := hsz t0 ht0
      have has := s03 _ _ has
      have hsd3 := s03 _ _ hsd
      refine ⟨_, _, .inr (S5.t ha0), atI_nat (j := 0) rfl, sd, _, rfl, hsv ▸ DGet.k (k := Sum.inr (mrk t0)) (S5.st hsd3), ?_⟩
      refine ⟨as, _, rfl, SqT.of (S5.st has), rfl, _, _, rfl, _, _, rfl, rfl, ?_⟩
      refine ⟨sz, fun p6 np6 => ?_⟩
      obtain ⟨G6, s6, S6, h6⟩ := Sep.mk (o := .tup [.int x0, .int y0, .int (meas t0).1, .int (meas t0).2]) S5 np6
      have er : rectF ((t0, x0, y0) :: ft) = (mrk t0, (x0, y0, (meas t0).1, (meas t0).2)) :: (rectF (offs (decide (lbl t0 = "row")) x0 y0 (kids t0) ++ ft)) := by
        simp only [rectF, rects_eq, rectss_eq, rectF_app, List.cons_append]
      rw [er] at hall al fle
      rw [List.length_cons] at al fle wl
      have free : valV kp (Sum.inr (mrk t0)) = none := valV_none (by
        rw [prd_keys hkp]
        intro hm
        obtain ⟨r, hr1, hr2⟩ := List.mem_map.mp hm
        have e1 := rects_marks 0 0 t
        rw [← hall, List.map_append, List.map_cons] at e1
        rw [← e1, List.nodup_append] at nd
        exact nd.2.2 _ (List.mem_map_of_mem hr1) _ List.mem_cons_self (Sum.inr.inj hr2))
      refine ⟨_, _, .inr (S6.t (same_t s6 ha0)), atI_nat (j := 0) rfl, D, _, rfl, DPut.k (k := Sum.inr (mrk t0)) S6.sw.hd (smallL (by omega)), ?_⟩
      rw [putK_new free]
      have S7 := S6.sw.set (o' := .dK (kp ++ [(Sum.inr (mrk t0), V.ref p6)]))
      refine ⟨sz, fun Bn nB => ?_⟩
      have S8 := S7.new (o := .lst []) nB
      have s36 := s3.trans s6
      have kl := dpa_len hkus
      rw [List.length_map] at kl
      have kml := fs_le (offs (decide (lbl t0 = "row")) x0 y0 (kids t0) ++ ft)
      rw [List.length_append, offs_len] at kml
      refine ⟨_, _, .inr (S8.t (same_t s6 ha0)), atI_nat (j := 2) rfl, kv, rfl, ⟨kus, S8.t (same_t s6 hkv)⟩, for_tup (xs := kus) (fun j σ H' => ∃ (y10 : Option V) (bs : List V) (G' : Hp), σ = [some v, some (.ref sd), some (.ref D), some (.ref W), some (.ref a0), some (.int (cor (decide (lbl t0 = "row")) x0 y0 ((kids t0).take j)).1), some (.int (cor (decide (lbl t0 = "row")) x0 y0 ((kids t0).take j)).2), some (.int (meas t0).1), some (.int (meas t0).2), some (.ref Bn), y10] ∧
        Same G6 G' ∧ Paired (WtAt K G') bs (offs (decide (lbl t0 = "row")) x0 y0 ((kids t0).take j)) ∧ Sep G' ((Bn, .lst bs) :: (D, .dK (kp ++ [(Sum.inr (mrk t0), V.ref p6)])) :: (W, .lst wp) :: M) H') ⟨_, [], G6, rfl, Same.refl _, .nil, S8⟩ (fun j σ H' _ h => ?_) (fun j c σ H' hc h => ?_) (fun σ H' h => ?_)⟩
      · obtain ⟨_, _, G', _, s', _, S'⟩ := h
        exact S'.t (same_t (s6.trans s') hkv)
      · obtain ⟨y10, bs, G9, rfl, s9, hbs, S9⟩ := h
        obtain ⟨d, hd, hcd⟩ := dpa_get hkus hc
        obtain ⟨pc, hpc, rfl⟩ := map_get hd
        obtain ⟨ac, kvc, kusc, rfl, hac, _, _⟩ := node_at hcd
        have s39 := s6.trans s9
        have bl := prd_len hbs
        rw [offs_len, List.length_take] at bl
        refine ⟨.inl ⟨rfl, _, SqL.of S9.hd⟩, sz, fun p10 np10 => ?_⟩
        obtain ⟨G10, s10, S10, h10⟩ := Sep.mk (o := .tup [.ref ac, .int (cor (decide (lbl t0 = "row")) x0 y0 ((kids t0).take j)).1, .int (cor (decide (lbl t0 = "row")) x0 y0 ((kids t0).take j)).2]) S9 np10
        have s310 := s39.trans s10
        refine ⟨Bn, bs, _, rfl, rfl, S10.hd, smallL (by omega), ?_⟩
        have S11 := S10.set (o' := .lst (bs ++ [V.ref p10]))
        obtain ⟨svc, hsvc, asc, rfl, hasc⟩ := hsz pc (kid_pre ht0 (List.mem_of_getElem? hpc))
        have hasc := (s03.trans s310) _ _ hasc
        have hsdc := (s03.trans s310) _ _ hsd
        have hbs' : Paired (WtAt K G10) (bs ++ [V.ref p10]) (offs (decide (lbl t0 = "row")) x0 y0 ((kids t0).take (j + 1))) := by
          rw [take_snoc hpc, offs_cor]
          exact prd_app (prd_imp (fun _ _ => WtAt.same s10) hbs) (.cons ⟨p10, .ref ac, rfl, h10, dp_same s310 hcd⟩ .nil)
        refine ⟨_, _, .inr (S11.t (same_t s310 ha0)), atI_nat (j := 1) rfl, fun e => ?_, fun e => ?_⟩
        · refine ⟨_, _, .inr (S11.t (same_t s310 hac)), atI_nat (j := 0) rfl, sd, .ref asc, rfl, hsvc ▸ DGet.k (k := Sum.inr (mrk pc)) (S11.st hsdc), _, _, .inr (SqT.of (S11.st hasc)), atI_nat (j := 0) rfl, ?_⟩
          refine ⟨some (.ref ac), _, G10, ?_, s9.trans s10, hbs', S11⟩
          rw [take_snoc hpc, cor_snoc, e] <;> rfl
        · refine ⟨_, _, .inr (S11.t (same_t s310 hac)), atI_nat (j := 0) rfl, sd, .ref asc, rfl, hsvc ▸ DGet.k (k := Sum.inr (mrk pc)) (S11.st hsdc), _, _, .inr (SqT.of (S11.st hasc)), atI_nat (j := 1) rfl, ?_⟩
          refine ⟨some (.ref ac), _, G10, ?_, s9.trans s10, hbs', S11⟩
          rw [take_snoc hpc, cor_snoc, e] <;> rfl
      · obtain ⟨y10, bs, G9, rfl, s9, hbs, S9⟩ := h
        rw [kl, List.take_length] at hbs
        have bl : bs.length = (kids t0).length := by rw [prd_len hbs, offs_len]
        have SW := S9.perm (List.perm_append_comm_assoc [_, _] [_] _)
        refine ⟨.inl ⟨rfl, _, SqL.of SW.hd⟩, Bn, bs, rfl, SqL.of S9.hd, fun p11 np11 => ?_⟩
        have S10 := SW.new (o := .lst bs.reverse) np11
        have wl' : wp.length = ft.length := by
          have := prd_len hwp
          rw [← etr, List.length_reverse] at this
          exact this
        refine ⟨W, p11, wp, bs.reverse, rfl, rfl, S10.sw.hd, S10.hd, small (by rw [List.length_reverse, bl]; omega), ?_⟩
        have S11 := S10.sw.set (o' := .lst (wp ++ bs.reverse))
        have S12 := (S11.sw.drop).sw.drop.sw
        refine ⟨(rectF (offs (decide (lbl t0 = "row")) x0 y0 (kids t0) ++ ft)).length, by rw [er, List.length_cons]; omega, _, _, _, _, _, _, _, wp ++ bs.reverse, offs (decide (lbl t0 = "row")) x0 y0 (kids t0) ++ ft, kp ++ [(Sum.inr (mrk t0), V.ref p6)], dn ++ [(mrk t0, (x0, y0, (meas t0).1, (meas t0).2))], G9, rfl, s3.trans (s6.trans s9), rfl, ?_, ?_, ?_, ?_, S12.sw⟩
        · rw [List.append_assoc]
          exact hall
        · rw [List.reverse_append, etr]
          exact prd_app (prd_imp (fun _ _ => WtAt.same (s6.trans s9)) hwp) (prd_rev hbs)
        · exact prd_app (prd_imp (fun _ _ => BxAt.same (s6.trans s9)) hkp) (.cons ⟨rfl, p6, rfl, s9 _ _ h6⟩ .nil)
        · intro f hf
          rcases List.mem_append.mp hf with h | h
          · exact kid_pre ht0 (offs_mem _ h)
          · exact hfs f (List.mem_cons_of_mem _ h)

end
end K18
set_option Elab.async false
set_option linter.all false
set_option maxRecDepth 100000
set_option maxHeartbeats 4000000
namespace K18
open PySem PySem.Spec PyProof.Rows L2 XL
section
variable {P : Program} {w : World} {K : PySem.W.Frag} {mg : Str → Option Value} {base : Heap}
/-! ### Laid -/
def SzAt (G : Hp) (kv : Key × V) (p : Tr) : Prop := kv.1 = Sum.inr (mrk p) ∧ Pr G kv.2 (meas p)
theorem SzAt.same {G G' : Hp} (e : Same G G') {kv : Key × V} {p : Tr} (h : SzAt G kv p) : SzAt G' kv p := ⟨h.1, h.2.same e⟩
theorem sz_keys {G : Hp} : ∀ {ks : List (Key × V)} {ps : List Tr}, Paired (SzAt G) ks ps → ks.map (·.1) = ps.map fun p => (Sum.inr (mrk p) : Key)
  | _, _, .nil => rfl
  | _, _, .cons h t => by rw [List.map_cons, List.map_cons, h.1, sz_keys t]
theorem sz_val {G : Hp} {p : Tr} : ∀ {ks : List (Key × V)} {ps : List Tr}, Paired (SzAt G) ks ps → (ps.map mrk).Nodup → p ∈ ps → ∃ v, valV ks (Sum.inr (mrk p)) = some v ∧ Pr G v (meas p)
  | _, _, .nil, _, h => nomatch h
  | (k, v) :: ks, q :: ps, .cons h t, nd, hp => by
    rw [List.map_cons, List.nodup_cons] at nd
    rcases List.mem_cons.mp hp with rfl | hp
    · have e : k = Sum.inr (mrk p) := h.1
      rw [e]
      exact ⟨v, valV_pos rfl, h.2⟩
    · obtain ⟨u, h1, h2⟩ := sz_val t nd.2 hp
      refine ⟨u, ?_, h2⟩
      rw [valV_neg (fun e => nd.1 ?_)]
      · exact h1
      · have e2 : (Sum.inr (mrk q) : Key) = Sum.inr (mrk p) := h.1.symm.trans e
        rw [Sum.inr.inj e2]
        exact List.mem_map_of_mem hp
def pairD (l : Str) (zs : List (Int × Int)) : PyData := .tuple [.str l, .tuple (zs.map fun z => .tuple [.int z.1, .int z.2])]
structure LdAt (K : PySem.W.Frag) (C CP : Addr) (G : Hp) (p : Addr) (t : Tr) : Prop where
  ex : ∃ (dx pg PD SD PL ML : Addr) (kpr ksz kpl : List (Key × V)), G p = some (.ins C dx [("kept_page", .ref pg), ("pairs", .ref PD), ("sizes", .ref SD), ("places", .ref PL), ("marks", .ref ML)]) ∧ PgAt K CP G pg t ∧ G PD = some (.dK kpr) ∧
    G SD = some (.dK ksz) ∧ SzOk G ksz t ∧ G PL = some (.dK kpl) ∧ Paired (BxAt G) kpl (rects 0 0 t) ∧ G ML = some (.lst (((pre t).map mrk).map V.str))
theorem SzOk.same {G G' : Hp} {ks : List (Key × V)} {t : Tr} (e : Same G G') (h : SzOk G ks t) : SzOk G' ks t := fun p hp => by
  obtain ⟨v, h1, h2⟩ := h p hp
  exact ⟨v, h1, h2.same e⟩
theorem LdAt.same {K : PySem.W.Frag} {C CP : Addr} {G G' : Hp} {p : Addr} {t : Tr} (e : Same G G') (h : LdAt K C CP G p t) : LdAt K C CP G' p t := by
  obtain ⟨dx, pg, PD, SD, PL, ML, kpr, ksz, kpl, h1, h2, h3, h4, h5, h6, h7, h8⟩ := h.ex
  exact ⟨dx, pg, PD, SD, PL, ML, kpr, ksz, kpl, e _ _ h1, h2.same e, e _ _ h3, e _ _ h4, h5.same e, e _ _ h6, prd_imp (fun _ _ => BxAt.same e) h7, e _ _ h8⟩
def spAgain (K : PySem.W.Frag) (C CP : Addr) : Sp := fun vs H Q _ => ∃ (G : Hp) (M : List (Addr × HO)) (x dx pg P0 S0 L0 K0 : Addr) (t : Tr), vs = [.ref x, .ref pg] ∧
  Sep G ((x, .ins C dx [("kept_page", .ref pg), ("pairs", .ref P0), ("sizes", .ref S0), ("places", .ref L0), ("marks", .ref K0)]) :: M) H ∧ G P0 = some (.dK []) ∧ PgAt K CP G pg t ∧ ((pre t).map mrk).Nodup ∧ (pre t).length ≤ 400 ∧ (∀ p ∈ pre t, (lbl p).length ≤ 100 ∧ (PyData.str (lbl p)).canLay0 = true) ∧
  ∀ (v : V) (G' H' : Hp), Same G G' → LdAt K C CP G' x t → Sep G' M H' → Q v H'
theorem prs_dp {K : PySem.W.Frag} {G : Hp} : ∀ {vs : List V} {zs : List (Int × Int)}, Paired (Pr G) vs zs → DpAll K G vs (zs.map fun z => .tuple [.int z.1, .int z.2])
  | _, _, .nil => .nil
  | _, _, .cons h t => by
    obtain ⟨a, h1, h2⟩ := h
    rw [h1]
    exact .cons (.tup (SqT.of h2) (.cons (.int _) (.cons (.int _) .nil))) (prs_dp t)
theorem pair_sh {l : Str} (hl : (PyData.str l).canLay0 = true) (zs : List (Int × Int)) : SeqAt.shaped (pairD l zs) = true := by
  have h1 : PyData.canLayAll0 (zs.map fun z => PyData.tuple [.int z.1, .int z.2]) = true := by
    induction zs with
    | nil => simp only [List.map_nil, PyData.canLayAll0]
    | cons z zs ih => simp only [List.map_cons, PyData.canLayAll0, PyData.canLay0, ih, Bool.and_self]
  have h2 : PyData.depthAll (zs.map fun z => PyData.tuple [.int z.1, .int z.2]) ≤ 1 := by
    induction zs with
    | nil => simp only [List.map_nil, PyData.depthAll]; omega
    | cons z zs ih =>
      have e : (PyData.tuple [.int z.1, .int z.2]).depth ≤ 1 := by simp [PyData.depth, PyData.depthAll]
      have ih' := ih (by
        simp only [List.map_cons, PyData.canLayAll0, Bool.and_eq_true] at h1
        exact h1.2)
      simp only [List.map_cons, PyData.depthAll]
      omega
  unfold SeqAt.shaped pairD
  have c : (PyData.tuple [PyData.str l, .tuple (zs.map fun z => .tuple [.int z.1, .int z.2])]).canLay0 = true := by
    simp only [PyData.canLay0] at hl
    simp only [PyData.canLay0, PyData.canLayAll0, h1, hl, Bool.and_self]
  have d : (PyData.tuple [PyData.str l, .tuple (zs.map fun z => .tuple [.int z.1, .int z.2])]).depth ≤ 64 := by
    simp only [PyData.depth, PyData.depthAll]
    omega
  rw [c, decide_eq_true d]
  rfl
theorem ok_Laid_measure_again (T : Top K mg w) (G_from_below : FnOk P w K mg base CX0 1 T.a_from_below T.d_from_below ["root"] (spBelow K)) (G_Page_top : FnOk P w K mg base CX0 1 T.a_Page_top T.d_Page_top ["self"] (spTop K T.C_Page))
    (G_measure : FnOk P w K mg base CX0 1 T.a_measure T.d_measure ["label", "sizes"] (spMeasure K)) (G_rectangles : FnOk P w K mg base CX0 1 T.a_rectangles T.d_rectangles ["root", "sizes"] (spRect K)) :
    FnOk P w K mg base CX0 3 T.a_Laid_measure_again T.d_Laid_measure_again ["self", "page"] (spAgain K T.C_Laid T.C_Page) := by
  refine T.F_Laid_measure_again.ok sc_Laid_measure_again (fun vs H Q E h => ?_) (fun cdv A outer s H vs Q E hr h => ?_)
  · obtain ⟨G, M, x, dx, pg, P0, S0, L0, K0, t, rfl, _⟩ := h
    rfl
  · obtain ⟨G, M, x, dx, pg, P0, S0, L0, K0, t, rfl, S, hP0, hpg, nd, pl, hlb, q⟩ := h
    refine ⟨_, (pss_cons (ps_set (i := 2) sc_Laid_measure_again.nd rfl (.inl rfl) pe_dnewK)
      (pss_cons (ps_set (i := 3) sc_Laid_measure_again.nd rfl (.inr rfl) pe_dnewK)
      (pss_cons (ps_set (i := 4) sc_Laid_measure_again.nd rfl (.inl rfl) (pe_lst pa_nil))
      (pss_cons (ps_for PassesOwn.never rfl (pi_listK K (pe_call G_from_below (hr.mono (by omega)) (by rfl) T.g_from_below T.F_from_below.kp T.b_from_below .nil pass0 (pa_cons (pe_prop (xv 1) T.cl_Page T.pr_Page_top G_Page_top (hr.mono (by omega)) T.b_Page_top .nil pass0 rfl) pa_nil))) (pg_tupK K 3 (pgs_cons (pg_name (i := 5) sc_Laid_measure_again.nd rfl (.inl rfl)) (pgs_cons (pg_name (i := 6) sc_Laid_measure_again.nd rfl (.inl rfl)) (pgs_cons (pg_name (i := 7) sc_Laid_measure_again.nd rfl (.inl rfl)) pgs_nil))))
      (pss_cons (ps_set (i := 8) sc_Laid_measure_again.nd rfl (.inl rfl) (pe_tup (pa_cons (xv 6) (pa_cons (pe_callTy (call_tupleK K) (by rfl) T.m_tuple (by decide +kernel) (pa_cons (pe_lc (own := [("child", 9)]) (by rfl) sc_Laid_measure_again.nd (pi_tupK K (xv 7)) (blkOk_by (N := ["self", "page", "pairs", "sizes", "measured", "mark", "label", "children", "pair", "child"]) (sc := defScope s_Laid_measure_again) (by decide +kernel)) (fun _ _ _ _ _ => (pg_name (i := 9) sc_Laid_measure_again.nd rfl (.inl rfl))) (fun _ _ _ _ _ => pts_nil) (fun _ _ _ _ _ => (pe_dget (hu_of hr) (xv 3) (pe_ix (ix_k K) (xv 9) pe_int (fun _ _ => rfl)) (fun _ _ => rfl)))) pa_nil)) pa_nil))))
      (pss_cons (ps_dput (hu_of hr) (xv 2) (xv 5) (xv 8) rfl)
      (pss_one (xs_if (xt_cmp (op_eqD hr.units) (pe_dget1 (hu_of hr) (pe_fldK K (xv 0)) (xv 5) ⟨by rfl, by rfl, by rfl, by rfl⟩) (xv 8) (nomark _))
      (pss_one (ps_dput (hu_of hr) (xv 3) (xv 5) (pe_dget (hu_of hr) (pe_fldK K (xv 0)) (xv 5) (fun _ _ => rfl)) rfl))
      (pss_cons (ps_dput (hu_of hr) (xv 3) (xv 5) (pe_call G_measure (hr.mono (by omega)) (by rfl) T.g_measure T.F_measure.kp T.b_measure .nil pass0 (pa_cons (xv 6) (pa_cons (pe_ix (ix_k K) (xv 8) pe_int (fun _ _ => rfl)) pa_nil))) rfl)
      (pss_one (ps_expr (pe_bmK K PySem.F.plainAttrs_list PySem.F.slot_list_append PySem.F.type_list_append mt_append (xv 4) (pa_cons (xv 5) pa_nil))))))))))
      (pss_cons (ps_fld (xv 0) (xv 1) rfl)
      (pss_cons (ps_fld (xv 0) (xv 2) rfl)
      (pss_cons (ps_fld (xv 0) (xv 3) rfl)
      (pss_cons (ps_fld (xv 0) (pe_call G_rectangles (hr.mono (by omega)) (by rfl) T.g_rectangles T.F_rectangles.kp T.b_rectangles .nil pass0 (pa_cons (pe_prop (xv 1) T.cl_Page T.pr_Page_top G_Page_top (hr.mono (by omega)) T.b_Page_top .nil pass0 rfl) (pa_cons (xv 3) pa_nil))) rfl)
      (pss_cons (ps_fld (xv 0) (pe_callTy (call_list_dK rfl) (by rfl) T.m_list (by decide +kernel) (pa_cons (pe_fldK K (xv 0)) pa_nil)) rfl)
      (pss_one (ps_ret (pe_callTy (call_tupleK K) (by rfl) T.m_tuple (by decide +kernel) (pa_cons (xv 4) pa_nil))))))))))))), ?_⟩
    obtain ⟨dxp, Np, Ap, Op, vp, usp, ka, kn, hp1, hp2, _⟩ := hpg.ex
    refine fun PR nPR => ?_
    have S1 := S.new (o := .dK []) nPR
    refine fun SZ nSZ => ?_
    have S2 := S1.new (o := .dK []) nSZ
    refine ⟨sz, fun ME nME => ?_⟩
    have S3 := S2.new (o := .lst []) nME
    have ppm := post_perm t
    have ppl := ppm.length_eq
    have ndp : ((post t).map mrk).Nodup := (ppm.map mrk).nodup_iff.mpr nd
    refine ⟨pg, _, _, rfl, S3.st hp1, G, pg, t, rfl, S3.1, hpg, fun v hv => ?_⟩
    refine ⟨G, _, v, t, rfl, S3, hv, by omega, fun D us G1 H1 s1 hD hus S4 => ?_⟩
    have ul := dpa_len hus
    rw [List.length_map] at ul
    refine ⟨D, rfl, ⟨us, SqL.of (S4.st hD)⟩, for_list (xs := us) (fun i σ H' => ∃ (y5 y6 y7 y8 y9 : Option V) (kp ks : List (Key × V)) (ms : List V) (G' : Hp), σ = [some (.ref x), some (.ref pg), some (.ref PR), some (.ref SZ), some (.ref ME), y5, y6, y7, y8, y9] ∧
      Same G1 G' ∧ kp.length ≤ i ∧ ms.length ≤ i ∧ Paired (SzAt G') ks ((post t).take i) ∧
      Sep G' ((ME, .lst ms) :: (SZ, .dK ks) :: (PR, .dK kp) :: (x, .ins T.C_Laid dx [("kept_page", .ref pg), ("pairs", .ref P0), ("sizes", .ref S0), ("places", .ref L0), ("marks", .ref K0)]) :: M) H')
      ⟨_, _, _, _, _, [], [], [], G1, rfl, Same.refl _, Nat.le_refl _, Nat.le_refl _, .nil, S4⟩ (fun i σ H' _ h => ?_) (fun i u σ H' hu h => ?_) (fun σ H' h => ?_)⟩
    · obtain ⟨_, _, _, _, _, _, _, _, G', _, s', _, _, _, S'⟩ := h
      exact SqL.of (S'.st (s' _ _ hD))
    · obtain ⟨y5, y6, y7, y8, y9, kp, ks, ms, G5, rfl, s5, kpl, msl, hks, S5⟩ := h
      obtain ⟨d, hd, hud⟩ := dpa_get hus hu
      obtain ⟨p, hp, rfl⟩ := map_get hd
      obtain ⟨a, kv, kus, rfl, ha, hkv, hkus⟩ := node_at hud
      have il := (List.getElem?_eq_some_iff.mp hp).1
      have hpm : p ∈ pre t := ppm.mem_iff.mp (List.mem_of_getElem? hp)
      have kl := dpa_len hkus
      rw [List.length_map] at kl
      have kml := many_le (kids p)
      have kcl : (pres (kids p)).length ≤ (pre t).length := sub_len hpm
      have ksl := prd_len hks
      rw [List.length_take] at ksl
      obtain ⟨rr, hrr⟩ := take_post (hgt t) t (Nat.le_refl _) i p hp
      have e1 : (post t).map mrk = ((post t).take i).map mrk ++ mrk p :: ((post t).drop (i + 1)).map mrk := by
        conv => lhs; rw [(take_pre hp).1]
        rw [List.map_append, List.map_cons]
      have ndt : (((post t).take i).map mrk).Nodup := by
        rw [e1, List.nodup_append] at ndp
        exact ndp.1
      refine ⟨a, _, rfl, S5.t (same_t s5 ha), rfl, _, _, rfl, _, _, rfl, _, _, rfl, rfl, ?_⟩
      refine ⟨kv, rfl, ⟨kus, S5.t (same_t s5 hkv)⟩, fun L nL => lc_tup (xs := kus) (fun j H2 => ∃ (ws : List V), Paired (Pr G5) ws (((kids p).map meas).take j) ∧ ws.length = j ∧ Sep G5 ((L, .lst ws) :: (ME, .lst ms) :: (SZ, .dK ks) :: (PR, .dK kp) :: (x, .ins T.C_Laid dx [("kept_page", .ref pg), ("pairs", .ref P0), ("sizes", .ref S0), ("places", .ref L0), ("marks", .ref K0)]) :: M) H2)
        ⟨[], .nil, rfl, S5.new nL⟩ (fun j H2 _ p' => ?_) (fun j y H2 hy p' => ?_) (fun H2 p' => ?_)⟩
      · obtain ⟨ws, _, _, S'⟩ := p'
        exact S'.t (same_t s5 hkv)
      · obtain ⟨ws, hws, wl, S'⟩ := p'
        obtain ⟨d, hd, hyd⟩ := dpa_get hkus hy
        obtain ⟨c, hc, rfl⟩ := map_get hd
        obtain ⟨ac, kvc, kusc, rfl, hac, _, _⟩ := node_at hyd
        have jl := (List.getElem?_eq_some_iff.mp hc).1
        obtain ⟨sv, hsv, hpr⟩ := sz_val hks ndt (p := c) (by rw [hrr]; exact List.mem_append_right _ (kid_posts (List.mem_of_getElem? hc)))
        have SS := S'.perm (List.perm_append_comm_assoc [_, _] [_] _)
        refine ⟨rfl, _, _, .inr (S'.t (same_t s5 hac)), atI_nat (j := 0) rfl, SZ, sv, rfl, hsv ▸ DGet.k (k := Sum.inr (mrk c)) SS.hd, ws, S'.hd, smallL (by omega), ws ++ [sv], ?_, by rw [List.length_append, wl]; rfl, S'.set⟩
        rw [take_snoc (show ((kids p).map meas)[j]? = some (meas c) by rw [List.getElem?_map, hc]; rfl)]
        exact prd_app hws (.cons hpr .nil)
      · obtain ⟨ws, hws, wl, S'⟩ := p'
        rw [List.take_of_length_le (by rw [List.length_map]; omega)] at hws
        refine ⟨L, ws, rfl, .inl ⟨SqL.of S'.hd, fun tp ntp => ?_⟩⟩
        obtain ⟨G6, s6, S6, h6⟩ := Sep.mk (o := .tup ws) S' ntp
        refine ⟨sz, fun pp npp => ?_⟩
        obtain ⟨G7, s7, S7, h7⟩ := Sep.mk (o := .tup [.str (lbl p), .ref tp]) S6 npp
        have S8 := S7.drop
        have SPR := S8.perm (List.perm_append_comm_assoc [_, _] [_] _)
        refine ⟨PR, _, rfl, DPut.k (k := Sum.inr (mrk p)) SPR.hd (smallL (by omega)), ?_⟩
        have S9 := SPR.set (o' := .dK (putK kp (Sum.inr (mrk p)) (.ref pp)))
        have SX := S9.perm (List.perm_append_comm_assoc [_, _, _] [_] _)
        have s17 := s5.trans (s6.trans s7)
        have hws7 := prd_imp (fun _ _ => Pr.same (s6.trans s7)) hws
        refine ⟨x, T.C_Laid, dx, _, _, rfl, SX.hd, T.cl_Laid, T.na_Laid_pairs, (by rw [lk_ne, lk_eq]), P0, rfl, .inl ⟨[], .inl (SX.st (s17 _ _ (s1 _ _ hP0)))⟩, none, DGet.k (k := Sum.inr (mrk p)) (SX.st (s17 _ _ (s1 _ _ hP0))), .none, pairD (lbl p) ((kids p).map meas), .non, dp_same SX.1 (.tup (SqT.of h7) (.cons (.str _) (.cons (.tup (SqT.of (s7 _ _ h6)) (prs_dp hws7)) .nil))), rfl, pair_sh (hlb p hpm).2 _, fun e => ?_, fun _ => ?_⟩
        · simp [PyData.eqv, pairD] at e
        refine ⟨_, _, .inr (SqT.of (S9.st h7)), atI_nat (j := 1) rfl, G7, _, lbl p, tp, ws, (kids p).map meas, rfl, S9, (hlb p hpm).1, s7 _ _ h6, hws7, fun v8 G8 H8 hv8 s8 S10 => ?_⟩
        rw [← meas_eq] at hv8
        have SZ2 := S10.perm (List.perm_append_comm_assoc [_, _] [_] _)
        have free : valV ks (Sum.inr (mrk p)) = none := valV_none (by
          rw [sz_keys hks]
          intro hm
          obtain ⟨r, hr1, hr2⟩ := List.mem_map.mp hm
          rw [e1, List.nodup_append] at ndp
          exact ndp.2.2 _ (List.mem_map_of_mem hr1) _ List.mem_cons_self (Sum.inr.inj hr2))
        refine ⟨SZ, _, rfl, DPut.k (k := Sum.inr (mrk p)) SZ2.hd (smallL (by omega)), ?_⟩
        rw [putK_new free]
        have S11 := SZ2.set (o' := .dK (ks ++ [(Sum.inr (mrk p), v8)]))
        have SM := S11.perm (List.perm_append_comm_assoc [_, _] [_] _)
        refine ⟨.inl ⟨rfl, _, SqL.of SM.hd⟩, ME, ms, _, rfl, rfl, SM.hd, smallL (by omega), ?_⟩
        refine ⟨_, _, _, _, _, _, _, _, G8, rfl, s17.trans s8, Nat.le_trans (putK_len _ _ _) (by omega), by rw [List.length_append, List.length_singleton]; omega, ?_, SM.set⟩
        rw [take_snoc hp]
        exact prd_app (prd_imp (fun _ _ => SzAt.same ((s6.trans s7).trans s8)) hks) (.cons ⟨rfl, hv8⟩ .nil)
    · obtain ⟨y5, y6, y7, y8, y9, kp, ks, ms, G5, rfl, s5, kpl, msl, hks, S5⟩ := h
      rw [ul, List.take_length] at hks
      obtain ⟨Ga, sa, Sa, ea⟩ := Sep.keep S5
      obtain ⟨Gb, sb, Sb, eb⟩ := Sep.keep Sa
      obtain ⟨Gc, sc, Sc, ec⟩ := Sep.keep Sb
      have s5c := s5.trans (sa.trans (sb.trans sc))
      have sGc := s1.trans s5c
      refine ⟨x, T.C_Laid, dx, _, rfl, Sc.hd, T.cl_Laid, T.na_Laid_kept_page, by simp, ?_⟩
      rw [putF_eq]
      have X1 := Sc.set (o' := .ins T.C_Laid dx [("kept_page", .ref pg), ("pairs", .ref P0), ("sizes", .ref S0), ("places", .ref L0), ("marks", .ref K0)])
      refine ⟨x, T.C_Laid, dx, _, rfl, X1.hd, T.cl_Laid, T.na_Laid_pairs, by simp, ?_⟩
      rw [putF_ne, putF_eq]
      have X2 := X1.set (o' := .ins T.C_Laid dx [("kept_page", .ref pg), ("pairs", .ref PR), ("sizes", .ref S0), ("places", .ref L0), ("marks", .ref K0)])
      refine ⟨x, T.C_Laid, dx, _, rfl, X2.hd, T.cl_Laid, T.na_Laid_sizes, by simp, ?_⟩
      rw [putF_ne, putF_ne, putF_eq]
      have X3 := X2.set (o' := .ins T.C_Laid dx [("kept_page", .ref pg), ("pairs", .ref PR), ("sizes", .ref SZ), ("places", .ref L0), ("marks", .ref K0)])
      have hks' : Paired (SzAt Gc) ks (post t) := prd_imp (fun _ _ => SzAt.same (sa.trans (sb.trans sc))) hks
      have szok : SzOk Gc ks t := fun p hp => sz_val hks' ndp (ppm.mem_iff.mpr hp)
      have hpgc := hpg.same sGc
      refine ⟨pg, _, _, rfl, X3.st (sGc _ _ hp1), Gc, pg, t, rfl, X3.1, hpgc, fun v2 hv2 => ?_⟩
      refine ⟨Gc, _, v2, t, SZ, ks, rfl, X3, hv2, sc _ _ eb, szok, nd, pl, fun PL kpl G8 H8 s8 hPL hkpl X4 => ?_⟩
      refine ⟨x, T.C_Laid, dx, _, rfl, X4.hd, T.cl_Laid, T.na_Laid_places, by simp, ?_⟩
      rw [putF_ne, putF_ne, putF_ne, putF_eq]
      have X5 := X4.set (o' := .ins T.C_Laid dx [("kept_page", .ref pg), ("pairs", .ref PR), ("sizes", .ref SZ), ("places", .ref PL), ("marks", .ref K0)])
      refine ⟨x, T.C_Laid, dx, _, _, rfl, X5.hd, T.cl_Laid, T.na_Laid_places, (by rw [lk_ne, lk_ne, lk_ne, lk_eq]), PL, kpl, rfl, X5.st hPL, fun ML nML => ?_⟩
      have keys : kpl.map (fun kv => kV kv.1) = ((pre t).map mrk).map V.str := by
        rw [← rects_marks 0 0 t, List.map_map]
        have := congrArg (List.map kV) (prd_keys hkpl)
        rw [List.map_map, List.map_map] at this
        exact this
      rw [keys]
      obtain ⟨G9, s9, X6, h9⟩ := Sep.mk (o := .lst (((pre t).map mrk).map V.str)) X5 nML
      refine ⟨x, T.C_Laid, dx, _, rfl, X6.hd, T.cl_Laid, T.na_Laid_marks, by simp, ?_⟩
      rw [putF_ne, putF_ne, putF_ne, putF_ne, putF_eq]
      have X7 := X6.set (o' := .ins T.C_Laid dx [("kept_page", .ref pg), ("pairs", .ref PR), ("sizes", .ref SZ), ("places", .ref PL), ("marks", .ref ML)])
      have sC9 := s8.trans s9
      refine ⟨ME, ms, rfl, .inl ⟨SqL.of (X7.st (sC9 _ _ (sc _ _ (sb _ _ ea)))), fun rt nrt => ?_⟩⟩
      obtain ⟨Gd, sd, Sd, ed⟩ := Sep.mk (o := .tup ms) X7 nrt
      obtain ⟨Ge, se, Se, ee⟩ := Sep.keep Sd
      have s9e := sd.trans se
      have sCe := sC9.trans s9e
      exact q _ Ge _ (sGc.trans sCe) ⟨dx, pg, PR, SZ, PL, ML, kp, ks, kpl, ee, hpgc.same sCe, sCe _ _ ec, sCe _ _ (sc _ _ eb), szok.same sCe, (s9.trans s9e) _ _ hPL, prd_imp (fun _ _ => BxAt.same (s9.trans s9e)) hkpl, s9e _ _ h9⟩ Se

end
end K18
set_option Elab.async false
set_option linter.all false
set_option maxRecDepth 100000
set_option maxHeartbeats 4000000
namespace K18
open PySem PySem.Spec PyProof.Rows L2 XL
section
variable {P : Program} {w : World} {K : PySem.W.Frag} {mg : Str → Option Value} {base : Heap}
def spLd (K : PySem.W.Frag) (C CP : Addr) : Sp := fun vs H Q _ => ∃ (G : Hp) (M : List (Addr × HO)) (x dx pg : Addr) (t : Tr), vs = [.ref x, .ref pg] ∧ Sep G ((x, .ins C dx []) :: M) H ∧ PgAt K CP G pg t ∧ ((pre t).map mrk).Nodup ∧ (pre t).length ≤ 400 ∧ (∀ p ∈ pre t, (lbl p).length ≤ 100 ∧ (PyData.str (lbl p)).canLay0 = true) ∧
  ∀ (G' H' : Hp), Same G G' → LdAt K C CP G' x t → Sep G' M H' → Q .non H'
theorem ok_Laid_init (T : Top K mg w) (G_Laid_measure_again : FnOk P w K mg base CX0 3 T.a_Laid_measure_again T.d_Laid_measure_again ["self", "page"] (spAgain K T.C_Laid T.C_Page)) :
    FnOk P w K mg base CX0 5 T.a_Laid_init T.d_Laid_init ["self", "page"] (spLd K T.C_Laid T.C_Page) := by
  refine T.F_Laid_init.ok sc_Laid_init (fun vs H Q E h => ?_) (fun cdv A outer s H vs Q E hr h => ?_)
  · obtain ⟨G, M, x, dx, pg, t, rfl, _⟩ := h
    rfl
  · obtain ⟨G, M, x, dx, pg, t, rfl, S, hpg, nd, pl, hlb, q⟩ := h
    refine ⟨_, (pss_cons (ps_fld (xv 0) (xv 1) rfl)
      (pss_cons (ps_fld (xv 0) pe_dnewK rfl)
      (pss_cons (ps_fld (xv 0) pe_dnewK rfl)
      (pss_cons (ps_fld (xv 0) pe_dnewK rfl)
      (pss_cons (ps_fld (xv 0) (pe_lst pa_nil) rfl)
      (pss_one (ps_expr (pe_meth (xv 0) T.cl_Laid T.me_Laid_measure_again G_Laid_measure_again (hr.mono (by omega)) T.b_Laid_measure_again .nil pass0 (pa_cons (xv 1) pa_nil))))))))), ?_⟩
    refine ⟨x, T.C_Laid, dx, _, rfl, S.hd, T.cl_Laid, T.na_Laid_kept_page, by simp, ?_⟩
    rw [putF_nil]
    have X1 := S.set (o' := .ins T.C_Laid dx [("kept_page", .ref pg)])
    refine fun P0 nP => ?_
    obtain ⟨G1, s1, X2, h1⟩ := Sep.mk (o := .dK []) X1 nP
    refine ⟨x, T.C_Laid, dx, _, rfl, X2.hd, T.cl_Laid, T.na_Laid_pairs, by simp, ?_⟩
    rw [putF_ne, putF_nil]
    have X3 := X2.set (o' := .ins T.C_Laid dx [("kept_page", .ref pg), ("pairs", .ref P0)])
    refine fun S0 nS => ?_
    obtain ⟨G2, s2, X4, _⟩ := Sep.mk (o := .dK []) X3 nS
    refine ⟨x, T.C_Laid, dx, _, rfl, X4.hd, T.cl_Laid, T.na_Laid_sizes, by simp, ?_⟩
    rw [putF_ne, putF_ne, putF_nil]
    have X5 := X4.set (o' := .ins T.C_Laid dx [("kept_page", .ref pg), ("pairs", .ref P0), ("sizes", .ref S0)])
    refine fun L0 nL => ?_
    obtain ⟨G3, s3, X6, _⟩ := Sep.mk (o := .dK []) X5 nL
    refine ⟨x, T.C_Laid, dx, _, rfl, X6.hd, T.cl_Laid, T.na_Laid_places, by simp, ?_⟩
    rw [putF_ne, putF_ne, putF_ne, putF_nil]
    have X7 := X6.set (o' := .ins T.C_Laid dx [("kept_page", .ref pg), ("pairs", .ref P0), ("sizes", .ref S0), ("places", .ref L0)])
    refine ⟨sz, fun K0 nK => ?_⟩
    obtain ⟨G4, s4, X8, _⟩ := Sep.mk (o := .lst []) X7 nK
    refine ⟨x, T.C_Laid, dx, _, rfl, X8.hd, T.cl_Laid, T.na_Laid_marks, by simp, ?_⟩
    rw [putF_ne, putF_ne, putF_ne, putF_ne, putF_nil]
    have X9 := X8.set (o' := .ins T.C_Laid dx [("kept_page", .ref pg), ("pairs", .ref P0), ("sizes", .ref S0), ("places", .ref L0), ("marks", .ref K0)])
    have s24 := s2.trans (s3.trans s4)
    refine ⟨x, dx, _, rfl, X9.hd, (by rw [lk_ne, lk_ne, lk_ne, lk_ne, lk_ne]; rfl), G4, M, x, dx, pg, P0, S0, L0, K0, t, rfl, X9, s24 _ _ h1, hpg.same (s1.trans s24), nd, pl, hlb, fun v G' H' s' hl S' => ?_⟩
    exact q G' H' ((s1.trans s24).trans s') hl S'
/-- what a text must be to be told in an error -/
theorem repr_short {z : Str} {n : Nat} (h : ∀ c ∈ z.cps.toList, c < 128) (l : z.length ≤ n) (hn : n ≤ 1000) : (reprText z).length ≤ 100000 := by
  have := PySem.StrLaws.reprText_len z fun c hc => Nat.lt_trans (h c hc) (by decide)
  omega
theorem bx_val {G : Hp} {m : Str} {b : Bx} : ∀ {kp : List (Key × V)} {rs : List (Str × Bx)}, Paired (BxAt G) kp rs → (rs.map (·.1)).Nodup → (m, b) ∈ rs → ∃ a, valV kp (Sum.inr m) = some (.ref a) ∧ G a = some (.tup [.int b.1, .int b.2.1, .int b.2.2.1, .int b.2.2.2])
  | _, _, .nil, _, h => nomatch h
  | (k, v) :: ks, (m', b') :: ps, .cons h t, nd, hp => by
    rw [List.map_cons, List.nodup_cons] at nd
    have e : k = Sum.inr m' := h.1
    rcases List.mem_cons.mp hp with he | hp
    · cases he
      obtain ⟨_, a, h2, h3⟩ := h
      rw [e]
      exact ⟨a, by rw [valV_pos rfl]; exact congrArg some h2, h3⟩
    · obtain ⟨a, h1, h2⟩ := bx_val t nd.2 hp
      refine ⟨a, ?_, h2⟩
      rw [valV_neg (fun e3 => nd.1 ?_)]
      · exact h1
      · rw [e] at e3
        rw [Sum.inr.inj e3]
        exact List.mem_map_of_mem (f := (·.1)) hp
def spLdGet (K : PySem.W.Frag) (C CP Ce : Addr) : Sp := fun vs H Q E => ∃ (G : Hp) (x : Addr) (m : Str) (t : Tr), vs = [.ref x, .str m] ∧ Same G H ∧ LdAt K C CP G x t ∧ ((pre t).map mrk).Nodup ∧ (∀ c ∈ m.cps.toList, c < 128) ∧ m.length ≤ 1000 ∧
  (∀ (b : Bx) (a : Addr), (m, b) ∈ rects 0 0 t → G a = some (.tup [.int b.1, .int b.2.1, .int b.2.2.1, .int b.2.2.2]) → Q (.ref a) H) ∧
  (m ∉ (pre t).map mrk → ∀ dd, H dd = none → E (.ref Ce) (some dd) (upd H dd (.xd [("mark", .str m)])))
theorem ok_Laid_getitem (T : Top K mg w) (pf : PySem.XExc.PF P T.x_file) {k : Nat} : FnOk P w K mg base (L2.CX P w) (k + 2) T.a_Laid_getitem T.d_Laid_getitem ["self", "mark"] (spLdGet K T.C_Laid T.C_Page T.C_NoNode) := by
  refine T.F_Laid_getitem.okX sc_Laid_getitem (fun vs H Q E h => ?_) (fun cdv A outer s H vs Q E hr h => ?_)
  · obtain ⟨G, x, m, t, rfl, _⟩ := h
    rfl
  · obtain ⟨G, x, m, t, rfl, s0, hl, nd, hch, hlen, q, qe⟩ := h
    obtain ⟨dx, pg, PD, SD, PL, ML, kpr, ksz, kpl, h1, h2, h3, h4, h5, h6, h7, h8⟩ := hl.ex
    have hx := s0 _ _ h1
    refine ⟨_, (pss_cons (xs_if (pt_cmp (pc_dnotin (hu_of hr) (xv 1) (pe_fldK K (xv 0))))
      (pss_one (ps_raiseX (k := 0) rfl (T.x_NoNode P pf) (hr.mono (by omega)) (takes_of rfl rfl rfl rfl) (pa_cons (xv 1) pa_nil)))
      pss_nil)
      (pss_one (ps_ret (pe_dget (hu_of hr) (pe_fldK K (xv 0)) (xv 1) (fun _ _ => rfl))))), ?_⟩
    refine ⟨x, T.C_Laid, dx, _, _, rfl, hx, T.cl_Laid, T.na_Laid_places, (by rw [lk_ne, lk_ne, lk_ne, lk_eq]), PL, _, rfl, DGet.k (k := Sum.inr m) (s0 _ _ h6), _, rfl, fun e => ?_, fun e => ?_⟩
    · refine ⟨_, rfl, .inl ⟨_, rfl, repr_short hch hlen (Nat.le_refl _)⟩, fun dd ndd => qe (fun hm => ?_) dd ndd⟩
      rw [← rects_marks 0 0 t] at hm
      obtain ⟨⟨m', b⟩, hb, rfl⟩ := List.mem_map.mp hm
      obtain ⟨a, ha, _⟩ := bx_val h7 (by rw [rects_marks]; exact nd) hb
      rw [ha] at e
      exact nomatch e
    · cases hv : valV kpl (Sum.inr m) with
      | none =>
        rw [hv] at e
        exact nomatch e
      | some v =>
        have hm : m ∈ (rects 0 0 t).map (·.1) := by
          refine Classical.byContradiction fun hc => ?_
          have := valV_none (kvs := kpl) (k := Sum.inr m) (by
            rw [prd_keys h7]
            intro hm
            obtain ⟨r, hr1, hr2⟩ := List.mem_map.mp hm
            exact hc (List.mem_map.mpr ⟨r, hr1, Sum.inr.inj hr2⟩))
          rw [this] at hv
          cases hv
        obtain ⟨⟨m', b⟩, hb, rfl⟩ := List.mem_map.mp hm
        obtain ⟨a, ha, hab⟩ := bx_val h7 (by rw [rects_marks]; exact nd) hb
        exact ⟨x, T.C_Laid, dx, _, _, rfl, hx, T.cl_Laid, T.na_Laid_places, (by rw [lk_ne, lk_ne, lk_ne, lk_eq]), PL, .ref a, rfl, ha ▸ DGet.k (k := Sum.inr m') (s0 _ _ h6), q b a hb hab⟩

end
end K18
set_option Elab.async false
set_option linter.all false
set_option maxRecDepth 100000
set_option maxHeartbeats 4000000
namespace K18
open PySem PySem.Spec PyProof.Rows L2 XL
/-! ### points of a page: plain -/
def inB (b : Bx) (x y : Int) : Bool := decide (b.1 ≤ x) && decide (x < b.1 + b.2.2.1) && decide (b.2.1 ≤ y) && decide (y < b.2.1 + b.2.2.2)
theorem inB_iff {b : Bx} {x y : Int} : inB b x y = true ↔ b.1 ≤ x ∧ x < b.1 + b.2.2.1 ∧ b.2.1 ≤ y ∧ y < b.2.1 + b.2.2.2 := by
  unfold inB
  simp only [Bool.and_eq_true, decide_eq_true_eq]
  constructor
  · rintro ⟨⟨⟨a, b⟩, c⟩, d⟩; exact ⟨a, b, c, d⟩
  · rintro ⟨a, b, c, d⟩; exact ⟨⟨⟨a, b⟩, c⟩, d⟩
/-- the marks whose rectangles hold the point, in page order -/
def chain (rs : List (Str × Bx)) (x y : Int) : List Str := (rs.filter fun r => inB r.2 x y).map (·.1)
theorem chain_app (rs ss : List (Str × Bx)) (x y : Int) : chain (rs ++ ss) x y = chain rs x y ++ chain ss x y := by unfold chain; rw [List.filter_append, List.map_append]
theorem chain_cons (m : Str) (b : Bx) (rs : List (Str × Bx)) (x y : Int) : chain ((m, b) :: rs) x y = (if inB b x y then [m] else []) ++ chain rs x y := by
  unfold chain
  by_cases h : inB b x y = true
  · rw [List.filter_cons_of_pos (by exact h), if_pos h]; rfl
  · rw [List.filter_cons_of_neg (by exact h), if_neg h]; rfl
theorem chain_shift (t : Tr) (a b x y : Int) : chain (rects a b t) x y = chain (rects 0 0 t) (x - a) (y - b) := by
  have e := rects_shift a b 0 0 t
  rw [Int.zero_add, Int.zero_add] at e
  rw [e]
  unfold chain
  rw [List.filter_map, List.map_map]
  have e2 : ((fun r : Str × Bx => inB r.2 x y) ∘ shf a b) = fun r => inB r.2 (x - a) (y - b) := by
    funext r
    show inB (shf a b r).2 x y = inB r.2 (x - a) (y - b)
    rw [Bool.eq_iff_iff, inB_iff, inB_iff]
    simp only [shf]
    omega
  rw [e2]
  rfl
/-! sizes -/
def sW : List Tr → Int
  | [] => 0
  | k :: r => (meas k).1 + sW r
def sH : List Tr → Int
  | [] => 0
  | k :: r => (meas k).2 + sH r
def xW : List Tr → Int
  | [] => 0
  | k :: r => max (meas k).1 (xW r)
def xH : List Tr → Int
  | [] => 0
  | k :: r => max (meas k).2 (xH r)
def NN (p : Int × Int) : Prop := 0 ≤ p.1 ∧ 0 ≤ p.2
theorem stp_nn (z : Str) {a p : Int × Int} (ha : NN a) (hp : NN p) : NN (stp z a p) := by
  have h1 := ha.1; have h2 := ha.2; have h3 := hp.1; have h4 := hp.2
  unfold stp
  split
  · exact ⟨by show 0 ≤ a.1 + p.1; omega, by show 0 ≤ (if a.2 < p.2 then p.2 else a.2); split <;> omega⟩
  · exact ⟨by show 0 ≤ (if a.1 < p.1 then p.1 else a.1); split <;> omega, by show 0 ≤ a.2 + p.2; omega⟩
theorem fold_nn (z : Str) : ∀ (ps : List (Int × Int)) (a : Int × Int), NN a → (∀ p ∈ ps, NN p) → NN (ps.foldl (stp z) a)
  | [], a, ha, _ => ha
  | p :: ps, a, ha, h => fold_nn z ps _ (stp_nn z ha (h p (by simp))) fun q hq => h q (List.mem_cons_of_mem _ hq)
mutual
theorem meas_nn : ∀ t : Tr, NN (meas t)
  | .node m l ks => by
    have h := meass_nn ks
    simp only [meas]
    unfold msr
    split
    · split
      · exact ⟨by decide, by decide⟩
      · exact ⟨by show (0 : Int) ≤ (l.length : Nat); omega, by show (0 : Int) ≤ 1; decide⟩
    · exact fold_nn l _ _ ⟨by decide, by decide⟩ h
theorem meass_nn : ∀ ts : List Tr, ∀ p ∈ meass ts, NN p
  | [], p, h => by simp [meass] at h
  | t :: r, p, h => by
    simp only [meass, List.mem_cons] at h
    rcases h with rfl | h
    · exact meas_nn t
    · exact meass_nn r p h
end
theorem sW_nn : ∀ ks, 0 ≤ sW ks
  | [] => by simp [sW]
  | k :: r => by have := sW_nn r; have := (meas_nn k).1; simp only [sW]; omega
theorem sH_nn : ∀ ks, 0 ≤ sH ks
  | [] => by simp [sH]
  | k :: r => by have := sH_nn r; have := (meas_nn k).2; simp only [sH]; omega
theorem xW_nn : ∀ ks, 0 ≤ xW ks
  | [] => by simp [xW]
  | k :: r => by have := xW_nn r; simp only [xW]; omega
theorem xH_nn : ∀ ks, 0 ≤ xH ks
  | [] => by simp [xH]
  | k :: r => by have := xH_nn r; simp only [xH]; omega
theorem xW_mem {k : Tr} : ∀ {ks : List Tr}, k ∈ ks → (meas k).1 ≤ xW ks
  | c :: r, h => by
    simp only [xW]
    rcases List.mem_cons.mp h with rfl | h
    · omega
    · have := xW_mem h; omega
theorem xH_mem {k : Tr} : ∀ {ks : List Tr}, k ∈ ks → (meas k).2 ≤ xH ks
  | c :: r, h => by
    simp only [xH]
    rcases List.mem_cons.mp h with rfl | h
    · omega
    · have := xH_mem h; omega
theorem fold_row {l : Str} (hl : l = "row") : ∀ (ks : List Tr) (a : Int × Int), 0 ≤ a.2 → (ks.map meas).foldl (stp l) a = (a.1 + sW ks, max a.2 (xH ks))
  | [], a, h => by
    refine Prod.ext ?_ ?_
    · simp [sW]
    · simp only [List.map_nil, List.foldl_nil, xH]; omega
  | k :: r, a, h => by
    rw [List.map_cons, List.foldl_cons, fold_row hl r _ ((stp_nn l (a := (0, a.2)) ⟨by show (0 : Int) ≤ 0; decide, h⟩ (meas_nn k)).2 |> fun z => by unfold stp at z ⊢; rw [if_pos hl] at z ⊢; exact z)]
    unfold stp
    rw [if_pos hl]
    refine Prod.ext ?_ ?_
    · simp only [sW]; omega
    · simp only [xH]; split <;> omega
theorem fold_col {l : Str} (hl : ¬ l = "row") : ∀ (ks : List Tr) (a : Int × Int), 0 ≤ a.1 → (ks.map meas).foldl (stp l) a = (max a.1 (xW ks), a.2 + sH ks)
  | [], a, h => by
    refine Prod.ext ?_ ?_
    · simp only [List.map_nil, List.foldl_nil, xW]; omega
    · simp [sH]
  | k :: r, a, h => by
    have hk := (meas_nn k).1
    rw [List.map_cons, List.foldl_cons, fold_col hl r _ (by unfold stp; rw [if_neg hl]; show 0 ≤ (if a.1 < (meas k).1 then (meas k).1 else a.1); split <;> omega)]
    unfold stp
    rw [if_neg hl]
    refine Prod.ext ?_ ?_
    · simp only [xW]; split <;> omega
    · simp only [sH]; omega
theorem meas_leaf {t : Tr} (h : kids t = []) : meas t = if lbl t = "row" ∨ lbl t = "col" then (0, 0) else (((lbl t).length : Int), 1) := by
  rw [meas_eq, h]; unfold msr; rw [List.map_nil, if_pos rfl]
theorem meas_row {t : Tr} (h : kids t ≠ []) (hl : lbl t = "row") : meas t = (sW (kids t), xH (kids t)) := by
  rw [meas_eq]; unfold msr
  rw [if_neg (by simpa using h), fold_row hl _ _ (by decide)]
  have := xH_nn (kids t)
  refine Prod.ext (by simp) ?_
  show max 0 (xH (kids t)) = _
  omega
theorem meas_col {t : Tr} (h : kids t ≠ []) (hl : ¬ lbl t = "row") : meas t = (xW (kids t), sH (kids t)) := by
  rw [meas_eq]; unfold msr
  rw [if_neg (by simpa using h), fold_col hl _ _ (by decide)]
  have := xW_nn (kids t)
  refine Prod.ext ?_ (by simp)
  show max 0 (xW (kids t)) = _
  omega
/-! the picture -/
def nW (t : Tr) : Nat := (meas t).1.toNat
def nH (t : Tr) : Nat := (meas t).2.toNat
theorem nW_eq (t : Tr) : ((nW t : Nat) : Int) = (meas t).1 := Int.toNat_of_nonneg (meas_nn t).1
theorem nH_eq (t : Tr) : ((nH t : Nat) : Int) = (meas t).2 := Int.toNat_of_nonneg (meas_nn t).2
def mx : List Nat → Nat
  | [] => 0
  | n :: r => max n (mx r)
theorem mx_snoc (xs : List Nat) (n : Nat) : mx (xs ++ [n]) = if mx xs < n then n else mx xs := by
  induction xs with
  | nil =>
    by_cases h : mx [] < n
    · rw [if_pos h]; show max n 0 = n; omega
    · rw [if_neg h]; show max n 0 = 0; change ¬ 0 < n at h; omega
  | cons x xs ih =>
    have e : mx (x :: xs ++ [n]) = max x (mx (xs ++ [n])) := rfl
    rw [e, ih]
    by_cases h : mx xs < n <;> by_cases h2 : mx (x :: xs) < n
    · rw [if_pos h, if_pos h2]; change max x (mx xs) < n at h2; omega
    · rw [if_pos h, if_neg h2]; show _ = max x (mx xs); change ¬ max x (mx xs) < n at h2; omega
    · rw [if_neg h, if_pos h2]; change max x (mx xs) < n at h2; omega
    · rw [if_neg h, if_neg h2]; rfl
theorem mx_mem {n : Nat} : ∀ {xs : List Nat}, n ∈ xs → n ≤ mx xs
  | x :: r, h => by
    simp only [mx]
    rcases List.mem_cons.mp h with rfl | h
    · omega
    · have := mx_mem h; omega
/-- what stands at a line of a row -/
def lineOf (m : Str) (ps : List (Nat × List (List Str))) (y : Nat) : List Str := ps.flatMap fun p => p.2.getD y (List.replicate p.1 m)
def rowPic (m : Str) (ps : List (Nat × List (List Str))) : List (List Str) := (List.range (mx (ps.map fun p => p.2.length))).map (lineOf m ps)
def colOf (m : Str) (mst : Nat) (ps : List (Nat × List (List Str))) : List (List Str) := ps.flatMap fun p => p.2.map fun ln => ln ++ List.replicate (mst - p.1) m
def colPic (m : Str) (ps : List (Nat × List (List Str))) : List (List Str) := colOf m (mx (ps.map (·.1))) ps
mutual
def pic : Tr → List (List Str)
  | .node m l ks => if ks.isEmpty then (if l = "row" ∨ l = "col" then [] else [List.replicate l.length m]) else if l = "row" then rowPic m (pics ks) else colPic m (pics ks)
def pics : List Tr → List (Nat × List (List Str))
  | [] => []
  | k :: r => (nW k, pic k) :: pics r
end
theorem pics_eq : ∀ ks, pics ks = ks.map fun k => (nW k, pic k)
  | [] => by simp only [pics, List.map_nil]
  | k :: r => by simp only [pics, List.map_cons, pics_eq r]
theorem pic_leaf {t : Tr} (h : kids t = []) : pic t = if lbl t = "row" ∨ lbl t = "col" then [] else [List.replicate (lbl t).length (mrk t)] := by
  cases t with
  | node m l ks =>
    simp only [kids] at h
    subst h
    show pic (.node m l []) = if l = "row" ∨ l = "col" then [] else [List.replicate l.length m]
    simp only [pic, List.isEmpty_nil, if_true]
theorem pic_row {t : Tr} (h : kids t ≠ []) (hl : lbl t = "row") : pic t = rowPic (mrk t) (pics (kids t)) := by
  cases t with
  | node m l ks =>
    simp only [kids, lbl, mrk] at h hl ⊢
    have : ks.isEmpty = false := by cases ks with
      | nil => exact absurd rfl h
      | cons _ _ => rfl
    simp only [pic, this, hl, if_true, if_false, Bool.false_eq_true]
theorem pic_col {t : Tr} (h : kids t ≠ []) (hl : ¬ lbl t = "row") : pic t = colPic (mrk t) (pics (kids t)) := by
  cases t with
  | node m l ks =>
    simp only [kids, lbl, mrk] at h hl ⊢
    have : ks.isEmpty = false := by cases ks with
      | nil => exact absurd rfl h
      | cons _ _ => rfl
    simp only [pic, this, hl, if_false, Bool.false_eq_true]
structure PicOk (t : Tr) : Prop where
  hh : (pic t).length = nH t
  ww : ∀ ln ∈ pic t, ln.length = nW t
  out : ∀ x y : Int, ¬ (0 ≤ x ∧ x < (meas t).1 ∧ 0 ≤ y ∧ y < (meas t).2) → chain (rects 0 0 t) x y = []
  ins : ∀ x y : Nat, x < nW t → y < nH t → ∃ ln, (pic t)[y]? = some ln ∧ ln[x]? = (chain (rects 0 0 t) x y).getLast?
theorem mx_H : ∀ {ks : List Tr}, (∀ k ∈ ks, PicOk k) → ((mx ((pics ks).map fun p => p.2.length) : Nat) : Int) = xH ks
  | [], _ => rfl
  | k :: r, h => by
    have h1 := (h k (by simp)).hh
    have h2 := mx_H (ks := r) fun q hq => h q (List.mem_cons_of_mem _ hq)
    have h3 := nH_eq k
    simp only [pics, List.map_cons, mx, xH]
    omega
theorem mx_W : ∀ ks : List Tr, ((mx ((pics ks).map (·.1)) : Nat) : Int) = xW ks
  | [] => rfl
  | k :: r => by
    have h2 := mx_W r
    have h3 := nW_eq k
    simp only [pics, List.map_cons, mx, xW]
    omega
theorem piece_len {m : Str} {k : Tr} (h : PicOk k) (y : Nat) : ((pic k).getD y (List.replicate (nW k) m)).length = nW k := by
  rw [List.getD_eq_getElem?_getD]
  cases e : (pic k)[y]? with
  | none => simp
  | some ln => exact h.ww ln (List.mem_of_getElem? e)
theorem line_len {m : Str} (y : Nat) : ∀ {ks : List Tr}, (∀ k ∈ ks, PicOk k) → (((lineOf m (pics ks) y).length : Nat) : Int) = sW ks
  | [], _ => rfl
  | k :: r, h => by
    have h1 := piece_len (m := m) (h k (by simp)) y
    have h2 := line_len (m := m) y (ks := r) fun q hq => h q (List.mem_cons_of_mem _ hq)
    have h3 := nW_eq k
    unfold lineOf at h2 ⊢
    simp only [pics, List.flatMap_cons, List.length_append, sW]
    omega
def rowC (X : Int) (ks : List Tr) (x y : Int) : List Str := chain (rectF (offs true X 0 ks)) x y
def colC (Y : Int) (ks : List Tr) (x y : Int) : List Str := chain (rectF (offs false 0 Y ks)) x y
theorem rowC_cons (X : Int) (k : Tr) (r : List Tr) (x y : Int) : rowC X (k :: r) x y = chain (rects 0 0 k) (x - X) y ++ rowC (X + (meas k).1) r x y := by
  unfold rowC
  simp only [offs, rectF, chain_app, if_true]
  rw [chain_shift, Int.sub_zero]
theorem colC_cons (Y : Int) (k : Tr) (r : List Tr) (x y : Int) : colC Y (k :: r) x y = chain (rects 0 0 k) x (y - Y) ++ colC (Y + (meas k).2) r x y := by
  unfold colC
  simp only [offs, rectF, chain_app, if_false, Bool.false_eq_true]
  rw [chain_shift, Int.sub_zero]
theorem row_out : ∀ {ks : List Tr} {X x y : Int}, (∀ k ∈ ks, PicOk k) → (¬ (X ≤ x ∧ x < X + sW ks ∧ 0 ≤ y ∧ y < xH ks)) → rowC X ks x y = []
  | [], _, _, _, _, _ => rfl
  | k :: r, X, x, y, h, ho => by
    have hk := meas_nn k
    have h1 := hk.1
    have hr := sW_nn r
    simp only [sW, xH] at ho
    rw [rowC_cons, (h k (by simp)).out _ _ (by omega), row_out (ks := r) (fun q hq => h q (List.mem_cons_of_mem _ hq)) (by omega)]
    rfl
theorem col_out : ∀ {ks : List Tr} {Y x y : Int}, (∀ k ∈ ks, PicOk k) → (¬ (0 ≤ x ∧ x < xW ks ∧ Y ≤ y ∧ y < Y + sH ks)) → colC Y ks x y = []
  | [], _, _, _, _, _ => rfl
  | k :: r, Y, x, y, h, ho => by
    have hk := meas_nn k
    have h1 := hk.2
    have hr := sH_nn r
    simp only [sH, xW] at ho
    rw [colC_cons, (h k (by simp)).out _ _ (by omega), col_out (ks := r) (fun q hq => h q (List.mem_cons_of_mem _ hq)) (by omega)]
    rfl
theorem row_in {m : Str} {y : Nat} : ∀ {ks : List Tr} {X : Int} {x : Int}, (∀ k ∈ ks, PicOk k) → X ≤ x → x < X + sW ks → (lineOf m (pics ks) y)[(x - X).toNat]? = some ((rowC X ks x y).getLast?.getD m)
  | [], _, _, _, h1, h2 => by simp only [sW] at h2; omega
  | k :: r, X, x, h, h1, h2 => by
    have hk := h k (by simp)
    have hr : ∀ q ∈ r, PicOk q := fun q hq => h q (List.mem_cons_of_mem _ hq)
    have n1 := nW_eq k
    have pl := piece_len (m := m) hk y
    rw [rowC_cons]
    have el : lineOf m (pics (k :: r)) y = (pic k).getD y (List.replicate (nW k) m) ++ lineOf m (pics r) y := by unfold lineOf; simp only [pics, List.flatMap_cons]
    rw [el]
    by_cases hx : x < X + (meas k).1
    · rw [row_out hr (by omega), List.append_nil, List.getElem?_append_left (by rw [pl]; omega)]
      by_cases hy : y < nH k
      · obtain ⟨ln, e1, e2⟩ := hk.ins (x - X).toNat y (by omega) hy
        rw [List.getD_eq_getElem?_getD, e1, Option.getD_some, e2, show (((x - X).toNat : Nat) : Int) = x - X by omega]
        have ll : (x - X).toNat < ln.length := by rw [hk.ww ln (List.mem_of_getElem? e1)]; omega
        rw [show (((x - X).toNat : Nat) : Int) = x - X by omega] at e2
        cases e3 : (chain (rects 0 0 k) (x - X) y).getLast? with
        | none => rw [e3, List.getElem?_eq_getElem ll] at e2; cases e2
        | some z => rfl
      · have n2 := nH_eq k
        rw [hk.out _ _ (by omega)]
        have en : (pic k)[y]? = none := List.getElem?_eq_none (by rw [hk.hh]; omega)
        rw [List.getD_eq_getElem?_getD, en, Option.getD_none, List.getElem?_replicate, if_pos (by omega)]
        rfl
    · rw [hk.out _ _ (by omega), List.nil_append, List.getElem?_append_right (by rw [pl]; omega), pl]
      have := row_in (m := m) (y := y) (ks := r) (X := X + (meas k).1) (x := x) hr (by omega) (by simp only [sW] at h2; omega)
      rw [← this]
      congr 1
      omega
theorem col_in {m : Str} {mst : Nat} : ∀ {ks : List Tr} {Y y : Int} {x : Nat}, (∀ k ∈ ks, PicOk k ∧ nW k ≤ mst) → Y ≤ y → y < Y + sH ks → x < mst → ∃ ln, (colOf m mst (pics ks))[(y - Y).toNat]? = some ln ∧ ln.length = mst ∧ ln[x]? = some ((colC Y ks x y).getLast?.getD m)
  | [], _, _, _, _, h1, h2, _ => by simp only [sH] at h2; omega
  | k :: r, Y, y, x, h, h1, h2, h3 => by
    obtain ⟨hk, kw⟩ := h k (by simp)
    have hr : ∀ q ∈ r, PicOk q ∧ nW q ≤ mst := fun q hq => h q (List.mem_cons_of_mem _ hq)
    have n1 := nH_eq k
    have n2 := nW_eq k
    rw [colC_cons]
    have el : colOf m mst (pics (k :: r)) = (pic k).map (fun ln => ln ++ List.replicate (mst - nW k) m) ++ colOf m mst (pics r) := by unfold colOf; simp only [pics, List.flatMap_cons]
    rw [el]
    by_cases hy : y < Y + (meas k).2
    · rw [col_out (fun q hq => (hr q hq).1) (by omega), List.append_nil, List.getElem?_append_left (by rw [List.length_map, hk.hh]; omega)]
      have yl : (y - Y).toNat < (pic k).length := by rw [hk.hh]; omega
      refine ⟨(pic k)[(y - Y).toNat] ++ List.replicate (mst - nW k) m, by rw [List.getElem?_map, List.getElem?_eq_getElem yl]; rfl, ?_, ?_⟩
      · rw [List.length_append, hk.ww _ (List.getElem_mem yl), List.length_replicate]; omega
      · by_cases hx : x < nW k
        · obtain ⟨ln, e1, e2⟩ := hk.ins x (y - Y).toNat hx (by omega)
          rw [List.getElem?_eq_getElem yl] at e1
          obtain rfl := Option.some.inj e1
          have lw := hk.ww _ (List.getElem_mem yl)
          rw [List.getElem?_append_left (by rw [lw]; exact hx)]
          rw [show (((y - Y).toNat : Nat) : Int) = y - Y by omega] at e2
          rw [e2]
          cases e3 : (chain (rects 0 0 k) (x : Int) (y - Y)).getLast? with
          | none => rw [e3, List.getElem?_eq_getElem (by rw [lw]; exact hx)] at e2; cases e2
          | some z => rfl
        · rw [hk.out _ _ (by omega), List.getElem?_append_right (by rw [hk.ww _ (List.getElem_mem yl)]; omega), hk.ww _ (List.getElem_mem yl), List.getElem?_replicate, if_pos (by omega)]
          rfl
    · obtain ⟨ln, e1, e2, e3⟩ := col_in (m := m) (mst := mst) (ks := r) (Y := Y + (meas k).2) (y := y) (x := x) hr (by omega) (by simp only [sH] at h2; omega) h3
      refine ⟨ln, ?_, e2, ?_⟩
      · rw [List.getElem?_append_right (by rw [List.length_map, hk.hh]; omega), List.length_map, hk.hh, ← e1]
        congr 1
        omega
      · rw [hk.out _ _ (by omega), List.nil_append]
        exact e3
theorem rects_split (t : Tr) (x y : Int) : chain (rects 0 0 t) x y = (if inB (0, 0, (meas t).1, (meas t).2) x y then [mrk t] else []) ++ (if lbl t = "row" then rowC 0 (kids t) x y else colC 0 (kids t) x y) := by
  rw [rects_eq, chain_cons, rectss_eq]
  by_cases h : lbl t = "row"
  · rw [if_pos h, decide_eq_true h]; rfl
  · rw [if_neg h, decide_eq_false h]; rfl
theorem col_len (m : Str) (mst : Nat) : ∀ {ks : List Tr}, (∀ k ∈ ks, PicOk k) → (((colOf m mst (pics ks)).length : Nat) : Int) = sH ks
  | [], _ => rfl
  | k :: r, h => by
    have h1 := (h k (by simp)).hh
    have h2 := col_len m mst (ks := r) fun q hq => h q (List.mem_cons_of_mem _ hq)
    have h3 := nH_eq k
    unfold colOf at h2 ⊢
    simp only [pics, List.flatMap_cons, List.length_append, List.length_map, sH]
    omega
theorem pic_step {t : Tr} (h : ∀ k ∈ kids t, PicOk k) : PicOk t := by
  have inn : ∀ x y : Int, (0 ≤ x ∧ x < (meas t).1 ∧ 0 ≤ y ∧ y < (meas t).2) ↔ inB (0, 0, (meas t).1, (meas t).2) x y = true := fun x y => by
    rw [inB_iff]
    simp only []
    omega
  by_cases hk : kids t = []
  · have em := meas_leaf hk
    have ep := pic_leaf hk
    have ec : ∀ x y, chain (rects 0 0 t) x y = if inB (0, 0, (meas t).1, (meas t).2) x y then [mrk t] else [] := fun x y => by
      rw [rects_split, hk]
      have : (if lbl t = "row" then rowC 0 [] x y else colC 0 [] x y) = [] := by split <;> rfl
      rw [this, List.append_nil]
    by_cases hl : lbl t = "row" ∨ lbl t = "col"
    · rw [if_pos hl] at em ep
      have e1 : nW t = 0 := by unfold nW; rw [em]; rfl
      have e2 : nH t = 0 := by unfold nH; rw [em]; rfl
      refine ⟨by rw [ep, e2]; rfl, fun ln hl => absurd (by rw [ep] at hl; exact hl) (List.not_mem_nil), fun x y hn => ?_, fun x y hx hy => by omega⟩
      rw [ec, if_neg (fun hb => hn ((inn x y).mpr hb))]
    · rw [if_neg hl] at em ep
      have e1 : nW t = (lbl t).length := by unfold nW; rw [em]; exact Int.toNat_natCast _
      have e2 : nH t = 1 := by unfold nH; rw [em]; rfl
      refine ⟨by rw [ep, e2]; rfl, fun ln hl => ?_, fun x y hn => ?_, fun x y hx hy => ?_⟩
      · rw [ep, List.mem_singleton] at hl
        rw [hl, List.length_replicate, e1]
      · rw [ec, if_neg (fun hb => hn ((inn x y).mpr hb))]
      · have y0 : y = 0 := by omega
        subst y0
        refine ⟨_, by rw [ep]; rfl, ?_⟩
        rw [ec, if_pos ((inn x (0 : Nat)).mp (by rw [em]; simp only []; omega)), List.getElem?_replicate, if_pos (by omega)]
        rfl
  · by_cases hl : lbl t = "row"
    · have em := meas_row hk hl
      have ep := pic_row hk hl
      have eh := mx_H h
      have e1 := nW_eq t
      have e2 := nH_eq t
      rw [em] at e1 e2
      have ec : ∀ x y, chain (rects 0 0 t) x y = (if inB (0, 0, (meas t).1, (meas t).2) x y then [mrk t] else []) ++ rowC 0 (kids t) x y := fun x y => by rw [rects_split, if_pos hl]
      simp only at e1 e2
      have eh2 : mx ((pics (kids t)).map fun p => p.2.length) = nH t := by omega
      refine ⟨by rw [ep]; unfold rowPic; rw [List.length_map, List.length_range, eh2], fun ln hln => ?_, fun x y hn => ?_, fun x y hx hy => ?_⟩
      · rw [ep] at hln
        obtain ⟨y, _, rfl⟩ := List.mem_map.mp hln
        have := line_len (m := mrk t) y h
        omega
      · rw [ec, if_neg (fun hb => hn ((inn x y).mpr hb)), row_out h (by rw [em] at hn; simpa using hn)]
        rfl
      · refine ⟨_, by rw [ep]; unfold rowPic; rw [eh2, List.getElem?_map, List.getElem?_range hy]; rfl, ?_⟩
        have := row_in (m := mrk t) (y := y) (ks := kids t) (X := 0) (x := (x : Int)) h (by omega) (by omega)
        rw [Int.sub_zero, Int.toNat_natCast] at this
        rw [this, ec, if_pos ((inn x y).mp (by rw [em]; simp only []; omega)), List.getLast?_append]
        cases (rowC 0 (kids t) (x : Int) (y : Int)).getLast? <;> rfl
    · have em := meas_col hk hl
      have ep := pic_col hk hl
      have ew := mx_W (kids t)
      have e1 := nW_eq t
      have e2 := nH_eq t
      rw [em] at e1 e2
      have ec : ∀ x y, chain (rects 0 0 t) x y = (if inB (0, 0, (meas t).1, (meas t).2) x y then [mrk t] else []) ++ colC 0 (kids t) x y := fun x y => by rw [rects_split, if_neg hl]
      simp only at e1 e2
      have ew2 : mx ((pics (kids t)).map (·.1)) = nW t := by omega
      have h' : ∀ k ∈ kids t, PicOk k ∧ nW k ≤ nW t := fun k hkm => ⟨h k hkm, by have := xW_mem hkm; have := nW_eq k; omega⟩
      have cl := col_len (mrk t) (nW t) h
      have ep2 : pic t = colOf (mrk t) (nW t) (pics (kids t)) := by rw [ep]; unfold colPic; rw [ew2]
      refine ⟨by rw [ep2]; omega, fun ln hln => ?_, fun x y hn => ?_, fun x y hx hy => ?_⟩
      · rw [ep2] at hln
        obtain ⟨p, hp, hln⟩ := List.mem_flatMap.mp hln
        rw [pics_eq] at hp
        obtain ⟨k, hkm, rfl⟩ := List.mem_map.mp hp
        obtain ⟨l0, hl0, rfl⟩ := List.mem_map.mp hln
        have := (h k hkm).ww l0 hl0
        have := (h' k hkm).2
        rw [List.length_append, List.length_replicate]
        omega
      · rw [ec, if_neg (fun hb => hn ((inn x y).mpr hb)), col_out h (by rw [em] at hn; simpa using hn)]
        rfl
      · obtain ⟨ln, a1, a2, a3⟩ := col_in (m := mrk t) (mst := nW t) (ks := kids t) (Y := 0) (y := (y : Int)) (x := x) h' (by omega) (by omega) hx
        rw [Int.sub_zero, Int.toNat_natCast] at a1
        refine ⟨ln, by rw [ep2]; exact a1, ?_⟩
        rw [a3, ec, if_pos ((inn x y).mp (by rw [em]; simp only []; omega)), List.getLast?_append]
        cases (colC 0 (kids t) (x : Int) (y : Int)).getLast? <;> rfl
mutual
theorem pic_ok : ∀ t : Tr, PicOk t
  | .node m l ks => pic_step (t := .node m l ks) (pics_ok ks)
theorem pics_ok : ∀ ks : List Tr, ∀ k ∈ ks, PicOk k
  | [] => fun _ h => nomatch h
  | c :: r => fun k h => (List.mem_cons.mp h).elim (fun e => e ▸ pic_ok c) (pics_ok r k)
end

theorem row_one : ∀ (ks : List Tr) (X x y : Int), rowC X ks x y = [] ∨ ∃ k ∈ ks, ∃ x' y', rowC X ks x y = chain (rects 0 0 k) x' y'
  | [], _, _, _ => .inl rfl
  | k :: r, X, x, y => by
    have hr : ∀ q ∈ r, PicOk q := fun q _ => pic_ok q
    rw [rowC_cons]
    by_cases hx : x < X + (meas k).1
    · rw [row_out hr (by omega), List.append_nil]
      exact .inr ⟨k, by simp, _, _, rfl⟩
    · rw [(pic_ok k).out _ _ (by omega), List.nil_append]
      rcases row_one r (X + (meas k).1) x y with h | ⟨q, hq, x', y', h⟩
      · exact .inl h
      · exact .inr ⟨q, List.mem_cons_of_mem _ hq, x', y', h⟩
theorem col_one : ∀ (ks : List Tr) (Y x y : Int), colC Y ks x y = [] ∨ ∃ k ∈ ks, ∃ x' y', colC Y ks x y = chain (rects 0 0 k) x' y'
  | [], _, _, _ => .inl rfl
  | k :: r, Y, x, y => by
    have hr : ∀ q ∈ r, PicOk q := fun q _ => pic_ok q
    rw [colC_cons]
    by_cases hy : y < Y + (meas k).2
    · rw [col_out hr (by omega), List.append_nil]
      exact .inr ⟨k, by simp, _, _, rfl⟩
    · rw [(pic_ok k).out _ _ (by omega), List.nil_append]
      rcases col_one r (Y + (meas k).2) x y with h | ⟨q, hq, x', y', h⟩
      · exact .inl h
      · exact .inr ⟨q, List.mem_cons_of_mem _ hq, x', y', h⟩
/-! the way down to each node -/
mutual
def abv (p : List Str) : Tr → List (Str × List Str)
  | .node m _ ks => (m, p ++ [m]) :: abvs (p ++ [m]) ks
def abvs (p : List Str) : List Tr → List (Str × List Str)
  | [] => []
  | k :: r => abv p k ++ abvs p r
end
theorem abv_eq (p : List Str) (t : Tr) : abv p t = (mrk t, p ++ [mrk t]) :: abvs (p ++ [mrk t]) (kids t) := by
  cases t
  simp only [abv, mrk, kids]
mutual
theorem abv_marks (p : List Str) : ∀ t, (abv p t).map (·.1) = (pre t).map mrk
  | .node m l ks => by simp only [abv, pre, List.map_cons, mrk, abvs_marks]
theorem abvs_marks (p : List Str) : ∀ ts, (abvs p ts).map (·.1) = (pres ts).map mrk
  | [] => by simp only [abvs, pres, List.map_nil]
  | t :: r => by simp only [abvs, pres, List.map_append, abv_marks, abvs_marks]
end
theorem abvs_app (p : List Str) : ∀ xs ys, abvs p (xs ++ ys) = abvs p xs ++ abvs p ys
  | [], ys => by simp only [List.nil_append, abvs]
  | x :: xs, ys => by simp only [List.cons_append, abvs, abvs_app p xs ys, List.append_assoc]
theorem abvs_mem {p : List Str} {q : Str × List Str} {k : Tr} (h : q ∈ abv p k) : ∀ {ks : List Tr}, k ∈ ks → q ∈ abvs p ks
  | c :: r, hk => by
    simp only [abvs, List.mem_append]
    rcases List.mem_cons.mp hk with rfl | hk
    · exact .inl h
    · exact .inr (abvs_mem h hk)
mutual
theorem chain_abv : ∀ (t : Tr) (p : List Str) (x y : Int) (z : Str), (chain (rects 0 0 t) x y).getLast? = some z → (z, p ++ chain (rects 0 0 t) x y) ∈ abv p t
  | .node m l ks, p, x, y, z, h => by
    have ne : chain (rects 0 0 (.node m l ks)) x y ≠ [] := fun e => by rw [e] at h; cases h
    have inb : inB (0, 0, (meas (.node m l ks)).1, (meas (.node m l ks)).2) x y = true := by
      refine Classical.byContradiction fun hb => ne ((pic_ok _).out x y fun hc => hb ?_)
      rw [inB_iff]
      simp only []
      omega
    have e := rects_split (.node m l ks) x y
    rw [if_pos inb] at e
    have one : (if l = "row" then rowC 0 ks x y else colC 0 ks x y) = [] ∨ ∃ k ∈ ks, ∃ x' y', (if l = "row" then rowC 0 ks x y else colC 0 ks x y) = chain (rects 0 0 k) x' y' := by
      split
      · exact row_one ks 0 x y
      · exact col_one ks 0 x y
    change chain (rects 0 0 (.node m l ks)) x y = [m] ++ (if l = "row" then rowC 0 ks x y else colC 0 ks x y) at e
    generalize (if l = "row" then rowC 0 ks x y else colC 0 ks x y) = C at *
    rw [e] at h ⊢
    rcases one with rfl | hone
    · simp only [List.append_nil, List.getLast?_singleton, Option.some.injEq] at h
      rw [← h, List.append_nil, abv]
      exact List.mem_cons_self
    · by_cases hC : C = []
      · subst hC
        simp only [List.append_nil, List.getLast?_singleton, Option.some.injEq] at h
        rw [← h, List.append_nil, abv]
        exact List.mem_cons_self
      · have hl : C.getLast? = some z := by
          rw [List.getLast?_append] at h
          cases e2 : C.getLast? with
          | none => exact absurd (List.getLast?_eq_none_iff.mp e2) hC
          | some u => rw [e2] at h; exact h
        rw [abv, ← List.append_assoc]
        exact List.mem_cons_of_mem _ (chains_abv ks (p ++ [m]) C z hone hl)
theorem chains_abv : ∀ (ks : List Tr) (p : List Str) (C : List Str) (z : Str), (∃ k ∈ ks, ∃ x' y', C = chain (rects 0 0 k) x' y') → C.getLast? = some z → (z, p ++ C) ∈ abvs p ks
  | [], _, _, _, ⟨_, h, _⟩, _ => nomatch h
  | c :: r, p, C, z, ⟨k, hk, x', y', e⟩, hl => by
    rw [abvs, List.mem_append]
    rcases List.mem_cons.mp hk with h | h
    · rw [h] at e
      rw [e] at hl ⊢
      exact .inl (chain_abv c p x' y' z hl)
    · exact .inr (chains_abv r p C z ⟨k, h, x', y', e⟩ hl)
end
/-! how many points of a rectangle were met -/
def clp (v n : Int) : Int := min (max v 0) n
def cnt (b : Bx) (x y : Int) : Int := clp (y - b.2.1) b.2.2.2 * b.2.2.1 + (if b.2.1 ≤ y ∧ y < b.2.1 + b.2.2.2 then clp (x - b.1) b.2.2.1 else 0)
theorem cnt_step {b : Bx} (hw : 0 ≤ b.2.2.1) (x y : Int) : cnt b (x + 1) y = cnt b x y + (if inB b x y = true then 1 else 0) := by
  unfold cnt
  by_cases hy : b.2.1 ≤ y ∧ y < b.2.1 + b.2.2.2
  · rw [if_pos hy, if_pos hy]
    by_cases hx : inB b x y = true
    · rw [if_pos hx]
      have := inB_iff.mp hx
      unfold clp
      omega
    · rw [if_neg hx]
      have : ¬ (b.1 ≤ x ∧ x < b.1 + b.2.2.1) := fun h => hx (inB_iff.mpr ⟨h.1, h.2, hy.1, hy.2⟩)
      unfold clp
      omega
  · rw [if_neg hy, if_neg hy, if_neg (fun h => hy (by have := inB_iff.mp h; omega))]
    exact (Int.add_zero _).symm
theorem cnt_row {b : Bx} (hw : 0 ≤ b.2.2.1) (hh : 0 ≤ b.2.2.2) {W y : Int} (h : 0 < b.2.2.1 → 0 < b.2.2.2 → 0 ≤ b.1 ∧ b.1 + b.2.2.1 ≤ W) : cnt b (W + 1) y = cnt b (-1) (y + 1) := by
  unfold cnt
  by_cases h0 : 0 < b.2.2.1 ∧ 0 < b.2.2.2
  · obtain ⟨h1, h2⟩ := h h0.1 h0.2
    by_cases hy : b.2.1 ≤ y ∧ y < b.2.1 + b.2.2.2
    · rw [if_pos hy]
      have e1 : clp (W + 1 - b.1) b.2.2.1 = b.2.2.1 := by unfold clp; omega
      have e2 : clp (y + 1 - b.2.1) b.2.2.2 = clp (y - b.2.1) b.2.2.2 + 1 := by unfold clp; omega
      have e3 : clp (-1 - b.1) b.2.2.1 = 0 := by unfold clp; omega
      rw [e1, e2, e3, Int.add_mul, Int.one_mul]
      split <;> omega
    · rw [if_neg hy]
      have e2 : clp (y + 1 - b.2.1) b.2.2.2 = clp (y - b.2.1) b.2.2.2 := by unfold clp; omega
      have e3 : clp (-1 - b.1) b.2.2.1 = 0 := by unfold clp; omega
      rw [e2, e3]
      split <;> omega
  · by_cases h1 : b.2.2.1 = 0
    · have e1 : ∀ v, clp v b.2.2.1 = 0 := fun v => by unfold clp; omega
      rw [h1, Int.mul_zero, Int.mul_zero]
      rw [h1] at e1
      rw [e1, e1]
      split <;> split <;> rfl
    · have h2 : b.2.2.2 = 0 := by omega
      have e1 : ∀ v, clp v b.2.2.2 = 0 := fun v => by unfold clp; omega
      rw [e1, e1, if_neg (by omega), if_neg (by omega)]
theorem cnt_start {b : Bx} (hw : 0 ≤ b.2.2.1) (hh : 0 ≤ b.2.2.2) (h : 0 < b.2.2.1 → 0 < b.2.2.2 → 0 ≤ b.2.1) : cnt b (-1) (-1) = 0 := by
  unfold cnt
  by_cases h1 : b.2.2.1 = 0
  · have e1 : ∀ v, clp v b.2.2.1 = 0 := fun v => by unfold clp; omega
    rw [e1, h1, Int.mul_zero]
    split <;> rfl
  · by_cases h2 : b.2.2.2 = 0
    · have e1 : ∀ v, clp v b.2.2.2 = 0 := fun v => by unfold clp; omega
      rw [e1, if_neg (by omega), Int.zero_mul]
      rfl
    · have h3 := h (by omega) (by omega)
      have e1 : clp (-1 - b.2.1) b.2.2.2 = 0 := by unfold clp; omega
      rw [e1, if_neg (by omega), Int.zero_mul]
      rfl
theorem cnt_end {b : Bx} (hw : 0 ≤ b.2.2.1) (hh : 0 ≤ b.2.2.2) {W : Int} (h : 0 < b.2.2.1 → 0 < b.2.2.2 → b.2.1 + b.2.2.2 ≤ W ∧ 0 ≤ b.2.1) : cnt b (-1) (W + 1) = b.2.2.1 * b.2.2.2 := by
  unfold cnt
  by_cases h1 : b.2.2.1 = 0
  · have e1 : ∀ v, clp v b.2.2.1 = 0 := fun v => by unfold clp; omega
    rw [e1, h1, Int.mul_zero, Int.zero_mul]
    split <;> rfl
  · by_cases h2 : b.2.2.2 = 0
    · have e1 : ∀ v, clp v b.2.2.2 = 0 := fun v => by unfold clp; omega
      rw [e1, if_neg (by omega), Int.zero_mul, h2, Int.mul_zero]
      rfl
    · obtain ⟨h3, h4⟩ := h (by omega) (by omega)
      have e1 : clp (W + 1 - b.2.1) b.2.2.2 = b.2.2.2 := by unfold clp; omega
      rw [e1, if_neg (by omega), Int.mul_comm]
      exact Int.add_zero _
/-! all rectangles lie in the root's -/
theorem fst_one {α β : Type} {m : α} {b b' : β} : ∀ {rs : List (α × β)}, (rs.map (·.1)).Nodup → (m, b) ∈ rs → (m, b') ∈ rs → b = b'
  | (k, c) :: r, nd, h, h' => by
    rw [List.map_cons, List.nodup_cons] at nd
    rcases List.mem_cons.mp h with e | h1
    · rcases List.mem_cons.mp h' with e' | h2
      · rw [← e] at e'
        exact ((Prod.mk.inj e').2).symm
      · cases e
        exact absurd (List.mem_map_of_mem (f := (·.1)) h2) nd.1
    · rcases List.mem_cons.mp h' with e' | h2
      · cases e'
        exact absurd (List.mem_map_of_mem (f := (·.1)) h1) nd.1
      · exact fst_one nd.2 h1 h2
theorem chain_mem {rs : List (Str × Bx)} {m : Str} {b : Bx} {x y : Int} (nd : (rs.map (·.1)).Nodup) (h : (m, b) ∈ rs) : m ∈ chain rs x y ↔ inB b x y = true := by
  unfold chain
  rw [List.mem_map]
  constructor
  · rintro ⟨⟨m', b'⟩, hm, rfl⟩
    obtain ⟨h1, h2⟩ := List.mem_filter.mp hm
    have : b = b' := fst_one nd h h1
    rw [this]
    exact h2
  · intro hb
    exact ⟨(m, b), List.mem_filter.mpr ⟨h, hb⟩, rfl⟩
mutual
theorem rects_nn (x y : Int) : ∀ (t : Tr) (r : Str × Bx), r ∈ rects x y t → 0 ≤ r.2.2.2.1 ∧ 0 ≤ r.2.2.2.2
  | .node m l ks, r, h => by
    have hn := meas_nn (.node m l ks)
    simp only [meas] at hn
    simp only [rects, List.mem_cons] at h
    rcases h with rfl | h
    · exact hn
    · exact rectss_nn _ x y ks r h
theorem rectss_nn (row : Bool) (x y : Int) : ∀ (ts : List Tr) (r : Str × Bx), r ∈ rectss row x y ts → 0 ≤ r.2.2.2.1 ∧ 0 ≤ r.2.2.2.2
  | [], r, h => by simp [rectss] at h
  | t :: ts, r, h => by
    simp only [rectss, List.mem_append] at h
    rcases h with h | h
    · exact rects_nn _ _ t r h
    · exact rectss_nn row _ _ ts r h
end
theorem rects_in {t : Tr} (nd : ((pre t).map mrk).Nodup) {m : Str} {b : Bx} (h : (m, b) ∈ rects 0 0 t) (hw : 0 < b.2.2.1) (hh : 0 < b.2.2.2) : 0 ≤ b.1 ∧ b.1 + b.2.2.1 ≤ (meas t).1 ∧ 0 ≤ b.2.1 ∧ b.2.1 + b.2.2.2 ≤ (meas t).2 := by
  have nd' : ((rects 0 0 t).map (·.1)).Nodup := by rw [rects_marks]; exact nd
  have pt : ∀ x y, inB b x y = true → 0 ≤ x ∧ x < (meas t).1 ∧ 0 ≤ y ∧ y < (meas t).2 := fun x y hb => by
    refine Classical.byContradiction fun hc => ?_
    have := (chain_mem nd' h (x := x) (y := y)).mpr hb
    rw [(pic_ok t).out x y hc] at this
    cases this
  have h1 := pt b.1 b.2.1 (inB_iff.mpr ⟨by omega, by omega, by omega, by omega⟩)
  have h2 := pt (b.1 + b.2.2.1 - 1) (b.2.1 + b.2.2.2 - 1) (inB_iff.mpr ⟨by omega, by omega, by omega, by omega⟩)
  omega
mutual
theorem meas_le (B : Int) : ∀ t : Tr, (∀ p ∈ pre t, ((lbl p).length : Int) ≤ B) → 0 ≤ B → (meas t).1 ≤ B * (pre t).length ∧ (meas t).2 ≤ (pre t).length
  | .node m l ks, h, hB => by
    have h2 := meass_le B ks (fun p hp => h p (by rw [pre_eq]; exact List.mem_cons_of_mem _ hp)) hB
    have h0 := h (.node m l ks) (self_pre _)
    have e : (((pre (.node m l ks)).length : Nat) : Int) = (pres ks).length + 1 := by rw [pre_eq]; rfl
    rw [e, Int.mul_add, Int.mul_one]
    by_cases hk : ks = []
    · rw [meas_leaf (t := .node m l ks) hk]
      have hn : 0 ≤ B * ((pres ks).length : Int) := Int.mul_nonneg hB (by omega)
      split
      · exact ⟨by simp only []; omega, by simp only []; omega⟩
      · exact ⟨by simp only []; omega, by simp only []; omega⟩
    · by_cases hl : l = "row"
      · rw [meas_row (t := .node m l ks) hk hl]
        simp only [kids]
        omega
      · rw [meas_col (t := .node m l ks) hk hl]
        simp only [kids]
        omega
theorem meass_le (B : Int) : ∀ ts : List Tr, (∀ p ∈ pres ts, ((lbl p).length : Int) ≤ B) → 0 ≤ B → sW ts ≤ B * (pres ts).length ∧ sH ts ≤ (pres ts).length ∧ xW ts ≤ B * (pres ts).length ∧ xH ts ≤ (pres ts).length
  | [], _, _ => by simp [sW, sH, xW, xH, pres]
  | t :: r, h, hB => by
    obtain ⟨h1, h2⟩ := meas_le B t (fun p hp => h p (by simp only [pres]; exact List.mem_append_left _ hp)) hB
    obtain ⟨h3, h4, h5, h6⟩ := meass_le B r (fun p hp => h p (by simp only [pres]; exact List.mem_append_right _ hp)) hB
    have n1 := meas_nn t
    have n2 := sW_nn r; have n3 := sH_nn r; have n4 := xW_nn r; have n5 := xH_nn r
    have n6 := n1.1; have n7 := n1.2
    simp only [sW, sH, xW, xH, pres, List.length_append, Int.natCast_add, Int.mul_add]
    omega
end

section
variable {P : Program} {w : World} {K : PySem.W.Frag} {mg : Str → Option Value} {base : Heap}
/-! ### hit -/
def oV : Option Str → V
  | none => .non
  | some m => .str m
theorem chain_last (rs : List (Str × Bx)) (m : Str) (b : Bx) (x y : Int) : (chain (rs ++ [(m, b)]) x y).getLast? = if inB b x y = true then some m else (chain rs x y).getLast? := by
  rw [chain_app, chain_cons]
  by_cases h : inB b x y = true
  · rw [if_pos h, if_pos h]
    simp [chain]
  · rw [if_neg h, if_neg h]
    simp [chain]
def spHit (K : PySem.W.Frag) (C CP : Addr) : Sp := fun vs H Q _ => ∃ (G : Hp) (l : Addr) (x y : Int) (t : Tr), vs = [.ref l, .int x, .int y] ∧ Same G H ∧ LdAt K C CP G l t ∧ ((pre t).map mrk).Nodup ∧ Q (oV (chain (rects 0 0 t) x y).getLast?) H
theorem ok_Laid_hit (T : Top K mg w) {k : Nat} : FnOk P w K mg base CX0 (k + 1) T.a_Laid_hit T.d_Laid_hit ["self", "x", "y"] (spHit K T.C_Laid T.C_Page) := by
  refine T.F_Laid_hit.ok sc_Laid_hit (fun vs H Q E h => ?_) (fun cdv A outer s H vs Q E hr h => ?_)
  · obtain ⟨G, l, x, y, t, rfl, _⟩ := h
    rfl
  · obtain ⟨G, l, x, y, t, rfl, s0, hl, nd, q⟩ := h
    obtain ⟨dx, pg, PD, SD, PL, ML, kpr, ksz, kpl, h1, h2, h3, h4, h5, h6, h7, h8⟩ := hl.ex
    have hx := s0 _ _ h1
    refine ⟨_, (pss_cons (ps_set (i := 3) sc_Laid_hit.nd rfl (.inl rfl) pe_non)
      (pss_cons (ps_for PassesOwn.never rfl (pi_listK K (pe_fldK K (xv 0))) (pg_name (i := 4) sc_Laid_hit.nd rfl (.inl rfl))
      (pss_cons (ps_asg (pe_dget (hu_of hr) (pe_fldK K (xv 0)) (xv 4) (fun _ _ => rfl)) (pg_tupK K 4 (pgs_cons (pg_name (i := 5) sc_Laid_hit.nd rfl (.inl rfl)) (pgs_cons (pg_name (i := 6) sc_Laid_hit.nd rfl (.inl rfl)) (pgs_cons (pg_name (i := 7) sc_Laid_hit.nd rfl (.inl rfl)) (pgs_cons (pg_name (i := 8) sc_Laid_hit.nd rfl (.inl rfl)) pgs_nil))))))
      (pss_one (xs_if (PW.pt (xw_and (xt_chain op_leY op_ltY (xv 5) (xv 1) (pe_op op_addY (xv 5) (xv 7))) (pw_and1 (xt_chain op_leY op_ltY (xv 6) (xv 2) (pe_op op_addY (xv 6) (xv 8))))))
      (pss_one (ps_set (i := 3) sc_Laid_hit.nd rfl (.inl rfl) (xv 4)))
      pss_nil))))
      (pss_one (ps_ret (xv 3))))), ?_⟩
    rw [← rects_marks 0 0 t] at h8 nd
    refine ⟨l, T.C_Laid, dx, _, _, rfl, hx, T.cl_Laid, T.na_Laid_marks, (by rw [lk_ne, lk_ne, lk_ne, lk_ne, lk_eq]), ML, rfl, ⟨_, SqL.of (s0 _ _ h8)⟩, for_list (xs := ((rects 0 0 t).map (·.1)).map V.str) (fun i σ H' => ∃ (y4 y5 y6 y7 y8 : Option V), σ = [some (.ref l), some (.int x), some (.int y), some (oV (chain ((rects 0 0 t).take i) x y).getLast?), y4, y5, y6, y7, y8] ∧ H' = H) ⟨_, _, _, _, _, rfl, rfl⟩ (fun i σ H' _ h => ?_) (fun i v σ H' hv h => ?_) (fun σ H' h => ?_)⟩
    · obtain ⟨_, _, _, _, _, _, rfl⟩ := h
      exact SqL.of (s0 _ _ h8)
    · obtain ⟨y4, y5, y6, y7, y8, rfl, rfl⟩ := h
      rw [List.getElem?_map, List.getElem?_map] at hv
      obtain ⟨m, hm, rfl⟩ := Option.map_eq_some_iff.mp hv
      obtain ⟨⟨m', b⟩, hr', rfl⟩ := Option.map_eq_some_iff.mp hm
      obtain ⟨a, ha, hab⟩ := bx_val h7 nd (List.mem_of_getElem? hr')
      have e := chain_last ((rects 0 0 t).take i) m' b x y
      rw [← take_snoc hr'] at e
      refine ⟨l, T.C_Laid, dx, _, _, rfl, hx, T.cl_Laid, T.na_Laid_places, (by rw [lk_ne, lk_ne, lk_ne, lk_eq]), PL, .ref a, rfl, ha ▸ DGet.k (k := Sum.inr m') (s0 _ _ h6), ?_⟩
      refine ⟨a, _, rfl, SqT.of (s0 _ _ hab), rfl, _, _, rfl, _, _, rfl, _, _, rfl, _, _, rfl, rfl, ?_⟩
      have no : inB b x y = false → (chain ((rects 0 0 t).take (i + 1)) x y).getLast? = (chain ((rects 0 0 t).take i) x y).getLast? := fun h => by rw [e, if_neg (by rw [h]; decide)]
      have neg : ¬ (b.1 ≤ x ∧ x < b.1 + b.2.2.1 ∧ b.2.1 ≤ y ∧ y < b.2.1 + b.2.2.2) → inB b x y = false := fun h => by
        cases hb : inB b x y with
        | false => rfl
        | true => exact absurd (inB_iff.mp hb) h
      refine ⟨fun e1 => ⟨fun e2 => ⟨fun e3 => ⟨fun e4 => ?_, fun e4 => ?_⟩, fun e3 => ⟨ff, fun _ => ?_⟩⟩, fun e2 => ⟨ff, fun _ => ?_⟩⟩, fun e1 => ⟨ff, fun _ => ⟨ff, fun _ => ?_⟩⟩⟩
      · have hb : inB b x y = true := inB_iff.mpr ⟨of_decide_eq_true e1, of_decide_eq_true e2, of_decide_eq_true e3, of_decide_eq_true e4⟩
        exact ⟨_, _, _, _, _, by rw [e, if_pos hb]; rfl, rfl⟩
      · exact ⟨_, _, _, _, _, by rw [no (neg fun h => of_decide_eq_false e4 h.2.2.2)]; rfl, rfl⟩
      · exact ⟨_, _, _, _, _, by rw [no (neg fun h => of_decide_eq_false e3 h.2.2.1)]; rfl, rfl⟩
      · exact ⟨_, _, _, _, _, by rw [no (neg fun h => of_decide_eq_false e2 h.2.1)]; rfl, rfl⟩
      · exact ⟨_, _, _, _, _, by rw [no (neg fun h => of_decide_eq_false e1 h.1)]; rfl, rfl⟩
    · obtain ⟨y4, y5, y6, y7, y8, rfl, rfl⟩ := h
      rw [List.length_map, List.length_map, List.take_length]
      exact q

end
end K18
set_option Elab.async false
set_option linter.all false
set_option maxRecDepth 100000
set_option maxHeartbeats 4000000
namespace K18
open PySem PySem.Spec PyProof.Rows L2 XL
section
variable {P : Program} {w : World} {K : PySem.W.Frag} {mg : Str → Option Value} {base : Heap}
section
variable {K : PySem.W.Frag} {a : Addr} {xs : List V} {σ : L2.St}
/-- [e for .. in xs], any target -/
theorem lc_tg {g : TG} {te : TE} {vs : List Nat} {H1 : Hp} {L : Addr} {Qd : Hp → Prop} (Pv : Nat → Hp → Prop) (h0 : Pv 0 (upd H1 L (.lst []))) (hl : ∀ k H, Pv k H → SqL K H a xs)
    (hs : ∀ k x H, xs[k]? = some x → Pv k H → g x (wipe σ vs) H fun σ2 H2 => wipe σ2 vs = wipe σ vs ∧ te σ2 H2 fun y H4 => ∃ acc, H4 L = some (.lst acc) ∧ acc.length < sizeLine ∧ Pv (k + 1) (upd H4 L (.lst (acc ++ [y])))) (hd : ∀ H, Pv xs.length H → Qd H)
    (hg : ∀ x σ H Q Q', (∀ σ' H', Q σ' H' → Q' σ' H') → g x σ H Q → g x σ H Q') :
    ∃ W : Nat → Nat → Hp → Prop, (∃ m, W 0 m (upd H1 L (.lst []))) ∧ ∀ k m H, W k m H →
      ((Itl K a).stop k H ∧ Qd H) ∨ ((Itl K a).go k H ∧ ∃ Nx : Hp → Prop, (∀ H', Nx H' → ∃ m', m' < m ∧ W (k + 1) m' H') ∧ ∀ x H', (Itl K a).yld k H x H' → g x (wipe σ vs) H' fun σ2 H2 => wipe σ2 vs = wipe σ vs ∧ tYes σ2 H2 fun b H3 =>
        if b = true then te σ2 H3 fun y H4 => ∃ acc, H4 L = some (.lst acc) ∧ acc.length < sizeLine ∧ Nx (upd H4 L (.lst (acc ++ [y]))) else Nx H3) := by
  refine loopL (a := a) (B := fun x H' Nx => g x (wipe σ vs) H' fun σ2 H2 => wipe σ2 vs = wipe σ vs ∧ tYes σ2 H2 fun b H3 => if b = true then te σ2 H3 fun y H4 => ∃ acc, H4 L = some (.lst acc) ∧ acc.length < sizeLine ∧ Nx (upd H4 L (.lst (acc ++ [y]))) else Nx H3) Pv h0 hl (fun k x H hx p => ?_) hd
  exact hg _ _ _ _ _ (fun σ' H' q => ⟨q.1, by
    unfold tYes
    dsimp only
    rw [if_pos rfl]
    exact q.2⟩) (hs k x H hx p)
end
theorem gT2_mono {K : PySem.W.Frag} {i j : Nat} : ∀ x σ H (Q Q' : L2.St → Hp → Prop), (∀ σ' H', Q σ' H' → Q' σ' H') → gTup K 2 (gCons (gName i) (gCons (gName j) gNil)) x σ H Q → gTup K 2 (gCons (gName i) (gCons (gName j) gNil)) x σ H Q' := by
  rintro x σ H Q Q' hq ⟨a, ys, h1, h2, h3, x1, r1, h4, x2, r2, h5, h6, h7⟩
  exact ⟨a, ys, h1, h2, h3, x1, r1, h4, x2, r2, h5, h6, hq _ _ h7⟩

/-! ### the law's picture -/
def LnAt (G : Hp) (v : V) (ln : List Str) : Prop := ∃ a, v = .ref a ∧ G a = some (.lst (ln.map V.str))
theorem LnAt.same {G G' : Hp} (s : Same G G') {v : V} {ln : List Str} (h : LnAt G v ln) : LnAt G' v ln := let ⟨a, e, h⟩ := h; ⟨a, e, s _ _ h⟩
def PcAt (G : Hp) (v : V) (p : Nat × List (List Str)) : Prop := ∃ a L us, v = .ref a ∧ G a = some (.tup [.int (p.1 : Nat), .ref L]) ∧ G L = some (.lst us) ∧ Paired (LnAt G) us p.2
theorem PcAt.same {G G' : Hp} (s : Same G G') {v : V} {p : Nat × List (List Str)} (h : PcAt G v p) : PcAt G' v p := by
  obtain ⟨a, L, us, h1, h2, h3, h4⟩ := h
  exact ⟨a, L, us, h1, s _ _ h2, s _ _ h3, prd_imp (fun _ _ => LnAt.same s) h4⟩
def spPict (K : PySem.W.Frag) (n : Nat) : Sp := fun vs H Q _ => ∃ (G : Hp) (M : List (Addr × HO)) (v : V) (t : Tr), vs = [v] ∧ Sep G M H ∧ Dp K G v (toD t) ∧ hgt t ≤ n ∧ (pre t).length ≤ 40 ∧ (∀ p ∈ pre t, (lbl p).length ≤ 20) ∧
  ∀ (v' : V) (G' H' : Hp), Same G G' → PcAt G' v' (nW t, pic t) → Sep G' M H' → Q v' H'
theorem dims {t : Tr} (h1 : (pre t).length ≤ 40) (h2 : ∀ p ∈ pre t, (lbl p).length ≤ 20) : nW t ≤ 800 ∧ nH t ≤ 40 := by
  obtain ⟨a, b⟩ := meas_le 20 t (fun p hp => by have := h2 p hp; omega) (by decide)
  have := nW_eq t; have := nH_eq t
  constructor <;> omega
theorem ok_picture (T : Top K mg w) : ∀ n, FnOk P w K mg base CX0 (n + 1) T.a_picture T.d_picture ["_law_node"] (spPict K n) := by
  intro n
  induction n with
  | zero =>
    refine T.F_picture.ok sc_picture (fun vs H Q E h => ?_) (fun cdv A outer s H vs Q E hr h => ?_)
    · obtain ⟨G, M, v, t, rfl, _⟩ := h
      rfl
    · obtain ⟨G, M, v, t, rfl, _, _, hh, _⟩ := h
      rw [hgt_eq] at hh
      omega
  | succ n G_picture =>
  refine T.F_picture.ok sc_picture (fun vs H Q E h => ?_) (fun cdv A outer s H vs Q E hr h => ?_)
  · obtain ⟨G, M, v, t, rfl, _⟩ := h
    rfl
  · obtain ⟨G, M, v, t, rfl, S, hv, hh, pl, hlb, q⟩ := h
    refine ⟨_, (pss_cons (xs_if (xt_cmp (op_eqK K hr.units) (pe_callB (cr_lenK K) (by rfl) T.m_len (by decide +kernel) (pa_cons (pe_ix (ix_k K) (xv 0) pe_int (fun _ _ => rfl)) pa_nil)) pe_int (nomark _))
      (pss_cons (xs_if (PW.pt (xw_or (xt_cmp (op_eqK K hr.units) (pe_ix (ix_k K) (xv 0) pe_int (fun _ _ => rfl)) pe_str (nomark _)) (pw_or1 (xt_cmp (op_eqK K hr.units) (pe_ix (ix_k K) (xv 0) pe_int (fun _ _ => rfl)) pe_str (nomark _)))))
      (pss_one (ps_ret (pe_tup (pa_cons pe_int (pa_cons (pe_lst pa_nil) pa_nil)))))
      pss_nil)
      (pss_one (ps_ret (pe_tup (pa_cons (pe_callB (cr_lenK K) (by rfl) T.m_len (by decide +kernel) (pa_cons (pe_ix (ix_k K) (xv 0) pe_int (fun _ _ => rfl)) pa_nil)) (pa_cons (pe_lst (pa_cons (pe_op op_mulY (pe_lst (pa_cons (pe_ix (ix_k K) (xv 0) pe_int (fun _ _ => rfl)) pa_nil)) (pe_callB (cr_lenK K) (by rfl) T.m_len (by decide +kernel) (pa_cons (pe_ix (ix_k K) (xv 0) pe_int (fun _ _ => rfl)) pa_nil))) pa_nil)) pa_nil))))))
      pss_nil)
      (pss_cons (ps_setLc (i := 1) (own := [("_law_child", 8)]) (by rfl) sc_picture.nd rfl rfl (sw_true rfl rfl rfl (by decide +kernel)) (pi_tupK K (pe_ix (ix_k K) (xv 0) pe_int (fun _ _ => rfl))) (blkOk_by (N := ["_law_node", "_law_inner", "_law_lines", "_law_most", "_law_wide", "_law_told", "_law_y", "_law_line", "_law_child"]) (sc := defScope s_picture) (by decide +kernel)) (fun _ _ _ _ _ => (pg_name (i := 8) sc_picture.nd rfl (.inl rfl))) (fun _ _ _ _ _ => pts_nil) (fun _ _ _ _ _ => (pe_call G_picture (hr.mono (by omega)) (by rfl) T.g_picture T.F_picture.kp T.b_picture .nil pass0 (pa_cons (xv 8) pa_nil))))
      (pss_cons (ps_set (i := 2) sc_picture.nd rfl (.inl rfl) (pe_lst pa_nil))
      (pss_cons (ps_set (i := 3) sc_picture.nd rfl (.inr rfl) pe_int)
      (pss_cons (xs_if (xt_cmp (op_eqK K hr.units) (pe_ix (ix_k K) (xv 0) pe_int (fun _ _ => rfl)) pe_str (nomark _))
      (pss_cons (ps_for PassesOwn.never rfl (pi_listK K (xv 1)) (pg_tupK K 2 (pgs_cons (pg_name (i := 4) sc_picture.nd rfl (.inr rfl)) (pgs_cons (pg_name (i := 5) sc_picture.nd rfl (.inl rfl)) pgs_nil)))
      (pss_one (xs_if (xt_cmp op_gtY (pe_callB (cr_lenK K) (by rfl) T.m_len (by decide +kernel) (pa_cons (xv 5) pa_nil)) (xv 3) (nomark _))
      (pss_one (ps_set (i := 3) sc_picture.nd rfl (.inr rfl) (pe_callB (cr_lenK K) (by rfl) T.m_len (by decide +kernel) (pa_cons (xv 5) pa_nil))))
      pss_nil)))
      (pss_cons (ps_for PassesOwn.never rfl (pi_range1 (by rfl) T.m_range (pa_cons (xv 3) pa_nil)) (pg_name (i := 6) sc_picture.nd rfl (.inl rfl))
      (pss_cons (ps_set (i := 7) sc_picture.nd rfl (.inl rfl) (pe_lst pa_nil))
      (pss_cons (ps_for PassesOwn.never rfl (pi_listK K (xv 1)) (pg_tupK K 2 (pgs_cons (pg_name (i := 4) sc_picture.nd rfl (.inr rfl)) (pgs_cons (pg_name (i := 5) sc_picture.nd rfl (.inl rfl)) pgs_nil)))
      (pss_one (ps_expr (pe_bmK K PySem.F.plainAttrs_list PySem.F.slot_list_extend PySem.F.type_list_extend mt_extend (xv 7) (pa_cons (xe_if (xt_cmp op_ltY (xv 6) (pe_callB (cr_lenK K) (by rfl) T.m_len (by decide +kernel) (pa_cons (xv 5) pa_nil)) (nomark _)) (pe_ix (ix_k K) (xv 5) (xv 6) (fun _ _ => rfl)) (pe_op op_mulY (pe_lst (pa_cons (pe_ix (ix_k K) (xv 0) pe_int (fun _ _ => rfl)) pa_nil)) (xv 4))) pa_nil)))))
      (pss_one (ps_expr (pe_bmK K PySem.F.plainAttrs_list PySem.F.slot_list_append PySem.F.type_list_append mt_append (xv 2) (pa_cons (xv 7) pa_nil)))))))
      (pss_one (ps_ret (pe_tup (pa_cons (pe_callB (cr_sumK K rfl) (by rfl) T.m_sum (by decide +kernel) (pa_cons (pe_lc (own := [("_law_wide", 4), ("_law_told", 5)]) (by rfl) sc_picture.nd (pi_listK K (xv 1)) (blkOk_by (N := ["_law_node", "_law_inner", "_law_lines", "_law_most", "_law_wide", "_law_told", "_law_y", "_law_line", "_law_child"]) (sc := defScope s_picture) (by decide +kernel)) (fun _ _ _ _ _ => (pg_tupK K 2 (pgs_cons (pg_name (i := 4) sc_picture.nd rfl (.inl rfl)) (pgs_cons (pg_name (i := 5) sc_picture.nd rfl (.inl rfl)) pgs_nil)))) (fun _ _ _ _ _ => pts_nil) (fun _ _ _ _ _ => (xv 4))) pa_nil)) (pa_cons (xv 2) pa_nil)))))))
      pss_nil)
      (pss_cons (ps_for PassesOwn.never rfl (pi_listK K (xv 1)) (pg_tupK K 2 (pgs_cons (pg_name (i := 4) sc_picture.nd rfl (.inr rfl)) (pgs_cons (pg_name (i := 5) sc_picture.nd rfl (.inl rfl)) pgs_nil)))
      (pss_one (xs_if (xt_cmp op_gtY (xv 4) (xv 3) (nomark _))
      (pss_one (ps_set (i := 3) sc_picture.nd rfl (.inr rfl) (xv 4)))
      pss_nil)))
      (pss_cons (ps_for PassesOwn.never rfl (pi_listK K (xv 1)) (pg_tupK K 2 (pgs_cons (pg_name (i := 4) sc_picture.nd rfl (.inr rfl)) (pgs_cons (pg_name (i := 5) sc_picture.nd rfl (.inl rfl)) pgs_nil)))
      (pss_one (ps_expr (pe_bmK K PySem.F.plainAttrs_list PySem.F.slot_list_extend PySem.F.type_list_extend mt_extend (xv 2) (pa_cons (pe_lc (own := [("_law_line", 7)]) (by rfl) sc_picture.nd (pi_listK K (xv 5)) (blkOk_by (N := ["_law_node", "_law_inner", "_law_lines", "_law_most", "_law_wide", "_law_told", "_law_y", "_law_line", "_law_child"]) (sc := defScope s_picture) (by decide +kernel)) (fun _ _ _ _ _ => (pg_name (i := 7) sc_picture.nd rfl (.inl rfl))) (fun _ _ _ _ _ => pts_nil) (fun _ _ _ _ _ => (pe_op op_addY (xv 7) (pe_op op_mulY (pe_lst (pa_cons (pe_ix (ix_k K) (xv 0) pe_int (fun _ _ => rfl)) pa_nil)) (pe_op op_subY (xv 3) (xv 4)))))) pa_nil)))))
      (pss_one (ps_ret (pe_tup (pa_cons (xv 3) (pa_cons (xv 2) pa_nil)))))))))))), ?_⟩
    obtain ⟨a0, kv, kus, rfl, ha0, hkv, hkus⟩ := node_at hv
    have kl := dpa_len hkus
    rw [List.length_map] at kl
    obtain ⟨dW, dH⟩ := dims pl hlb
    have l20 := hlb t (self_pre t)
    have kml := many_le (kids t)
    have epre := congrArg List.length (pre_eq t)
    rw [List.length_cons] at epre
    refine ⟨_, _, .inr (S.t ha0), atI_nat (j := 2) rfl, kus, .inr (S.t hkv), fun e => ?_, fun e => ?_⟩
    · have hk : kids t = [] := List.length_eq_zero_iff.mp (by have := of_decide_eq_true e; omega)
      have ep := pic_leaf hk
      have em := meas_leaf hk
      have leaf0 : lbl t = "row" ∨ lbl t = "col" → pic t = [] ∧ nW t = 0 := fun h => by
        rw [if_pos h] at ep em
        exact ⟨ep, by unfold nW; rw [em]; rfl⟩
      have ret0 : lbl t = "row" ∨ lbl t = "col" → ∀ (H' : Hp), H' = H → ∀ p, H' p = none → ∀ p2, (upd H' p (.lst [])) p2 = none → Q (.ref p2) (upd (upd H' p (.lst [])) p2 (.tup [.int 0, .ref p])) := fun h H' eH p np p2 np2 => by
        subst eH
        obtain ⟨G1, s1, S1, h1⟩ := Sep.mk (o := .lst []) S np
        obtain ⟨G2, s2, S2, h2⟩ := Sep.mk (o := .tup [.int 0, .ref p]) S1 np2
        obtain ⟨e1, e2⟩ := leaf0 h
        exact q _ G2 _ (s1.trans s2) ⟨p2, p, [], rfl, by rw [e2]; exact h2, s2 _ _ h1, by rw [e1]; exact .nil⟩ S2
      refine ⟨_, _, .inr (S.t ha0), atI_nat (j := 1) rfl, fun e1 => ⟨fun _ => ⟨XL.sz, fun p np => ⟨XL.sz, fun p2 np2 => ret0 (.inl (of_decide_eq_true e1)) _ rfl p np p2 np2⟩⟩, tt⟩, fun e1 => ⟨_, _, .inr (S.t ha0), atI_nat (j := 1) rfl, fun e2 => ⟨XL.sz, fun p np => ⟨XL.sz, fun p2 np2 => ret0 (.inr (of_decide_eq_true e2)) _ rfl p np p2 np2⟩⟩, fun e2 => ?_⟩⟩
      have n1 : ¬ (lbl t = "row" ∨ lbl t = "col") := fun h => h.elim (of_decide_eq_false e1) (of_decide_eq_false e2)
      rw [if_neg n1] at ep em
      have ew : nW t = (lbl t).length := by unfold nW; rw [em]; exact Int.toNat_natCast _
      refine ⟨_, _, .inr (S.t ha0), atI_nat (j := 1) rfl, small (by omega), _, _, .inr (S.t ha0), atI_nat (j := 0) rfl, XL.sz, fun p np => ?_⟩
      obtain ⟨G1, s1, S1, h1⟩ := Sep.mk (o := .lst [.str (mrk t)]) S np
      refine ⟨_, _, .inr (S1.t (same_t s1 ha0)), atI_nat (j := 1) rfl, small (by omega), p, _, _, rfl, rfl, S1.st h1, by omega, by omega, small (by simp only [List.length_singleton]; omega), fun p2 np2 => ?_⟩
      have er : (List.replicate (((lbl t).length : Nat) : Int).toNat [V.str (mrk t)]).flatten = (List.replicate (lbl t).length (mrk t)).map V.str := by simp
      rw [er]
      obtain ⟨G2, s2, S2, h2⟩ := Sep.mk (o := .lst ((List.replicate (lbl t).length (mrk t)).map V.str)) S1 np2
      refine ⟨XL.sz, fun p3 np3 => ?_⟩
      obtain ⟨G3, s3, S3, h3⟩ := Sep.mk (o := .lst [.ref p2]) S2 np3
      refine ⟨XL.sz, fun p4 np4 => ?_⟩
      obtain ⟨G4, s4, S4, h4⟩ := Sep.mk (o := .tup [.int ((lbl t).length : Nat), .ref p3]) S3 np4
      exact q _ G4 _ (s1.trans (s2.trans (s3.trans s4))) ⟨p4, p3, [.ref p2], rfl, by rw [ew]; exact h4, s4 _ _ h3, by rw [ep]; exact .cons ⟨p2, rfl, (s3.trans s4) _ _ h2⟩ .nil⟩ S4
    · have hk : kids t ≠ [] := fun hk => by
        rw [hk] at kl
        exact of_decide_eq_false e (by rw [kl]; rfl)
      refine ⟨_, _, .inr (S.t ha0), atI_nat (j := 2) rfl, kv, rfl, ⟨kus, S.t hkv⟩, fun IN nIN => lc_tup (xs := kus) (fun i H' => ∃ (ws : List V) (G' : Hp), Same G G' ∧ Paired (PcAt G') ws ((pics (kids t)).take i) ∧ ws.length = i ∧ Sep G' ((IN, .lst ws) :: M) H') ⟨[], G, Same.refl _, .nil, rfl, S.new nIN⟩ (fun i H' _ h => ?_) (fun i y H' hy h => ?_) (fun H1 h => ?_)⟩
      · obtain ⟨_, G', s', _, _, S'⟩ := h
        exact S'.t (same_t s' hkv)
      · obtain ⟨ws, G', s', hws, wl, S'⟩ := h
        obtain ⟨d, hd, hyd⟩ := dpa_get hkus hy
        obtain ⟨c, hc, rfl⟩ := map_get hd
        have hcm := List.mem_of_getElem? hc
        have hcp : c ∈ pre t := kid_pre (self_pre t) hcm
        have il := (List.getElem?_eq_some_iff.mp hy).1
        have cl : (pre c).length ≤ 40 := by
          have := congrArg List.length (take_pre hc).1
          have e2 := congrArg List.length (congrArg pres (take_pre hc).1)
          rw [pres_app, List.length_append] at e2
          simp only [pres, List.length_append] at e2
          omega
        refine ⟨rfl, G', _, y, c, rfl, S', dp_same s' hyd, by have := hgt_kid hcm; omega, cl, fun p hp => hlb p (pre_trans t hcp hp), fun v' G2 H2 s2 hv' S2 => ?_⟩
        refine ⟨ws, S2.hd, smallL (by omega), ws ++ [v'], G2, s'.trans s2, ?_, by rw [List.length_append, wl]; rfl, S2.set⟩
        rw [take_snoc (show (pics (kids t))[i]? = some (nW c, pic c) by rw [pics_eq, List.getElem?_map, hc]; rfl)]
        exact prd_app (prd_imp (fun _ _ => PcAt.same s2) hws) (.cons hv' .nil)
      obtain ⟨ws, G1, s1, hws, wl, S1⟩ := h
      have pil : (pics (kids t)).length = (kids t).length := by rw [pics_eq, List.length_map]
      rw [kl, ← pil, List.take_length] at hws
      obtain ⟨G2, s2, S2, hIN⟩ := Sep.keep S1
      have s02 := s1.trans s2
      have hws := prd_imp (fun _ _ => PcAt.same s2) hws
      have wl2 : ws.length = (kids t).length := by rw [wl, kl]
      have pok : ∀ k ∈ kids t, PicOk k := fun k _ => pic_ok k
      refine ⟨XL.sz, fun L nL => ?_⟩
      have S3 := S2.new (o := .lst []) nL
      have d3 : ∀ p ∈ pics (kids t), p.1 ≤ 800 ∧ p.2.length ≤ 40 := fun p hp => by
        rw [pics_eq] at hp
        obtain ⟨c, hc, rfl⟩ := List.mem_map.mp hp
        have hcp : c ∈ pre t := kid_pre (self_pre t) hc
        have := sub_len hcp
        have cl : (pre c).length ≤ 40 := by
          obtain ⟨i, hi⟩ := List.getElem?_of_mem hc
          have e2 := congrArg List.length (congrArg pres (take_pre hi).1)
          rw [pres_app, List.length_append] at e2
          simp only [pres, List.length_append] at e2
          omega
        have := dims cl fun p hp => hlb p (pre_trans t hcp hp)
        exact ⟨this.1, by show (pic c).length ≤ 40; rw [(pic_ok c).hh]; exact this.2⟩
      refine ⟨_, _, .inr (S3.t (same_t s02 ha0)), atI_nat (j := 1) rfl, fun e1 => ?_, fun e1 => ?_⟩
      · have hl : lbl t = "row" := of_decide_eq_true e1
        have ep := pic_row hk hl
        have em := meas_row hk hl
        have mH := mx_H pok
        have e2 := nH_eq t
        have e3 := nW_eq t
        rw [em] at e2 e3
        simp only at e2 e3
        refine ⟨IN, rfl, ⟨_, SqL.of (S3.st hIN)⟩, for_list (xs := ws) (fun i σ H' => ∃ (y4 y5 : Option V), σ = [some (.ref a0), some (.ref IN), some (.ref L), some (.int ((mx (((pics (kids t)).take i).map fun p => p.2.length) : Nat) : Int)), y4, y5, none, none, none] ∧ Sep G2 ((L, .lst []) :: M) H') ⟨_, _, rfl, S3⟩ (fun i σ H' _ h => ?_) (fun i u σ H' hu h => ?_) (fun σ H' h => ?_)⟩
        · obtain ⟨_, _, _, S'⟩ := h
          exact SqL.of (S'.st hIN)
        · obtain ⟨y4, y5, rfl, S'⟩ := h
          obtain ⟨p, hp, a, Lp, us, rfl, ha, hLp, hus⟩ := prd_get hws hu
          have ul := prd_len hus
          have e4 := mx_snoc (((pics (kids t)).take i).map fun p => p.2.length) p.2.length
          rw [show (((pics (kids t)).take i).map fun p => p.2.length) ++ [p.2.length] = ((pics (kids t)).take (i + 1)).map fun p => p.2.length by rw [take_snoc hp, List.map_append]; rfl] at e4
          refine ⟨a, _, rfl, SqT.of (S'.st ha), rfl, _, _, rfl, _, _, rfl, rfl, us, .inl (SqL.of (S'.st hLp)), fun e5 => ?_, fun e5 => ?_⟩
          · have e5 := of_decide_eq_true e5
            rw [if_pos (by omega)] at e4
            exact ⟨us, .inl (SqL.of (S'.st hLp)), _, _, by rw [e4, ← ul]; rfl, S'⟩
          · have e5 := of_decide_eq_false e5
            rw [if_neg (by omega)] at e4
            exact ⟨_, _, by rw [e4]; rfl, S'⟩
        · obtain ⟨y4, y5, rfl, S4⟩ := h
          rw [wl2, ← pil, List.take_length]
          have eM : mx ((pics (kids t)).map fun p => p.2.length) = nH t := by omega
          rw [eM]
          refine ⟨_, rfl, by omega, by omega, for_range (lo := 0) (n := nH t) (fun y σ H' => ∃ (y4 y5 y6 y7 : Option V) (ls : List V) (G' : Hp), σ = [some (.ref a0), some (.ref IN), some (.ref L), some (.int (nH t : Nat)), y4, y5, y6, y7, none] ∧ Same G2 G' ∧ Paired (LnAt G') ls ((List.range y).map (lineOf (mrk t) (pics (kids t)))) ∧ Sep G' ((L, .lst ls) :: M) H') ⟨_, _, _, _, [], G2, rfl, Same.refl _, .nil, S4⟩ (fun y σ H' hy h => ?_) (fun σ H' h => ?_)⟩
          · obtain ⟨y4, y5, y6, y7, ls, G', rfl, s', hls, S'⟩ := h
            have lsl := prd_len hls
            rw [List.length_map, List.length_range] at lsl
            refine ⟨XL.sz, fun LN nLN => ?_⟩
            have S5 := S'.new (o := .lst []) nLN
            refine ⟨IN, rfl, ⟨_, SqL.of (S5.st (s' _ _ hIN))⟩, for_list (xs := ws) (fun i σ H' => ∃ (y4 y5 : Option V) (G'' : Hp), σ = [some (.ref a0), some (.ref IN), some (.ref L), some (.int (nH t : Nat)), y4, y5, some (.int (0 + (y : Nat))), some (.ref LN), none] ∧ Same G' G'' ∧ Sep G'' ((LN, .lst ((lineOf (mrk t) ((pics (kids t)).take i) y).map V.str)) :: (L, .lst ls) :: M) H') ⟨_, _, G', rfl, Same.refl _, S5⟩ (fun i σ H' _ h => ?_) (fun i u σ H' hu h => ?_) (fun σ H' h => ?_)⟩
            · obtain ⟨_, _, G'', _, s'', S''⟩ := h
              exact SqL.of (S''.st (s'' _ _ (s' _ _ hIN)))
            · obtain ⟨y4, y5, G'', rfl, s'', S''⟩ := h
              obtain ⟨p, hp, a, Lp, us, rfl, ha, hLp, hus⟩ := prd_get hws hu
              have il := (List.getElem?_eq_some_iff.mp hp).1
              have ul := prd_len hus
              have s3 := s'.trans s''
              have dp := d3 p (List.mem_of_getElem? hp)
              have e4 : lineOf (mrk t) ((pics (kids t)).take (i + 1)) y = lineOf (mrk t) ((pics (kids t)).take i) y ++ p.2.getD y (List.replicate p.1 (mrk t)) := by
                rw [take_snoc hp]; unfold lineOf; simp only [List.flatMap_append, List.flatMap_cons, List.flatMap_nil, List.append_nil]
              have ll : (lineOf (mrk t) ((pics (kids t)).take i) y).length ≤ 800 ∧ (p.2.getD y (List.replicate p.1 (mrk t))).length ≤ 800 := by
                have h1 := line_len (m := mrk t) y pok
                have h2 : lineOf (mrk t) (pics (kids t)) y = lineOf (mrk t) ((pics (kids t)).take i) y ++ (p.2.getD y (List.replicate p.1 (mrk t)) ++ lineOf (mrk t) ((pics (kids t)).drop (i + 1)) y) := by
                  conv => lhs; rw [(take_pre hp).1]
                  unfold lineOf
                  simp only [List.flatMap_append, List.flatMap_cons]
                have h3 := congrArg List.length h2
                rw [List.length_append, List.length_append] at h3
                constructor <;> omega
              refine ⟨a, _, rfl, SqT.of (S''.st (s3 _ _ ha)), rfl, _, _, rfl, _, _, rfl, rfl, ?_⟩
              refine ⟨.inl ⟨rfl, _, SqL.of S''.hd⟩, us, .inl (SqL.of (S''.st (s3 _ _ hLp))), fun e5 => ?_, fun e5 => ?_⟩
              · have e5 := of_decide_eq_true e5
                have yl : y < us.length := by omega
                obtain ⟨ln, hln, b, eb, hb⟩ := prd_get hus (List.getElem?_eq_getElem yl)
                have e6 : p.2.getD y (List.replicate p.1 (mrk t)) = ln := by rw [List.getD_eq_getElem?_getD, hln]; rfl
                rw [e6] at e4 ll
                refine ⟨_, _, .inl (SqL.of (S''.st (s3 _ _ hLp))), by rw [Int.zero_add]; exact atI_nat (by rw [List.getElem?_eq_getElem yl, eb]), LN, b, _, _, rfl, rfl, S''.hd, S''.st (s3 _ _ hb), small (by rw [List.length_map, List.length_map]; omega), ?_⟩
                refine ⟨_, _, G'', rfl, s'', ?_⟩
                rw [e4, List.map_append]
                exact S''.set
              · have e5 := of_decide_eq_false e5
                have e6 : p.2.getD y (List.replicate p.1 (mrk t)) = List.replicate p.1 (mrk t) := by rw [List.getD_eq_getElem?_getD, List.getElem?_eq_none (l := p.2) (by omega)]; rfl
                rw [e6] at e4 ll
                refine ⟨_, _, .inr (S''.t (same_t (s02.trans s3) ha0)), atI_nat (j := 0) rfl, XL.sz, fun q1 nq1 => ?_⟩
                obtain ⟨G6, s6, S6, h6⟩ := Sep.mk (o := .lst [.str (mrk t)]) S'' nq1
                refine ⟨q1, _, _, rfl, rfl, S6.st h6, by omega, by omega, small (by simp only [List.length_singleton]; omega), fun q2 nq2 => ?_⟩
                have er : (List.replicate ((p.1 : Nat) : Int).toNat [V.str (mrk t)]).flatten = (List.replicate p.1 (mrk t)).map V.str := by simp
                rw [er]
                obtain ⟨G7, s7, S7, h7⟩ := Sep.mk (o := .lst ((List.replicate p.1 (mrk t)).map V.str)) S6 nq2
                refine ⟨LN, q2, _, _, rfl, rfl, S7.hd, S7.st h7, small (by rw [List.length_map, List.length_map]; omega), ?_⟩
                refine ⟨_, _, G7, rfl, s''.trans (s6.trans s7), ?_⟩
                rw [e4, List.map_append]
                exact S7.set
            · obtain ⟨y4, y5, G'', rfl, s'', S''⟩ := h
              rw [wl2, ← pil, List.take_length] at S''
              obtain ⟨G6, s6, S6, h6⟩ := Sep.keep S''
              refine ⟨.inl ⟨rfl, _, SqL.of S6.hd⟩, L, _, _, rfl, rfl, S6.hd, smallL (by omega), ?_⟩
              refine ⟨_, _, _, _, ls ++ [.ref LN], G6, rfl, s'.trans (s''.trans s6), ?_, S6.set⟩
              rw [List.range_succ, List.map_append]
              exact prd_app (prd_imp (fun _ _ => LnAt.same (s''.trans s6)) hls) (.cons ⟨LN, rfl, h6⟩ .nil)
          · obtain ⟨y4, y5, y6, y7, ls, G', rfl, s', hls, S'⟩ := h
            have epl : (List.range (nH t)).map (lineOf (mrk t) (pics (kids t))) = pic t := by rw [ep]; unfold rowPic; rw [eM]
            rw [epl] at hls
            refine ⟨IN, rfl, ⟨_, SqL.of (S'.st (s' _ _ hIN))⟩, fun Z nZ => lc_tg (xs := ws) (fun i H' => Sep G' ((Z, .lst ((((pics (kids t)).take i).map fun p => ((p.1 : Nat) : Int)).map V.int)) :: (L, .lst ls) :: M) H') (S'.new nZ) (fun i H' S'' => SqL.of (S''.st (s' _ _ hIN))) (fun i u H' hu S'' => ?_) (fun H' S'' => ?_) gT2_mono⟩
            · obtain ⟨p, hp, a, Lp, us, rfl, ha, hLp, hus⟩ := prd_get hws hu
              have il := (List.getElem?_eq_some_iff.mp hp).1
              refine ⟨a, _, rfl, SqT.of (S''.st (s' _ _ ha)), rfl, _, _, rfl, _, _, rfl, rfl, rfl, _, S''.hd, smallL (by simp only [List.length_map, List.length_take]; omega), ?_⟩
              rw [take_snoc hp, List.map_append, List.map_append]
              exact S''.set
            · rw [wl2, ← pil, List.take_length] at S''
              have es : ∀ ks : List Tr, ((pics ks).map fun p => ((p.1 : Nat) : Int)).sum = sW ks := fun ks => by
                induction ks with
                | nil => rfl
                | cons k r ih =>
                  simp only [pics, List.map_cons, List.sum_cons, sW, ih, nW_eq]
              refine ⟨Z, _, rfl, SqL.of S''.hd, XL.sz, fun p8 np8 => ?_⟩
              rw [es, ← e3]
              obtain ⟨G8, s8, S8, h8⟩ := Sep.keep S''.drop
              obtain ⟨G9, s9, S9, h9⟩ := Sep.mk (o := .tup [.int (nW t : Nat), .ref L]) S8 np8
              exact q _ G9 _ (s02.trans (s'.trans (s8.trans s9))) ⟨p8, L, ls, rfl, h9, s9 _ _ h8, prd_imp (fun _ _ => LnAt.same (s8.trans s9)) hls⟩ S9
      · have hl : ¬ lbl t = "row" := of_decide_eq_false e1
        have ep := pic_col hk hl
        have em := meas_col hk hl
        have mW := mx_W (kids t)
        have e2 := nH_eq t
        have e3 := nW_eq t
        rw [em] at e2 e3
        simp only at e2 e3
        have eM : mx ((pics (kids t)).map (·.1)) = nW t := by omega
        refine ⟨IN, rfl, ⟨_, SqL.of (S3.st hIN)⟩, for_list (xs := ws) (fun i σ H' => ∃ (y4 y5 : Option V), σ = [some (.ref a0), some (.ref IN), some (.ref L), some (.int ((mx (((pics (kids t)).take i).map (·.1)) : Nat) : Int)), y4, y5, none, none, none] ∧ Sep G2 ((L, .lst []) :: M) H') ⟨_, _, rfl, S3⟩ (fun i σ H' _ h => ?_) (fun i u σ H' hu h => ?_) (fun σ H' h => ?_)⟩
        · obtain ⟨_, _, _, S'⟩ := h
          exact SqL.of (S'.st hIN)
        · obtain ⟨y4, y5, rfl, S'⟩ := h
          obtain ⟨p, hp, a, Lp, us, rfl, ha, hLp, hus⟩ := prd_get hws hu
          have e4 := mx_snoc (((pics (kids t)).take i).map (·.1)) p.1
          rw [show (((pics (kids t)).take i).map (·.1)) ++ [p.1] = ((pics (kids t)).take (i + 1)).map (·.1) by rw [take_snoc hp, List.map_append]; rfl] at e4
          refine ⟨a, _, rfl, SqT.of (S'.st ha), rfl, _, _, rfl, _, _, rfl, rfl, fun e5 => ?_, fun e5 => ?_⟩
          · have e5 := of_decide_eq_true e5
            rw [if_pos (by omega)] at e4
            exact ⟨_, _, by rw [e4]; rfl, S'⟩
          · have e5 := of_decide_eq_false e5
            rw [if_neg (by omega)] at e4
            exact ⟨_, _, by rw [e4]; rfl, S'⟩
        · obtain ⟨y4, y5, rfl, S4⟩ := h
          rw [wl2, ← pil, List.take_length, eM]
          have p1le : ∀ p ∈ pics (kids t), p.1 ≤ nW t := fun p hp => by rw [← eM]; exact mx_mem (List.mem_map_of_mem (f := (·.1)) hp)
          refine ⟨IN, rfl, ⟨_, SqL.of (S4.st hIN)⟩, for_list (xs := ws) (fun i σ H' => ∃ (y4 y5 : Option V) (ls : List V) (G' : Hp), σ = [some (.ref a0), some (.ref IN), some (.ref L), some (.int (nW t : Nat)), y4, y5, none, none, none] ∧ Same G2 G' ∧ Paired (LnAt G') ls (colOf (mrk t) (nW t) ((pics (kids t)).take i)) ∧ Sep G' ((L, .lst ls) :: M) H') ⟨_, _, [], G2, rfl, Same.refl _, .nil, S4⟩ (fun i σ H' _ h => ?_) (fun i u σ H' hu h => ?_) (fun σ H' h => ?_)⟩
          · obtain ⟨_, _, _, G', _, s', _, S'⟩ := h
            exact SqL.of (S'.st (s' _ _ hIN))
          · obtain ⟨y4, y5, ls, G', rfl, s', hls, S'⟩ := h
            obtain ⟨p, hp, a, Lp, us, rfl, ha, hLp, hus⟩ := prd_get hws hu
            have ul := prd_len hus
            have dp := d3 p (List.mem_of_getElem? hp)
            have pw := p1le p (List.mem_of_getElem? hp)
            have hus' := prd_imp (fun _ _ => LnAt.same s') hus
            have e4 : colOf (mrk t) (nW t) ((pics (kids t)).take (i + 1)) = colOf (mrk t) (nW t) ((pics (kids t)).take i) ++ p.2.map fun ln => ln ++ List.replicate (nW t - p.1) (mrk t) := by
              rw [take_snoc hp]; unfold colOf; simp only [List.flatMap_append, List.flatMap_cons, List.flatMap_nil, List.append_nil]
            have lsl := prd_len hls
            have cl := col_len (mrk t) (nW t) pok
            have cl2 : (colOf (mrk t) (nW t) ((pics (kids t)).take i)).length ≤ 40 := by
              have h2 : colOf (mrk t) (nW t) (pics (kids t)) = colOf (mrk t) (nW t) ((pics (kids t)).take i) ++ colOf (mrk t) (nW t) ((pics (kids t)).drop i) := by
                conv => lhs; rw [← List.take_append_drop i (pics (kids t))]
                unfold colOf
                rw [List.flatMap_append]
              have h3 := congrArg List.length h2
              rw [List.length_append] at h3
              omega
            have lnl : ∀ ln ∈ p.2, ln.length ≤ 800 := fun ln hln => by
              have hm := List.mem_of_getElem? hp
              rw [pics_eq] at hm
              obtain ⟨c, hc, rfl⟩ := List.mem_map.mp hm
              have := (pic_ok c).ww ln hln
              omega
            refine ⟨a, _, rfl, SqT.of (S'.st (s' _ _ ha)), rfl, _, _, rfl, _, _, rfl, rfl, ?_⟩
            refine ⟨.inl ⟨rfl, _, SqL.of S'.hd⟩, Lp, rfl, ⟨_, SqL.of (S'.st (s' _ _ hLp))⟩, fun Z nZ => lc_at (xs := us) (fun j H' => ∃ (zs : List V) (G'' : Hp), Same G' G'' ∧ Paired (LnAt G'') zs ((p.2.map fun ln => ln ++ List.replicate (nW t - p.1) (mrk t)).take j) ∧ zs.length = j ∧ Sep G'' ((Z, .lst zs) :: (L, .lst ls) :: M) H') ⟨[], G', Same.refl _, .nil, rfl, S'.new nZ⟩ (fun j H' h => ?_) (fun _ => rfl) (fun j y H' hy h => ?_) (fun H' h => ?_)⟩
            · obtain ⟨_, G'', s'', _, _, S''⟩ := h
              exact SqL.of (S''.st (s'' _ _ (s' _ _ hLp)))
            · obtain ⟨zs, G'', s'', hzs, zl, S''⟩ := h
              obtain ⟨ln, hln, b, rfl, hb⟩ := prd_get hus' hy
              have jl := (List.getElem?_eq_some_iff.mp hy).1
              have ll := lnl ln (List.mem_of_getElem? hln)
              refine ⟨_, _, .inr (S''.t (same_t (s02.trans (s'.trans s'')) ha0)), atI_nat (j := 0) rfl, XL.sz, fun q1 nq1 => ?_⟩
              obtain ⟨G6, s6, S6, h6⟩ := Sep.mk (o := .lst [.str (mrk t)]) S'' nq1
              refine ⟨q1, _, _, rfl, rfl, S6.st h6, by omega, by omega, small (by simp only [List.length_singleton]; omega), fun q2 nq2 => ?_⟩
              have er : (List.replicate (((nW t : Nat) : Int) - ((p.1 : Nat) : Int)).toNat [V.str (mrk t)]).flatten = (List.replicate (nW t - p.1) (mrk t)).map V.str := by
                rw [show (((nW t : Nat) : Int) - ((p.1 : Nat) : Int)).toNat = nW t - p.1 by omega]
                simp
              rw [er]
              obtain ⟨G7, s7, S7, h7⟩ := Sep.mk (o := .lst ((List.replicate (nW t - p.1) (mrk t)).map V.str)) S6 nq2
              have s67 := s6.trans s7
              refine ⟨b, q2, _, _, rfl, rfl, S7.st ((s''.trans s67) _ _ hb), S7.st h7, small (by rw [List.length_map, List.length_map, List.length_replicate]; omega), fun q3 nq3 => ?_⟩
              rw [← List.map_append]
              obtain ⟨G8, s8, S8, h8⟩ := Sep.mk (o := .lst ((ln ++ List.replicate (nW t - p.1) (mrk t)).map V.str)) S7 nq3
              refine ⟨zs, S8.hd, smallL (by omega), zs ++ [.ref q3], G8, s''.trans (s67.trans s8), ?_, by rw [List.length_append, zl]; rfl, S8.set⟩
              rw [take_snoc (show (p.2.map fun ln => ln ++ List.replicate (nW t - p.1) (mrk t))[j]? = some (ln ++ List.replicate (nW t - p.1) (mrk t)) by rw [List.getElem?_map, hln]; rfl)]
              exact prd_app (prd_imp (fun _ _ => LnAt.same (s67.trans s8)) hzs) (.cons ⟨q3, rfl, h8⟩ .nil)
            · obtain ⟨zs, G'', s'', hzs, zl, S''⟩ := h
              rw [ul, List.take_of_length_le (by rw [List.length_map]; exact Nat.le_refl _)] at hzs
              refine ⟨L, Z, _, _, rfl, rfl, S''.sw.hd, S''.hd, small (by omega), ?_⟩
              refine ⟨_, _, ls ++ zs, G'', rfl, s'.trans s'', ?_, (S''.sw.set (o' := .lst (ls ++ zs))).sw.drop⟩
              rw [e4]
              exact prd_app (prd_imp (fun _ _ => LnAt.same s'') hls) hzs
          · obtain ⟨y4, y5, ls, G', rfl, s', hls, S'⟩ := h
            rw [wl2, ← pil, List.take_length] at hls
            have epl : colOf (mrk t) (nW t) (pics (kids t)) = pic t := by rw [ep]; unfold colPic; rw [eM]
            rw [epl] at hls
            refine ⟨XL.sz, fun p8 np8 => ?_⟩
            obtain ⟨G8, s8, S8, h8⟩ := Sep.keep S'
            obtain ⟨G9, s9, S9, h9⟩ := Sep.mk (o := .tup [.int (nW t : Nat), .ref L]) S8 np8
            exact q _ G9 _ (s02.trans (s'.trans (s8.trans s9))) ⟨p8, L, ls, rfl, h9, s9 _ _ h8, prd_imp (fun _ _ => LnAt.same (s8.trans s9)) hls⟩ S9

end
end K18
set_option Elab.async false
set_option linter.all false
set_option maxRecDepth 100000
set_option maxHeartbeats 4000000
namespace K18
open PySem PySem.Spec PyProof.Rows L2 XL
section
variable {P : Program} {w : World} {K : PySem.W.Frag} {mg : Str → Option Value} {base : Heap}
/-! ### the way down, told in a dict -/
def AbAt (G : Hp) (kv : Key × V) (r : Str × List Str) : Prop := kv.1 = Sum.inr r.1 ∧ ∃ a, kv.2 = .ref a ∧ G a = some (.lst (r.2.map V.str))
theorem AbAt.same {G G' : Hp} (s : Same G G') {kv : Key × V} {r : Str × List Str} (h : AbAt G kv r) : AbAt G' kv r := let ⟨h1, a, h2, h3⟩ := h; ⟨h1, a, h2, s _ _ h3⟩
theorem ab_keys {G : Hp} : ∀ {ks : List (Key × V)} {rs : List (Str × List Str)}, Paired (AbAt G) ks rs → ks.map (·.1) = rs.map fun r => (Sum.inr r.1 : Key)
  | _, _, .nil => rfl
  | _, _, .cons h t => by rw [List.map_cons, List.map_cons, h.1, ab_keys t]
theorem valV_mid {k : Key} {v : V} {r : List (Key × V)} : ∀ {xs : List (Key × V)}, k ∉ xs.map (·.1) → valV (xs ++ (k, v) :: r) k = some v
  | [], _ => valV_pos rfl
  | (k', v') :: xs, h => by
    rw [List.map_cons, List.mem_cons, not_or] at h
    rw [List.cons_append, valV_neg (fun e => h.1 e.symm)]
    exact valV_mid h.2
def spLines (K : PySem.W.Frag) (n : Nat) : Sp := fun vs H Q _ => ∃ (G : Hp) (M : List (Addr × HO)) (v : V) (t : Tr) (ab D : Addr) (p : List Str) (kvs : List (Key × V)), vs = [v, .ref ab, .ref D] ∧ Sep G ((D, .dK kvs) :: M) H ∧ Dp K G v (toD t) ∧ hgt t ≤ n ∧ G ab = some (.lst (p.map V.str)) ∧ ((pre t).map mrk).Nodup ∧
  (∀ m ∈ (pre t).map mrk, (Sum.inr m : Key) ∉ kvs.map (·.1)) ∧ kvs.length + (pre t).length ≤ 100 ∧ p.length + n ≤ 100 ∧
  ∀ (ws : List (Key × V)) (G' H' : Hp), Same G G' → Paired (AbAt G') ws (abv p t) → Sep G' ((D, .dK (kvs ++ ws)) :: M) H' → Q .non H'
theorem ok_lines_of (T : Top K mg w) : ∀ n, FnOk P w K mg base CX0 (n + 1) T.a_lines_of T.d_lines_of ["_law_node", "_law_above", "_law_lines"] (spLines K n) := by
  intro n
  induction n with
  | zero =>
    refine T.F_lines_of.ok sc_lines_of (fun vs H Q E h => ?_) (fun cdv A outer s H vs Q E hr h => ?_)
    · obtain ⟨G, M, v, t, ab, D, p, kvs, rfl, _⟩ := h
      rfl
    · obtain ⟨G, M, v, t, ab, D, p, kvs, rfl, _, _, hh, _⟩ := h
      rw [hgt_eq] at hh
      omega
  | succ n G_lines_of =>
  refine T.F_lines_of.ok sc_lines_of (fun vs H Q E h => ?_) (fun cdv A outer s H vs Q E hr h => ?_)
  · obtain ⟨G, M, v, t, ab, D, p, kvs, rfl, _⟩ := h
    rfl
  · obtain ⟨G, M, v, t, ab, D, p, kvs, rfl, S, hv, hh, hab, nd, fr, kl, pl, q⟩ := h
    refine ⟨_, (pss_cons (ps_dput (hu_of hr) (xv 2) (pe_ix (ix_k K) (xv 0) pe_int (fun _ _ => rfl)) (pe_op op_addY (xv 1) (pe_lst (pa_cons (pe_ix (ix_k K) (xv 0) pe_int (fun _ _ => rfl)) pa_nil))) rfl)
      (pss_one (ps_for PassesOwn.never rfl (pi_tupK K (pe_ix (ix_k K) (xv 0) pe_int (fun _ _ => rfl))) (pg_name (i := 3) sc_lines_of.nd rfl (.inl rfl))
      (pss_one (ps_expr (pe_call G_lines_of (hr.mono (by omega)) (by rfl) T.g_lines_of T.F_lines_of.kp T.b_lines_of .nil pass0 (pa_cons (xv 3) (pa_cons (pe_dget (hu_of hr) (xv 2) (pe_ix (ix_k K) (xv 0) pe_int (fun _ _ => rfl)) (fun _ _ => rfl)) (pa_cons (xv 2) pa_nil))))))))), ?_⟩
    obtain ⟨a0, kv, kus, rfl, ha0, hkv, hkus⟩ := node_at hv
    have kll := dpa_len hkus
    rw [List.length_map] at kll
    have epre := congrArg List.length (pre_eq t)
    rw [List.length_cons] at epre
    have nd0 := nd
    rw [pre_eq, List.map_cons, List.nodup_cons] at nd
    refine ⟨_, _, .inr (S.t ha0), atI_nat (j := 0) rfl, XL.sz, fun p1 np1 => ?_⟩
    obtain ⟨G1, s1, S1, h1⟩ := Sep.mk (o := .lst [.str (mrk t)]) S np1
    refine ⟨ab, p1, _, _, rfl, rfl, S1.st (s1 _ _ hab), S1.st h1, small (by rw [List.length_map, List.length_singleton]; omega), fun p2 np2 => ?_⟩
    have e2 : p.map V.str ++ [V.str (mrk t)] = (p ++ [mrk t]).map V.str := by rw [List.map_append]; rfl
    rw [e2]
    obtain ⟨G2, s2, S2, h2⟩ := Sep.mk (o := .lst ((p ++ [mrk t]).map V.str)) S1 np2
    have s12 := s1.trans s2
    have fm : (Sum.inr (mrk t) : Key) ∉ kvs.map (·.1) := fr _ (by rw [pre_eq]; exact List.mem_cons_self)
    refine ⟨_, _, .inr (S2.t (same_t s12 ha0)), atI_nat (j := 0) rfl, D, _, rfl, DPut.k (k := Sum.inr (mrk t)) S2.hd (smallL (by omega)), ?_⟩
    rw [putK_new (valV_none fm)]
    have S3 := S2.set (o' := .dK (kvs ++ [(Sum.inr (mrk t), V.ref p2)]))
    refine ⟨_, _, .inr (S3.t (same_t s12 ha0)), atI_nat (j := 2) rfl, kv, rfl, ⟨kus, S3.t (same_t s12 hkv)⟩, for_tup (xs := kus) (fun j σ H' => ∃ (y3 : Option V) (ws : List (Key × V)) (G' : Hp), σ = [some (.ref a0), some (.ref ab), some (.ref D), y3] ∧ Same G2 G' ∧ Paired (AbAt G') ws (abvs (p ++ [mrk t]) ((kids t).take j)) ∧ Sep G' ((D, .dK (kvs ++ (Sum.inr (mrk t), V.ref p2) :: ws)) :: M) H') ⟨_, [], G2, rfl, Same.refl _, .nil, S3⟩ (fun j σ H' _ h => ?_) (fun j c σ H' hc h => ?_) (fun σ H' h => ?_)⟩
    · obtain ⟨_, _, G', _, s', _, S'⟩ := h
      exact S'.t (same_t (s12.trans s') hkv)
    · obtain ⟨y3, ws, G', rfl, s', hws, S'⟩ := h
      obtain ⟨d, hd, hcd⟩ := dpa_get hkus hc
      obtain ⟨pc, hpc, rfl⟩ := map_get hd
      have hpm := List.mem_of_getElem? hpc
      have s02 := s12.trans s'
      have ek := congrArg (List.map mrk) (congrArg pres (take_pre hpc).1)
      rw [pres_app] at ek
      simp only [pres, List.map_append] at ek
      have el := congrArg List.length ek
      simp only [List.length_append, List.length_map] at el
      have wk := ab_keys hws
      have wl := prd_len hws
      have am := abvs_marks (p ++ [mrk t]) ((kids t).take j)
      have aml := congrArg List.length am
      rw [List.length_map, List.length_map] at aml
      rw [ek] at nd
      refine ⟨_, _, .inr (S'.t (same_t s02 ha0)), atI_nat (j := 0) rfl, D, .ref p2, rfl, by rw [← valV_mid (r := ws) fm]; exact DGet.k (k := Sum.inr (mrk t)) S'.hd, ?_⟩
      refine ⟨G', M, c, pc, p2, D, p ++ [mrk t], _, rfl, S', dp_same s02 hcd, by have := hgt_kid hpm; omega, s' _ _ h2, ?_, fun m hm hk => ?_, ?_, by rw [List.length_append, List.length_singleton]; omega, fun ws2 G3 H3 s3 hws2 S4 => ?_⟩
      · have := nd.2
        rw [List.nodup_append] at this
        exact (List.nodup_append.mp this.2.1).1
      · rw [List.map_append, List.map_cons, List.mem_append, List.mem_cons, wk] at hk
        rcases hk with hk | hk | hk
        · refine fr m ?_ hk
          rw [pre_eq, List.map_cons, ek]
          exact List.mem_cons_of_mem _ (List.mem_append_right _ (List.mem_append_left _ hm))
        · obtain rfl := Sum.inr.inj hk
          exact nd.1 (List.mem_append_right _ (List.mem_append_left _ hm))
        · obtain ⟨r, hr1, hr2⟩ := List.mem_map.mp hk
          have hr3 : m ∈ (pres ((kids t).take j)).map mrk := by rw [← am]; exact List.mem_map.mpr ⟨r, hr1, Sum.inr.inj hr2⟩
          exact (List.nodup_append.mp nd.2).2.2 m hr3 m (List.mem_append_left _ hm) rfl
      · rw [List.length_append, List.length_cons]
        omega
      · refine ⟨_, ws ++ ws2, G3, rfl, s'.trans s3, ?_, ?_⟩
        · rw [take_snoc hpc, abvs_app]
          simp only [abvs, List.append_nil]
          exact prd_app (prd_imp (fun _ _ => AbAt.same s3) hws) hws2
        · rw [List.append_assoc, List.cons_append] at S4
          exact S4
    · obtain ⟨y3, ws, G', rfl, s', hws, S'⟩ := h
      rw [kll, List.take_length] at hws
      refine q ((Sum.inr (mrk t), V.ref p2) :: ws) G' H' (s12.trans s') ?_ S'
      rw [abv_eq]
      exact .cons ⟨rfl, p2, rfl, s' _ _ h2⟩ hws
/-! ### the drawn page; holds -/
theorem gT3_mono {K : PySem.W.Frag} {i j l : Nat} : ∀ x σ H (Q Q' : L2.St → Hp → Prop), (∀ σ' H', Q σ' H' → Q' σ' H') → gTup K 3 (gCons (gName i) (gCons (gName j) (gCons (gName l) gNil))) x σ H Q → gTup K 3 (gCons (gName i) (gCons (gName j) (gCons (gName l) gNil))) x σ H Q' := by
  rintro x σ H Q Q' hq ⟨a, ys, h1, h2, h3, x1, r1, h4, x2, r2, h5, x3, r3, h6, h7, h8⟩
  exact ⟨a, ys, h1, h2, h3, x1, r1, h4, x2, r2, h5, x3, r3, h6, h7, hq _ _ h8⟩
def cut3 (f : Fr3) : Fr3 := (f.1, cutS f.2.1 none (some 3), f.2.2)
theorem lv_cut : ∀ {p : Nat} {r : List Fr3}, Lv p r → Lv p (r.map cut3)
  | _, [], _ => trivial
  | _, _ :: _, h => ⟨h.1, h.2.1, lv_cut h.2.2⟩
theorem flok_cut {fs : List Fr3} (h : FlOk fs) : FlOk (fs.map cut3) := by
  obtain ⟨x, r, rfl, h0, hl⟩ := h
  exact ⟨cut3 x, r.map cut3, rfl, h0, lv_cut hl⟩
theorem cut3_tx {z : Str} (h : Tx 1 20 z) : Tx 1 20 (cutS z none (some 3)) := by
  have e := cut_to_len z 3
  have h1 := h.lo; have h2 := h.hi
  exact ⟨by rw [show (some (3 : Int)) = some ((3 : Nat) : Int) from rfl, e]; omega, by rw [show (some (3 : Int)) = some ((3 : Nat) : Int) from rfl, e]; omega, fun c hc => h.ch c (cut_mem hc)⟩
def spTree (K : PySem.W.Frag) : Sp := fun vs H Q _ => ∃ (G : Hp) (M : List (Addr × HO)) (b : Addr) (o : HO), vs = [.ref b] ∧ Sep G ((b, o) :: M) H ∧ Bag G o ∧
  ∀ (v : V) (t : Tr) (o' : HO) (G' H' : Hp), Same G G' → Dp K G' v (toD t) → TrOk t → (pre t).length ≤ 40 → Bag G' o' → Sep G' ((b, o') :: M) H' → Q v H'
theorem pre_len {t : Tr} {fs : List Fr3} (h : fl 0 t = fs) : (pre t).length = fs.length := by
  have e := congrArg List.length (fl_pre 0 t)
  rw [h, List.length_map, List.length_map] at e
  exact e.symm
theorem ok_tree (T : Top K mg w) (G_pick : FnOk P w K mg base CX0 2 T.a_pick T.d_pick ["_law_bag_here", "_law_many"] spPick) (G_marks : FnOk P w K mg base CX0 4 T.a_marks T.d_marks ["_law_bag_here", "_law_count"] spMarks) (G_flat : FnOk P w K mg base CX0 5 T.a_flat T.d_flat ["_law_bag_here", "_law_marks_here", "_law_deepest"] spFlat)
    (G_grown : FnOk P w K mg base CX0 1 T.a_grown T.d_grown ["_law_flat_here"] (spGrown K)) : FnOk P w K mg base CX0 7 T.a_tree T.d_tree ["_law_bag_here"] (spTree K) := by
  refine T.F_tree.ok sc_tree (fun vs H Q E h => ?_) (fun cdv A outer s H vs Q E hr h => ?_)
  · obtain ⟨G, M, b, o, rfl, _⟩ := h
    rfl
  · obtain ⟨G, M, b, o, rfl, S, B, q⟩ := h
    refine ⟨_, (pss_cons (xs_if (xt_cmp (op_eqK K hr.units) (pe_call G_pick (hr.mono (by omega)) (by rfl) T.g_pick T.F_pick.kp T.b_pick .nil pass0 (pa_cons (xv 0) (pa_cons pe_int pa_nil))) pe_int (nomark _))
      (pss_cons (ps_set (i := 1) sc_tree.nd rfl (.inl rfl) (pe_call G_flat (hr.mono (by omega)) (by rfl) T.g_flat T.F_flat.kp T.b_flat .nil pass0 (pa_cons (xv 0) (pa_cons (pe_call G_marks (hr.mono (by omega)) (by rfl) T.g_marks T.F_marks.kp T.b_marks .nil pass0 (pa_cons (xv 0) (pa_cons (pe_op op_addY pe_int (pe_call G_pick (hr.mono (by omega)) (by rfl) T.g_pick T.F_pick.kp T.b_pick .nil pass0 (pa_cons (xv 0) (pa_cons pe_int pa_nil)))) pa_nil))) (pa_cons pe_int pa_nil)))))
      (pss_one (ps_ret (pe_call G_grown (hr.mono (by omega)) (by rfl) T.g_grown T.F_grown.kp T.b_grown .nil pass0 (pa_cons (pe_lc (own := [("_law_mark", 2), ("_law_label_here", 3), ("_law_depth", 4)]) (by rfl) sc_tree.nd (pi_listK K (xv 1)) (blkOk_by (N := ["_law_bag_here", "_law_flat_here", "_law_mark", "_law_label_here", "_law_depth"]) (sc := defScope s_tree) (by decide +kernel)) (fun _ _ _ _ _ => (pg_tupK K 3 (pgs_cons (pg_name (i := 2) sc_tree.nd rfl (.inl rfl)) (pgs_cons (pg_name (i := 3) sc_tree.nd rfl (.inl rfl)) (pgs_cons (pg_name (i := 4) sc_tree.nd rfl (.inl rfl)) pgs_nil))))) (fun _ _ _ _ _ => pts_nil) (fun _ _ _ _ _ => (pe_tup (pa_cons (xv 2) (pa_cons (pe_slice sl_str (xv 3) po_none (po_some pe_int)) (pa_cons (xv 4) pa_nil)))))) pa_nil)))))
      pss_nil)
      (pss_one (ps_ret (pe_call G_grown (hr.mono (by omega)) (by rfl) T.g_grown T.F_grown.kp T.b_grown .nil pass0 (pa_cons (pe_call G_flat (hr.mono (by omega)) (by rfl) T.g_flat T.F_flat.kp T.b_flat .nil pass0 (pa_cons (xv 0) (pa_cons (pe_call G_marks (hr.mono (by omega)) (by rfl) T.g_marks T.F_marks.kp T.b_marks .nil pass0 (pa_cons (xv 0) (pa_cons (pe_op op_addY pe_int (pe_call G_pick (hr.mono (by omega)) (by rfl) T.g_pick T.F_pick.kp T.b_pick .nil pass0 (pa_cons (xv 0) (pa_cons pe_int pa_nil)))) pa_nil))) (pa_cons pe_int pa_nil)))) pa_nil))))), ?_⟩
    refine ⟨G, _, b, o, 8, rfl, S, B, by decide, by decide, fun r1 o1 H1 r10 r11 B1 S1 => ⟨fun e1 => ?_, fun e1 => ?_⟩⟩
    · refine ⟨G, _, b, o1, 26, rfl, S1, B1, by decide, by decide, fun r2 o2 H2 r20 r21 B2 S2 => ?_⟩
      obtain ⟨c, rfl⟩ := Int.eq_ofNat_of_zero_le r20
      have ec : (15 : Int) + (c : Int) = ((15 + c : Nat) : Int) := by omega
      refine ⟨G, _, b, o2, 15 + c, by rw [← ec]; rfl, S2, B2, by omega, fun D3 zs o3 G3 H3 s3 hD3 zl nd tz B3 S3 => ?_⟩
      refine ⟨G3, _, b, o3, D3, zs, 5, rfl, S3, B3, hD3, by omega, by omega, by decide, by decide, fun D4 us fs o4 G4 H4 s4 hD4 hus fok hmk hfx B4 S4 => ?_⟩
      have fsl : fs.length = 15 + c := by rw [← zl, ← hmk, List.length_map]
      have ul := prd_len hus
      refine ⟨D4, rfl, ⟨us, SqL.of (S4.st hD4)⟩, fun Z nZ => lc_tg (xs := us) (fun i H' => ∃ (ws : List V) (G' : Hp), Same G4 G' ∧ Paired (FlAt G') ws ((fs.map cut3).take i) ∧ ws.length = i ∧ Sep G' ((Z, .lst ws) :: (b, o4) :: M) H') ⟨[], G4, Same.refl _, .nil, rfl, S4.new nZ⟩ (fun i H' h => ?_) (fun i u H' hu h => ?_) (fun H5 h => ?_) gT3_mono⟩
      · obtain ⟨_, G', s', _, _, S'⟩ := h
        exact SqL.of (S'.st (s' _ _ hD4))
      · obtain ⟨ws, G', s', hws, wl, S'⟩ := h
        obtain ⟨f, hf, a, rfl, ha⟩ := prd_get hus hu
        have il := (List.getElem?_eq_some_iff.mp hu).1
        have fm := hfx f (List.mem_of_getElem? hf)
        refine ⟨a, _, rfl, SqT.of (S'.st (s' _ _ ha)), rfl, _, _, rfl, _, _, rfl, _, _, rfl, rfl, rfl, 3, rfl, f.2.1, rfl, small (by have := fm.1.hi; omega), XL.sz, fun p np => ?_⟩
        obtain ⟨G6, s6, S6, h6⟩ := Sep.mk (o := .tup [.str f.1, .str (cutS f.2.1 none (some 3)), .int (f.2.2 : Nat)]) S' np
        refine ⟨ws, S6.hd, smallL (by omega), ws ++ [.ref p], G6, s'.trans s6, ?_, by rw [List.length_append, wl]; rfl, S6.set⟩
        rw [take_snoc (show (fs.map cut3)[i]? = some (cut3 f) by rw [List.getElem?_map, hf]; rfl)]
        exact prd_app (prd_imp (fun _ _ => FlAt.same s6) hws) (.cons ⟨p, rfl, h6⟩ .nil)
      · obtain ⟨ws, G5, s5, hws, wl, S5⟩ := h
        rw [ul, List.take_of_length_le (by rw [List.length_map]; exact Nat.le_refl _)] at hws
        have s6 := S5.frzS
        have mk2 : (fs.map cut3).map (·.1) = zs := by rw [List.map_map, ← hmk]; rfl
        refine ⟨_, _, Z, ws, fs.map cut3, rfl, S5.frz, upd_same, prd_imp (fun _ _ => FlAt.same s6) hws, flok_cut fok, by rw [List.length_map]; omega, fun v t G7 H7 s7 hv hfl S7 => ?_⟩
        have s57 := s5.trans (s6.trans s7)
        exact q v t o4 G7 H7 (s3.trans (s4.trans s57)) hv (trok_of hfl mk2 nd (by omega) tz (n := 6) (fun f hf => by
          obtain ⟨g, hg, rfl⟩ := List.mem_map.mp hf
          exact ⟨cut3_tx (hfx g hg).1, by have := (hfx g hg).2; show g.2.2 < 6; omega⟩) (by decide)) (by rw [pre_len hfl, List.length_map]; omega) (B4.same s57) S7
    · refine ⟨G, _, b, o1, 14, rfl, S1, B1, by decide, by decide, fun r2 o2 H2 r20 r21 B2 S2 => ?_⟩
      obtain ⟨c, rfl⟩ := Int.eq_ofNat_of_zero_le r20
      have ec : (1 : Int) + (c : Int) = ((1 + c : Nat) : Int) := by omega
      refine ⟨G, _, b, o2, 1 + c, by rw [← ec]; rfl, S2, B2, by omega, fun D3 zs o3 G3 H3 s3 hD3 zl nd tz B3 S3 => ?_⟩
      refine ⟨G3, _, b, o3, D3, zs, 5, rfl, S3, B3, hD3, by omega, by omega, by decide, by decide, fun D4 us fs o4 G4 H4 s4 hD4 hus fok hmk hfx B4 S4 => ?_⟩
      have fsl : fs.length = 1 + c := by rw [← zl, ← hmk, List.length_map]
      refine ⟨G4, _, D4, us, fs, rfl, S4, hD4, hus, fok, by omega, fun v t G7 H7 s7 hv hfl S7 => ?_⟩
      exact q v t o4 G7 H7 (s3.trans (s4.trans s7)) hv (trok_of hfl hmk nd (by omega) tz (n := 6) (fun f hf => ⟨(hfx f hf).1, by have := (hfx f hf).2; omega⟩) (by decide)) (by rw [pre_len hfl]; omega) (B4.same s7) S7
def spHolds (K : PySem.W.Frag) : Sp := fun vs H Q _ => ∃ (G : Hp) (a : Addr) (b : Bx) (x y : Int), vs = [.ref a, .int x, .int y] ∧ Same G H ∧ G a = some (.tup [.int b.1, .int b.2.1, .int b.2.2.1, .int b.2.2.2]) ∧ inB b x y = true ∧ Q (.bl true) H
theorem ok_holds (T : Top K mg w) {k : Nat} : FnOk P w K mg base CX0 (k + 1) T.a_holds T.d_holds ["_law_box", "_law_x", "_law_y"] (spHolds K) := by
  refine T.F_holds.ok sc_holds (fun vs H Q E h => ?_) (fun cdv A outer s H vs Q E hr h => ?_)
  · obtain ⟨G, a, b, x, y, rfl, _⟩ := h
    rfl
  · obtain ⟨G, a, b, x, y, rfl, s0, ha, hb, q⟩ := h
    refine ⟨_, (pss_one (ps_ret (xe_and (pe_cmpR op_leY (pe_ix (ix_k K) (xv 0) pe_int (fun _ _ => rfl)) (xv 1) (nomark _)) (xe_and (pe_cmpR op_ltY (xv 1) (pe_op op_addY (pe_ix (ix_k K) (xv 0) pe_int (fun _ _ => rfl)) (pe_ix (ix_k K) (xv 0) pe_int (fun _ _ => rfl))) (nomark _)) (xe_and (pe_cmpR op_leY (pe_ix (ix_k K) (xv 0) pe_int (fun _ _ => rfl)) (xv 2) (nomark _)) (pe_one (pe_cmpR op_ltY (xv 2) (pe_op op_addY (pe_ix (ix_k K) (xv 0) pe_int (fun _ _ => rfl)) (pe_ix (ix_k K) (xv 0) pe_int (fun _ _ => rfl))) (nomark _)))))))), ?_⟩
    obtain ⟨h1, h2, h3, h4⟩ := inB_iff.mp hb
    have sq := SqT.of (K := K) (s0 _ _ ha)
    refine ⟨_, _, .inr sq, atI_nat (j := 0) rfl, fun _ => ⟨_, _, .inr sq, atI_nat (j := 0) rfl, _, _, .inr sq, atI_nat (j := 2) rfl, fun _ => ⟨_, _, .inr sq, atI_nat (j := 1) rfl, fun _ => ⟨_, _, .inr sq, atI_nat (j := 1) rfl, _, _, .inr sq, atI_nat (j := 3) rfl, ?_⟩, fun e => absurd h3 (of_decide_eq_false e)⟩, fun e => absurd h2 (of_decide_eq_false e)⟩, fun e => absurd h1 (of_decide_eq_false e)⟩
    rw [← decide_eq_true h4] at q
    exact q

end
end K18
set_option Elab.async false
set_option linter.all false
set_option maxRecDepth 100000
set_option maxHeartbeats 4000000
namespace K18
open PySem PySem.Spec PyProof.Rows L2 XL
section
variable {P : Program} {w : World} {K : PySem.W.Frag} {mg : Str → Option Value} {base : Heap}
def spLaw (K : PySem.W.Frag) : Sp := fun vs H Q _ => ∃ (a : Addr) (ns : List Int), vs = [.ref a] ∧ SqL K H a (ns.map V.int) ∧ ns.length ≤ 63 ∧ ∀ H', Q (.bl true) H'
def cfL (f : Str × Bx → Int) (rs : List (Str × Bx)) : List (Key × V) := rs.map fun r => ((Sum.inr r.1 : Key), V.int (f r))
theorem cf_val {f : Str × Bx → Int} {r : Str × Bx} : ∀ {rs : List (Str × Bx)}, (rs.map (·.1)).Nodup → r ∈ rs → valV (cfL f rs) (Sum.inr r.1) = some (.int (f r))
  | q :: rs, nd, h => by
    rw [List.map_cons, List.nodup_cons] at nd
    rcases List.mem_cons.mp h with rfl | h
    · exact valV_pos rfl
    · show valV ((Sum.inr q.1, V.int (f q)) :: cfL f rs) _ = _
      rw [valV_neg (fun e => nd.1 (by rw [Sum.inr.inj e]; exact List.mem_map_of_mem (f := (·.1)) h))]
      exact cf_val nd.2 h
theorem cf_congr {f g : Str × Bx → Int} {rs : List (Str × Bx)} (h : ∀ r ∈ rs, f r = g r) : cfL f rs = cfL g rs := List.map_congr_left fun r hr => by rw [h r hr]
theorem cf_put {f : Str × Bx → Int} {m : Str} {z : Int} {rs : List (Str × Bx)} (h : m ∈ rs.map (·.1)) : putK (cfL f rs) (Sum.inr m) (.int z) = cfL (fun r => if r.1 = m then z else f r) rs := by
  unfold putK
  have : ((cfL f rs).any fun kv => decide (kv.1 = Sum.inr m)) = true := by
    obtain ⟨r, hr, rfl⟩ := List.mem_map.mp h
    exact List.any_eq_true.mpr ⟨_, List.mem_map_of_mem (f := fun r : Str × Bx => ((Sum.inr r.1 : Key), V.int (f r))) hr, decide_eq_true rfl⟩
  rw [if_pos this]
  unfold cfL
  rw [List.map_map]
  refine List.map_congr_left fun r _ => ?_
  show (if (Sum.inr r.1 : Key) = Sum.inr m then ((Sum.inr r.1 : Key), V.int z) else (Sum.inr r.1, V.int (f r))) = (Sum.inr r.1, V.int (if r.1 = m then z else f r))
  by_cases e : r.1 = m
  · rw [if_pos (congrArg Sum.inr e), if_pos e]
  · rw [if_neg (fun e2 => e (Sum.inr.inj e2)), if_neg e]
theorem cf_len (f : Str × Bx → Int) (rs : List (Str × Bx)) : (cfL f rs).length = rs.length := List.length_map _
theorem ab_val {G : Hp} {m : Str} {b : List Str} : ∀ {kp : List (Key × V)} {rs : List (Str × List Str)}, Paired (AbAt G) kp rs → (rs.map (·.1)).Nodup → (m, b) ∈ rs → ∃ a, valV kp (Sum.inr m) = some (.ref a) ∧ G a = some (.lst (b.map V.str))
  | _, _, .nil, _, h => nomatch h
  | (k, v) :: ks, (m', b') :: ps, .cons h t, nd, hp => by
    rw [List.map_cons, List.nodup_cons] at nd
    have e : k = Sum.inr m' := h.1
    rcases List.mem_cons.mp hp with he | hp
    · cases he
      obtain ⟨_, a, h2, h3⟩ := h
      rw [e]
      exact ⟨a, by rw [valV_pos rfl]; exact congrArg some h2, h3⟩
    · obtain ⟨a, h1, h2⟩ := ab_val t nd.2 hp
      refine ⟨a, ?_, h2⟩
      rw [valV_neg (fun e3 => nd.1 ?_)]
      · exact h1
      · rw [e] at e3
        rw [Sum.inr.inj e3]
        exact List.mem_map_of_mem (f := (·.1)) hp
theorem ok_law (T : Top K mg w) (G_bag : FnOk P w K mg base CX0 1 T.a_bag T.d_bag ["_law_script"] (spBag K)) (G_pick : FnOk P w K mg base CX0 2 T.a_pick T.d_pick ["_law_bag_here", "_law_many"] spPick) (G_tree : FnOk P w K mg base CX0 7 T.a_tree T.d_tree ["_law_bag_here"] (spTree K)) (G_Page_init : FnOk P w K mg base CX0 2 T.a_Page_init T.d_Page_init ["self", "root"] (spPage K T.C_Page))
    (G_Laid_init : FnOk P w K mg base CX0 5 T.a_Laid_init T.d_Laid_init ["self", "page"] (spLd K T.C_Laid T.C_Page)) (G_picture : FnOk P w K mg base CX0 61 T.a_picture T.d_picture ["_law_node"] (spPict K 60)) (G_lines_of : FnOk P w K mg base CX0 61 T.a_lines_of T.d_lines_of ["_law_node", "_law_above", "_law_lines"] (spLines K 60))
    (G_Laid_getitem : FnOk P w K mg base (L2.CX P w) 3 T.a_Laid_getitem T.d_Laid_getitem ["self", "mark"] (spLdGet K T.C_Laid T.C_Page T.C_NoNode)) (G_Laid_hit : FnOk P w K mg base CX0 3 T.a_Laid_hit T.d_Laid_hit ["self", "x", "y"] (spHit K T.C_Laid T.C_Page)) (G_holds : FnOk P w K mg base CX0 3 T.a_holds T.d_holds ["_law_box", "_law_x", "_law_y"] (spHolds K)) :
    FnOk P w K mg base CX0 70 T.a_law T.d_law ["_law_script"] (spLaw K) := by
  refine T.F_law.ok sc_law (fun vs H Q E h => ?_) (fun cdv A outer s H vs Q E hr h => ?_)
  · obtain ⟨a, ns, rfl, _⟩ := h
    rfl
  · obtain ⟨a, ns, rfl, ha, hl, q⟩ := h
    refine ⟨_, (pss_cons (ps_set (i := 1) sc_law.nd rfl (.inl rfl) (pe_call G_bag (hr.mono (by omega)) (by rfl) T.g_bag T.F_bag.kp T.b_bag .nil pass0 (pa_cons (xv 0) pa_nil)))
      (pss_cons (ps_set (i := 2) sc_law.nd rfl (.inl rfl) (pe_call G_tree (hr.mono (by omega)) (by rfl) T.g_tree T.F_tree.kp T.b_tree .nil pass0 (pa_cons (xv 1) pa_nil)))
      (pss_cons (ps_set (i := 3) sc_law.nd rfl (.inl rfl) (pe_make T.mk_Laid G_Laid_init (hr.mono (by omega)) (by rfl) T.g_Laid T.b_Laid_init .nil pass0 (pa_cons (pe_make T.mk_Page G_Page_init (hr.mono (by omega)) (by rfl) T.g_Page T.b_Page_init .nil pass0 (pa_cons (xv 2) pa_nil)) pa_nil)))
      (pss_cons (ps_asg (pe_call G_picture (hr.mono (by omega)) (by rfl) T.g_picture T.F_picture.kp T.b_picture .nil pass0 (pa_cons (xv 2) pa_nil)) (pg_tupK K 2 (pgs_cons (pg_name (i := 4) sc_law.nd rfl (.inl rfl)) (pgs_cons (pg_name (i := 5) sc_law.nd rfl (.inl rfl)) pgs_nil))))
      (pss_cons (ps_set (i := 6) sc_law.nd rfl (.inl rfl) (pe_callB (cr_lenK K) (by rfl) T.m_len (by decide +kernel) (pa_cons (xv 5) pa_nil)))
      (pss_cons (ps_set (i := 7) sc_law.nd rfl (.inl rfl) pe_dnewK)
      (pss_cons (ps_expr (pe_call G_lines_of (hr.mono (by omega)) (by rfl) T.g_lines_of T.F_lines_of.kp T.b_lines_of .nil pass0 (pa_cons (xv 2) (pa_cons (pe_lst pa_nil) (pa_cons (xv 7) pa_nil)))))
      (pss_cons (ps_set (i := 8) sc_law.nd rfl (.inl rfl) pe_dnewK)
      (pss_cons (ps_set (i := 9) sc_law.nd rfl (.inl rfl) pe_dnewK)
      (pss_cons (ps_lock (ps_for PassesOwn.never rfl (pi_keys (xv 7)) (pg_name (i := 10) sc_law.nd rfl (.inl rfl))
      (pss_cons (ps_dput (hu_of hr) (xv 8) (xv 10) (pe_ixO (xv 3) (xv 10) G_Laid_getitem T.sp_Laid_getitem.1 T.sp_Laid_getitem.2.2 T.sp_Laid_getitem.2.1 T.b_Laid_getitem passL (hr.mono (by omega))) rfl)
      (pss_one (ps_dput (hu_of hr) (xv 9) (xv 10) pe_int rfl)))))
      (pss_cons (ps_for PassesOwn.never rfl (pi_range2 (by rfl) T.m_range (pa_cons (pe_un un_neg pe_int) (pa_cons (pe_op op_addY (xv 6) pe_int) pa_nil))) (pg_name (i := 11) sc_law.nd rfl (.inl rfl))
      (pss_one (ps_for PassesOwn.never rfl (pi_range2 (by rfl) T.m_range (pa_cons (pe_un un_neg pe_int) (pa_cons (pe_op op_addY (xv 4) pe_int) pa_nil))) (pg_name (i := 12) sc_law.nd rfl (.inl rfl))
      (pss_cons (ps_set (i := 13) sc_law.nd rfl (.inl rfl) (pe_meth (xv 3) T.cl_Laid T.me_Laid_hit G_Laid_hit (hr.mono (by omega)) T.b_Laid_hit .nil pass0 (pa_cons (xv 12) (pa_cons (xv 11) pa_nil))))
      (pss_one (xs_if (PW.pt (xw_or (xt_cmp op_ltY (xv 12) pe_int (nomark _)) (xw_or (xt_cmp op_ltY (xv 11) pe_int (nomark _)) (xw_or (xt_cmp (op_eqK K hr.units) (xv 12) (xv 4) (nomark _)) (pw_or1 (xt_cmp (op_eqK K hr.units) (xv 11) (xv 6) (nomark _)))))))
      (pss_one (xs_if (xt_cmp op_notN (xv 13) pe_non (nomark _))
      (pss_one (ps_ret pe_bl))
      pss_nil))
      (pss_one (xs_if (PW.pt (xw_or (pt_not (xt_truK K (pe_callB (call_isK K) (by rfl) T.m_isinstance (by decide +kernel) (pa_cons (xv 13) (pa_cons (pe_bltn (v := .ty "str") (by rfl) T.m_str (by decide +kernel) rfl) pa_nil))))) (pw_or1 (xt_cmp (op_neK K hr.units) (xv 13) (pe_ix (ix_k K) (pe_ix (ix_k K) (xv 5) (xv 11) (fun _ _ => rfl)) (xv 12) (fun _ _ => rfl)) (nomark _)))))
      (pss_one (ps_ret pe_bl))
      (pss_one (ps_for PassesOwn.never rfl (pi_listK K (pe_dget (hu_of hr) (xv 7) (xv 13) (fun _ _ => rfl))) (pg_name (i := 10) sc_law.nd rfl (.inl rfl))
      (pss_cons (xs_if (pt_not (xt_truK K (pe_call G_holds (hr.mono (by omega)) (by rfl) T.g_holds T.F_holds.kp T.b_holds .nil pass0 (pa_cons (pe_dget (hu_of hr) (xv 8) (xv 10) (fun _ _ => rfl)) (pa_cons (xv 12) (pa_cons (xv 11) pa_nil))))))
      (pss_one (ps_ret pe_bl))
      pss_nil)
      (pss_one (ps_dput (hu_of hr) (xv 9) (xv 10) (pe_op op_addY (pe_dget (hu_of hr) (xv 9) (xv 10) (fun _ _ => rfl)) pe_int) rfl)))))))))))))
      (pss_cons (ps_lock (ps_for PassesOwn.never rfl (pi_keys (xv 7)) (pg_name (i := 10) sc_law.nd rfl (.inl rfl))
      (pss_one (xs_if (xt_cmp (op_neK K hr.units) (pe_dget (hu_of hr) (xv 9) (xv 10) (fun _ _ => rfl)) (pe_op op_mulY (pe_ix (ix_k K) (pe_dget (hu_of hr) (xv 8) (xv 10) (fun _ _ => rfl)) pe_int (fun _ _ => rfl)) (pe_ix (ix_k K) (pe_dget (hu_of hr) (xv 8) (xv 10) (fun _ _ => rfl)) pe_int (fun _ _ => rfl))) (nomark _))
      (pss_one (ps_ret pe_bl))
      pss_nil))))
      (pss_cons (ps_set (i := 14) sc_law.nd rfl (.inl rfl) (pe_op op_addY pe_int (pe_call G_pick (hr.mono (by omega)) (by rfl) T.g_pick T.F_pick.kp T.b_pick .nil pass0 (pa_cons (xv 1) (pa_cons pe_int pa_nil)))))
      (pss_cons (ps_for PassesOwn.never rfl (pi_listK K (pe_lst (pa_cons (pe_tup (pa_cons (pe_op op_addY (xv 4) (xv 14)) (pa_cons pe_int pa_nil))) (pa_cons (pe_tup (pa_cons pe_int (pa_cons (pe_op op_addY (xv 6) (xv 14)) pa_nil))) (pa_cons (pe_tup (pa_cons (pe_op op_subY (pe_op op_subY pe_int pe_int) (xv 14)) (pa_cons pe_int pa_nil))) (pa_cons (pe_tup (pa_cons pe_int (pa_cons (pe_op op_subY (pe_op op_subY pe_int pe_int) (xv 14)) pa_nil))) (pa_cons (pe_tup (pa_cons (xv 4) (pa_cons (pe_op op_addY (xv 6) (xv 14)) pa_nil))) (pa_cons (pe_tup (pa_cons (pe_op op_subY pe_int (xv 14)) (pa_cons (pe_op op_subY pe_int (xv 14)) pa_nil))) pa_nil)))))))) (pg_tupK K 2 (pgs_cons (pg_name (i := 12) sc_law.nd rfl (.inl rfl)) (pgs_cons (pg_name (i := 11) sc_law.nd rfl (.inl rfl)) pgs_nil)))
      (pss_one (xs_if (xt_cmp op_notN (pe_meth (xv 3) T.cl_Laid T.me_Laid_hit G_Laid_hit (hr.mono (by omega)) T.b_Laid_hit .nil pass0 (pa_cons (xv 12) (pa_cons (xv 11) pa_nil))) pe_non (nomark _))
      (pss_one (ps_ret pe_bl))
      pss_nil)))
      (pss_one (ps_ret pe_bl)))))))))))))))), ?_⟩
    have lb : ∀ {t : Tr}, TrOk t → ∀ p ∈ pre t, (lbl p).length ≤ 100 ∧ (PyData.str (lbl p)).canLay0 = true := fun ok p hp => ⟨Nat.le_trans (ok.tx p hp).2.hi (by decide), (Fit.str (w := 20) (fun c hc => Nat.lt_trans ((ok.tx p hp).2.ch c hc) (by decide)) (ok.tx p hp).2.hi).cl⟩
    refine ⟨H, [], a, ns, rfl, sep0, ha, hl, fun b o1 G1 H1 _ B1 S1 => ?_⟩
    refine ⟨G1, [], b, o1, rfl, S1, B1, fun v t o2 G2 H2 s2 hv ok p40 B2 S2 => ?_⟩
    refine fun p4 dp4 np4 ndp4 ne4 => ?_
    refine ⟨G2, _, p4, dp4, v, t, rfl, S2.new2 np4 ndp4 ne4, hv, ok.nd, ok.ln, fun G5 H5 s5 hp5 S5 => ⟨rfl, ?_⟩⟩
    refine fun l dl nl ndl nel => ?_
    refine ⟨G5, _, l, dl, p4, t, rfl, S5.drop.new2 nl ndl nel, hp5, ok.nd, ok.ln, lb ok, fun G6 H6 s6 hl6 S6 => ⟨rfl, ?_⟩⟩
    have S6 := S6.drop
    have s26 := s5.trans s6
    have hv6 := dp_same s26 hv
    have l20 : ∀ p ∈ pre t, (lbl p).length ≤ 20 := fun p hp => (ok.tx p hp).2.hi
    refine ⟨G6, _, v, t, rfl, S6, hv6, ok.hg, p40, l20, fun v' G7 H7 s7 hpc S7 => ?_⟩
    obtain ⟨ap, Lp, us, rfl, hap, hLp, hus⟩ := hpc
    have ul := prd_len hus
    have pk := pic_ok t
    obtain ⟨dW, dH⟩ := dims p40 l20
    refine ⟨ap, _, rfl, SqT.of (S7.st hap), rfl, _, _, rfl, _, _, rfl, rfl, us, .inl (SqL.of (S7.st hLp)), ?_⟩
    refine fun D nD => ?_
    have S8 := S7.new (o := .dK []) nD
    refine ⟨sz, fun e0 ne0 => ?_⟩
    obtain ⟨G9, s9, S9, he0⟩ := Sep.mk (o := .lst []) S8 ne0
    refine ⟨G9, _, v, t, e0, D, [], [], rfl, S9, dp_same (s7.trans s9) hv6, ok.hg, he0, ok.nd, (fun m _ h => nomatch h), by show 0 + _ ≤ 100; omega, by decide, fun ab G10 H10 s10 hab S10 => ?_⟩
    have s6_10 := s7.trans (s9.trans s10)
    have hl10 := hl6.same s6_10
    have B10 := B2.same (s26.trans s6_10)
    rw [List.nil_append] at S10
    have abl := prd_len hab
    have am := abv_marks [] t
    have rm := rects_marks 0 0 t
    have rnd : ((rects 0 0 t).map (·.1)).Nodup := by rw [rm]; exact ok.nd
    have rl : (rects 0 0 t).length = (pre t).length := by
      have e := congrArg List.length rm
      rw [List.length_map, List.length_map] at e
      exact e
    have abk : ab.map (·.1) = (rects 0 0 t).map fun r => (Sum.inr r.1 : Key) := by
      rw [ab_keys hab]
      have e : (abv [] t).map (·.1) = (rects 0 0 t).map (·.1) := by rw [am, rm]
      have := congrArg (List.map (fun m : Str => (Sum.inr m : Key))) e
      rw [List.map_map, List.map_map] at this
      exact this
    have abl2 : ab.length = (rects 0 0 t).length := by
      have e := congrArg List.length abk
      rw [List.length_map, List.length_map] at e
      exact e
    obtain ⟨dxl, pgl, PD, SD, PL, ML, kpr, ksz, kpl, hlx, _⟩ := id hl10.ex
    have mtx : ∀ r ∈ rects 0 0 t, (∀ c ∈ r.1.cps.toList, c < 128) ∧ r.1.length ≤ 1000 ∧ r.1 ∈ (pre t).map mrk := fun r hr => by
      have hm : r.1 ∈ (pre t).map mrk := by rw [← rm]; exact List.mem_map_of_mem (f := (·.1)) hr
      obtain ⟨p, hp, e⟩ := List.mem_map.mp hm
      rw [← e]
      exact ⟨(ok.tx p hp).1.ch, Nat.le_trans (ok.tx p hp).1.hi (by decide), List.mem_map_of_mem hp⟩
    have nW' := nW_eq t
    have nH' := nH_eq t
    have uH : us.length = nH t := by rw [ul]; exact pk.hh
    refine fun Bd nBd => ?_
    have S11 := S10.new (o := .dK []) nBd
    refine fun Cd nCd => ?_
    have S12 := S11.new (o := .dK []) nCd
    have hD12 := S12.drop.sw.hd
    -- the rectangles, told once
    refine ⟨D, .dK ab, hD12, trivial, fun od => ?_⟩
    have S13 := (S12.perm (M' := (D, .dK ab) :: (Cd, .dK []) :: (Bd, .dK []) :: [(b, o2)]) (List.perm_append_comm_assoc [_, _] [_] _)).set (o' := .frz od (.dK ab))
    refine ⟨D, od, rfl, .inl ⟨ab, upd_same, for_it walk_keys (fun i σ H' => ∃ (y10 : Option V) (kb : List (Key × V)), σ = [some (.ref a), some (.ref b), some v, some (.ref l), some (.int (nW t : Nat)), some (.ref Lp), some (.int (us.length : Nat)), some (.ref D), some (.ref Bd), some (.ref Cd), y10, none, none, none, none] ∧ Paired (BxAt G10) kb ((rects 0 0 t).take i) ∧
      Sep G10 ((D, .frz od (.dK ab)) :: (Cd, .dK (cfL (fun _ => 0) ((rects 0 0 t).take i))) :: (Bd, .dK kb) :: [(b, o2)]) H') ⟨_, [], rfl, .nil, S13⟩ (fun i σ H' _ h => ?_) (fun i x σ H' H'' hi h hy => ?_) (fun σ H' h => ?_)⟩⟩
    · obtain ⟨_, _, _, _, S'⟩ := h
      exact S'.hd
    · obtain ⟨y10, kb, rfl, hkb, S'⟩ := h
      obtain ⟨rfl, k0, v0, hk0, rfl⟩ := hy
      obtain ⟨r, hr⟩ : ∃ r, (rects 0 0 t)[i]? = some r := ⟨_, List.getElem?_eq_getElem (by omega)⟩
      have ek : k0 = Sum.inr r.1 := by
        have e := congrArg (fun l => l[i]?) abk
        simp only [List.getElem?_map, hk0, hr, Option.map_some] at e
        exact Option.some.inj e
      subst ek
      have hrm := List.mem_of_getElem? hr
      obtain ⟨m1, m2, m3⟩ := mtx r hrm
      have il := (List.getElem?_eq_some_iff.mp hr).1
      have fresh : ∀ {kvs : List (Key × V)}, kvs.map (·.1) = ((rects 0 0 t).take i).map (fun r => (Sum.inr r.1 : Key)) → valV kvs (Sum.inr r.1) = none := fun {kvs} e => valV_none (by
        rw [e]
        intro hm
        obtain ⟨q, hq1, hq2⟩ := List.mem_map.mp hm
        have e1 : (rects 0 0 t).map (·.1) = ((rects 0 0 t).take i).map (·.1) ++ r.1 :: ((rects 0 0 t).drop (i + 1)).map (·.1) := by
          conv => lhs; rw [(take_pre hr).1]
          rw [List.map_append, List.map_cons]
        rw [e1, List.nodup_append] at rnd
        exact rnd.2.2 _ (List.mem_map_of_mem (f := (·.1)) hq1) _ List.mem_cons_self (Sum.inr.inj hq2))
      have kbl := prd_len hkb
      rw [List.length_take] at kbl
      refine ⟨l, dxl, _, rfl, S'.st hlx, G10, l, r.1, t, rfl, S'.1, hl10, ok.nd, m1, m2, fun b2 a2 hm2 ha2 => ?_, fun hno => absurd m3 hno⟩
      obtain rfl := fst_one rnd (show (r.1, r.2) ∈ _ from hrm) hm2
      have SB := S'.perm (M' := (Bd, .dK kb) :: (D, .frz od (.dK ab)) :: (Cd, .dK (cfL (fun _ => 0) ((rects 0 0 t).take i))) :: [(b, o2)]) (List.perm_append_comm_assoc [_, _] [_] _)
      refine ⟨Bd, _, rfl, DPut.k (k := Sum.inr r.1) SB.hd (smallL (by omega)), ?_⟩
      rw [putK_new (fresh (prd_keys hkb))]
      have SC := (SB.set (o' := .dK (kb ++ [(Sum.inr r.1, V.ref a2)]))).perm (M' := (Cd, .dK (cfL (fun _ => 0) ((rects 0 0 t).take i))) :: (Bd, .dK (kb ++ [(Sum.inr r.1, V.ref a2)])) :: (D, .frz od (.dK ab)) :: [(b, o2)]) (List.perm_append_comm_assoc [_, _] [_] _)
      refine ⟨Cd, _, rfl, DPut.k (k := Sum.inr r.1) SC.hd (smallL (by rw [cf_len, List.length_take]; omega)), ?_⟩
      rw [putK_new (fresh (by unfold cfL; rw [List.map_map]; rfl))]
      have SD2 := (SC.set (o' := .dK (cfL (fun _ => 0) ((rects 0 0 t).take i) ++ [(Sum.inr r.1, V.int 0)]))).perm (M' := (D, .frz od (.dK ab)) :: (Cd, .dK (cfL (fun _ => 0) ((rects 0 0 t).take i) ++ [(Sum.inr r.1, V.int 0)])) :: (Bd, .dK (kb ++ [(Sum.inr r.1, V.ref a2)])) :: [(b, o2)]) (List.perm_append_comm_assoc [_, _] [_] _)
      refine ⟨_, kb ++ [(Sum.inr r.1, V.ref a2)], rfl, ?_, ?_⟩
      · rw [take_snoc hr]
        exact prd_app hkb (.cons ⟨rfl, a2, rfl, ha2⟩ .nil)
      · rw [take_snoc hr]
        unfold cfL at SD2 ⊢
        rw [List.map_append]
        exact SD2
    obtain ⟨y10, kb, rfl, hkb, S14⟩ := h
    refine ⟨S14.hd, ?_⟩
    rw [abl2, List.take_length] at hkb S14
    have S15 := S14.set (o' := .dK ab)
    have z0 : cfL (fun _ => 0) (rects 0 0 t) = cfL (fun r => cnt r.2 (-1 + ((0 : Nat) : Int)) (-1 + ((0 : Nat) : Int))) (rects 0 0 t) := cf_congr fun r hr => by
      rw [show (-1 : Int) + ((0 : Nat) : Int) = -1 from rfl]
      have nn := rects_nn 0 0 t r hr
      exact (cnt_start nn.1 nn.2 fun h1 h2 => (rects_in ok.nd (show (r.1, r.2) ∈ _ from hr) h1 h2).2.2.1).symm
    rw [z0] at S15
    have nn : ∀ r ∈ rects 0 0 t, 0 ≤ r.2.2.2.1 ∧ 0 ≤ r.2.2.2.2 := fun r hr => rects_nn 0 0 t r hr
    have rin : ∀ r ∈ rects 0 0 t, 0 < r.2.2.2.1 → 0 < r.2.2.2.2 → _ := fun r hr h1 h2 => rects_in ok.nd (show (r.1, r.2) ∈ _ from hr) h1 h2
    have S16 := S15.sw
    -- all points
    refine ⟨1, rfl, _, _, rfl, ⟨by decide, by decide, by omega, by omega⟩, ?_⟩
    refine for_range (lo := -1) (n := (((us.length : Nat) : Int) + 1 - (-1)).toNat) (fun i σ H' => ∃ (y10 y11 y12 y13 : Option V), σ = [some (.ref a), some (.ref b), some v, some (.ref l), some (.int (nW t : Nat)), some (.ref Lp), some (.int (us.length : Nat)), some (.ref D), some (.ref Bd), some (.ref Cd), y10, y11, y12, y13, none] ∧
      Sep G10 ((Cd, .dK (cfL (fun r => cnt r.2 (-1 + ((0 : Nat) : Int)) (-1 + (i : Nat))) (rects 0 0 t))) :: (D, .dK ab) :: (Bd, .dK kb) :: [(b, o2)]) H') ⟨_, _, _, _, rfl, S16⟩ (fun i σ H' hi h => ?_) (fun σ H' h => ?_)
    · obtain ⟨y10, y11, y12, y13, rfl, S'⟩ := h
      generalize hy : (-1 : Int) + (i : Nat) = y at *
      refine ⟨1, rfl, _, _, rfl, ⟨by decide, by decide, by omega, by omega⟩, ?_⟩
      refine for_range (lo := -1) (n := (((nW t : Nat) : Int) + 1 - (-1)).toNat) (fun j σ H' => ∃ (y10 y12 y13 : Option V), σ = [some (.ref a), some (.ref b), some v, some (.ref l), some (.int (nW t : Nat)), some (.ref Lp), some (.int (us.length : Nat)), some (.ref D), some (.ref Bd), some (.ref Cd), y10, some (.int y), y12, y13, none] ∧
        Sep G10 ((Cd, .dK (cfL (fun r => cnt r.2 (-1 + (j : Nat)) y) (rects 0 0 t))) :: (D, .dK ab) :: (Bd, .dK kb) :: [(b, o2)]) H') ⟨_, _, _, rfl, S'⟩ (fun j σ H' hj h => ?_) (fun σ H' h => ?_)
      · obtain ⟨y10, y12, y13, rfl, S'⟩ := h
        generalize hx : (-1 : Int) + (j : Nat) = x at *
        have ex : (-1 : Int) + ((j + 1 : Nat) : Int) = x + 1 := by omega
        refine ⟨l, dxl, _, rfl, S'.st hlx, (by rw [lk_ne, lk_ne, lk_ne, lk_ne, lk_ne]; rfl), G10, l, x, y, t, rfl, S'.1, hl10, ok.nd, ?_⟩
        have frame : ¬ (0 ≤ x ∧ x < (meas t).1 ∧ 0 ≤ y ∧ y < (meas t).2) → chain (rects 0 0 t) x y = [] ∧ cfL (fun r => cnt r.2 (-1 + ((j + 1 : Nat) : Int)) y) (rects 0 0 t) = cfL (fun r => cnt r.2 x y) (rects 0 0 t) := fun hf => by
          have hc := pk.out x y hf
          refine ⟨hc, cf_congr fun r hr => ?_⟩
          rw [ex, cnt_step (nn r hr).1, if_neg, Int.add_zero]
          intro hb
          have := (chain_mem rnd (show (r.1, r.2) ∈ _ from hr)).mpr hb
          rw [hc] at this
          cases this
        have fin : ∀ {y10' y13' : Option V}, ¬ (0 ≤ x ∧ x < (meas t).1 ∧ 0 ≤ y ∧ y < (meas t).2) → oV (chain (rects 0 0 t) x y).getLast? = .non ∧ ∃ (y10 y12 y13 : Option V), [some (V.ref a), some (.ref b), some v, some (.ref l), some (.int (nW t : Nat)), some (.ref Lp), some (.int (us.length : Nat)), some (.ref D), some (.ref Bd), some (.ref Cd), y10', some (.int y), some (.int x), y13', none] = [some (.ref a), some (.ref b), some v, some (.ref l), some (.int (nW t : Nat)), some (.ref Lp), some (.int (us.length : Nat)), some (.ref D), some (.ref Bd), some (.ref Cd), y10, some (.int y), y12, y13, none] ∧
            Sep G10 ((Cd, .dK (cfL (fun r => cnt r.2 (-1 + ((j + 1 : Nat) : Int)) y) (rects 0 0 t))) :: (D, .dK ab) :: (Bd, .dK kb) :: [(b, o2)]) H' := fun {y10' y13'} hf => by
          obtain ⟨h1, h2⟩ := frame hf
          refine ⟨by rw [h1]; rfl, y10', _, y13', rfl, ?_⟩
          rw [h2]
          exact S'
        refine ⟨fun e1 => ⟨fun _ => ?f1, tt⟩, fun e1 => ⟨fun e2 => ⟨fun _ => ?f2, tt⟩, fun e2 => ⟨fun e3 => ⟨fun _ => ?f3, tt⟩, fun e3 => ⟨fun e4 => ?f4, fun e4 => ?g⟩⟩⟩⟩
        case f1 =>
          obtain ⟨h1, h2⟩ := fin (y10' := y10) (y13' := some (oV (chain (rects 0 0 t) x y).getLast?)) (by have := of_decide_eq_true e1; omega)
          exact ⟨rfl, fun e => absurd e (by rw [h1]; decide), fun _ => h2⟩
        case f2 =>
          obtain ⟨h1, h2⟩ := fin (y10' := y10) (y13' := some (oV (chain (rects 0 0 t) x y).getLast?)) (by have := of_decide_eq_true e2; omega)
          exact ⟨rfl, fun e => absurd e (by rw [h1]; decide), fun _ => h2⟩
        case f3 =>
          obtain ⟨h1, h2⟩ := fin (y10' := y10) (y13' := some (oV (chain (rects 0 0 t) x y).getLast?)) (by have := of_decide_eq_true e3; omega)
          exact ⟨rfl, fun e => absurd e (by rw [h1]; decide), fun _ => h2⟩
        case f4 =>
          obtain ⟨h1, h2⟩ := fin (y10' := y10) (y13' := some (oV (chain (rects 0 0 t) x y).getLast?)) (by have := of_decide_eq_true e4; omega)
          exact ⟨rfl, fun e => absurd e (by rw [h1]; decide), fun _ => h2⟩
        have e1 := of_decide_eq_false e1; have e2 := of_decide_eq_false e2; have e3 := of_decide_eq_false e3; have e4 := of_decide_eq_false e4
        obtain ⟨X, rfl⟩ := Int.eq_ofNat_of_zero_le (show 0 ≤ x by omega)
        obtain ⟨Y, rfl⟩ := Int.eq_ofNat_of_zero_le (show 0 ≤ y by omega)
        obtain ⟨ln, hln, hlx2⟩ := pk.ins X Y (by omega) (by omega)
        have lw := pk.ww ln (List.mem_of_getElem? hln)
        obtain ⟨z, hz⟩ : ∃ z, ln[X]? = some z := ⟨_, List.getElem?_eq_getElem (by omega)⟩
        rw [hz] at hlx2
        rw [← hlx2]
        have Yl : Y < us.length := by omega
        obtain ⟨ln', hln', aL, eL, haL⟩ := prd_get hus (List.getElem?_eq_getElem Yl)
        rw [hln] at hln'
        obtain rfl := Option.some.inj hln'
        have haL := (s9.trans s10) _ _ haL
        refine ⟨_, _, _, _, true, rfl, .ty _, .base (.str z), kit_ty (by decide +kernel), ⟨ff, fun _ => ?_⟩⟩
        refine ⟨us, .ref aL, .inl (SqL.of (S'.st ((s9.trans s10) _ _ hLp))), atI_nat (by rw [List.getElem?_eq_getElem Yl, eL]), ln.map V.str, .str z, .inl (SqL.of (S'.st haL)), atI_nat (by rw [List.getElem?_map, hz]; rfl), ?_⟩
        refine ⟨fun e => ?_, fun _ => ?_⟩
        · have e : (!decide (z = z)) = true := e
          simp at e
        have hpa := chain_abv t [] (X : Int) (Y : Int) z hlx2.symm
        rw [List.nil_append] at hpa
        generalize hch : chain (rects 0 0 t) (X : Int) (Y : Int) = ch at *
        have chn : ch.Nodup := by
          rw [← hch]
          unfold chain
          exact (List.Sublist.map _ List.filter_sublist).nodup rnd
        have cmem : ∀ {r : Str × Bx}, r ∈ rects 0 0 t → (r.1 ∈ ch ↔ inB r.2 (X : Int) (Y : Int) = true) := fun {r} hr => by
          rw [← hch]
          exact chain_mem rnd (show (r.1, r.2) ∈ _ from hr)
        obtain ⟨za, hza, hzl⟩ := ab_val hab (by rw [am]; exact ok.nd) hpa
        have gD : DGet H' D (.str z) (some (.ref za)) := by
          rw [← hza]
          exact DGet.k (k := Sum.inr z) S'.drop.hd
        refine ⟨D, _, rfl, gD, za, rfl, ⟨_, SqL.of (S'.st hzl)⟩, for_list (xs := ch.map V.str) (fun q σ H' => ∃ (y10 : Option V), σ = [some (.ref a), some (.ref b), some v, some (.ref l), some (.int (nW t : Nat)), some (.ref Lp), some (.int (us.length : Nat)), some (.ref D), some (.ref Bd), some (.ref Cd), y10, some (.int (Y : Nat)), some (.int (X : Nat)), some (.str z), none] ∧
          Sep G10 ((Cd, .dK (cfL (fun r => cnt r.2 (X : Int) (Y : Int) + (if r.1 ∈ ch.take q then 1 else 0)) (rects 0 0 t))) :: (D, .dK ab) :: (Bd, .dK kb) :: [(b, o2)]) H') ⟨_, rfl, ?cini⟩ (fun q σ H' _ h => ?clk) (fun q x σ H' hi h => ?cst) (fun σ H' h => ?cen)⟩
        case cini =>
          have e : cfL (fun r => cnt r.2 (X : Int) (Y : Int) + (if r.1 ∈ ch.take 0 then 1 else 0)) (rects 0 0 t) = cfL (fun r => cnt r.2 (X : Int) (Y : Int)) (rects 0 0 t) := cf_congr fun r _ => by
            rw [List.take_zero, if_neg (by intro h; cases h), Int.add_zero]
          rw [e]
          exact S'
        case clk =>
          obtain ⟨_, _, S2⟩ := h
          exact SqL.of (S2.st hzl)
        case cst =>
          obtain ⟨y10, rfl, S2⟩ := h
          rw [List.getElem?_map] at hi
          obtain ⟨m, hm, rfl⟩ := Option.map_eq_some_iff.mp hi
          obtain ⟨r, hr, hrm, hin⟩ : ∃ r ∈ rects 0 0 t, r.1 = m ∧ inB r.2 (X : Int) (Y : Int) = true := by
            have mem := List.mem_of_getElem? hm
            rw [← hch] at mem
            unfold chain at mem
            obtain ⟨r, h1, h2⟩ := List.mem_map.mp mem
            obtain ⟨h3, h4⟩ := List.mem_filter.mp h1
            exact ⟨r, h3, h2, h4⟩
          subst hrm
          obtain ⟨ba, hba, hbl⟩ := bx_val hkb rnd (show (r.1, r.2) ∈ _ from hr)
          have gB : DGet H' Bd (.str r.1) (some (.ref ba)) := by
            rw [← hba]
            exact DGet.k (k := Sum.inr r.1) S2.drop.drop.hd
          refine ⟨Bd, _, rfl, gB, G10, ba, r.2, (X : Int), (Y : Int), rfl, S2.1, hbl, hin, ?_⟩
          refine ⟨ff, fun _ => ?_⟩
          refine ⟨Cd, _, rfl, (by rw [← cf_val rnd hr]; exact DGet.k (k := Sum.inr r.1) S2.hd), ?_⟩
          refine ⟨Cd, _, rfl, DPut.k (k := Sum.inr r.1) S2.hd (smallL (by rw [cf_len]; omega)), ?_⟩
          rw [cf_put (List.mem_map_of_mem (f := (·.1)) hr)]
          have e : cfL (fun q' => if q'.1 = r.1 then cnt r.2 (X : Int) (Y : Int) + (if r.1 ∈ ch.take q then 1 else 0) + 1 else cnt q'.2 (X : Int) (Y : Int) + (if q'.1 ∈ ch.take q then 1 else 0)) (rects 0 0 t) = cfL (fun r => cnt r.2 (X : Int) (Y : Int) + (if r.1 ∈ ch.take (q + 1) then 1 else 0)) (rects 0 0 t) := cf_congr fun q' hq' => by
            rw [take_snoc hm]
            by_cases hc : q'.1 = r.1
            · have h2 := fst_one rnd (show (r.1, q'.2) ∈ _ by rw [← hc]; exact hq') (show (r.1, r.2) ∈ _ from hr)
              have hn : r.1 ∉ ch.take q := fun hmem => by
                have e1 := (take_pre hm).1
                rw [e1, List.nodup_append] at chn
                exact chn.2.2 _ hmem _ List.mem_cons_self rfl
              rw [if_pos hc, if_neg hn, hc, h2, if_pos (List.mem_append_right _ List.mem_cons_self), Int.add_zero]
            · rw [if_neg hc]
              by_cases hd : q'.1 ∈ ch.take q
              · rw [if_pos hd, if_pos (List.mem_append_left _ hd)]
              · rw [if_neg hd, if_neg (fun h => (List.mem_append.mp h).elim hd fun h => hc (List.mem_singleton.mp h))]
          have S3 := S2.set (o' := .dK (cfL (fun q' => if q'.1 = r.1 then cnt r.2 (X : Int) (Y : Int) + (if r.1 ∈ ch.take q then 1 else 0) + 1 else cnt q'.2 (X : Int) (Y : Int) + (if q'.1 ∈ ch.take q then 1 else 0)) (rects 0 0 t)))
          refine ⟨_, rfl, ?_⟩
          rw [← e]
          exact S3
        case cen =>
          obtain ⟨y10, rfl, S2⟩ := h
          refine ⟨_, _, _, rfl, ?_⟩
          rw [List.length_map, List.take_length] at S2
          have e : cfL (fun r => cnt r.2 (X : Int) (Y : Int) + (if r.1 ∈ ch then 1 else 0)) (rects 0 0 t) = cfL (fun r => cnt r.2 (-1 + ((j + 1 : Nat) : Int)) (Y : Int)) (rects 0 0 t) := cf_congr fun r hr => by
            rw [ex, cnt_step (nn r hr).1]
            by_cases hc : inB r.2 (X : Int) (Y : Int) = true
            · rw [if_pos hc, if_pos ((cmem hr).mpr hc)]
            · rw [if_neg hc, if_neg fun h => hc ((cmem hr).mp h)]
          rw [e] at S2
          exact S2
      · obtain ⟨y10, y12, y13, rfl, S'⟩ := h
        refine ⟨_, _, _, _, rfl, ?_⟩
        have e1 : (-1 : Int) + ((((nW t : Nat) : Int) + 1 - (-1)).toNat : Nat) = (nW t : Nat) + 1 := by omega
        have e2 : (-1 : Int) + ((i + 1 : Nat) : Int) = y + 1 := by omega
        rw [e1] at S'
        rw [e2]
        have e3 : cfL (fun r => cnt r.2 ((nW t : Nat) + 1) y) (rects 0 0 t) = cfL (fun r => cnt r.2 (-1 + ((0 : Nat) : Int)) (y + 1)) (rects 0 0 t) := cf_congr fun r hr => cnt_row (nn r hr).1 (nn r hr).2 fun h1 h2 => by
          have := rin r hr h1 h2
          omega
        rw [e3] at S'
        exact S'
    · obtain ⟨y10, y11, y12, y13, rfl, S'⟩ := h
      have eN : (-1 : Int) + ((((us.length : Nat) : Int) + 1 - (-1)).toNat : Nat) = (us.length : Nat) + 1 := by omega
      rw [eN] at S'
      have eE : cfL (fun r => cnt r.2 (-1 + ((0 : Nat) : Int)) ((us.length : Nat) + 1)) (rects 0 0 t) = cfL (fun r => r.2.2.2.1 * r.2.2.2.2) (rects 0 0 t) := cf_congr fun r hr => by
        rw [show (-1 : Int) + ((0 : Nat) : Int) = -1 from rfl]
        exact cnt_end (nn r hr).1 (nn r hr).2 fun h1 h2 => by
          have := rin r hr h1 h2
          omega
      rw [eE] at S'
      have S1 := S'.sw
      refine ⟨D, .dK ab, S1.hd, trivial, fun od2 => ?_⟩
      have SF := S1.set (o' := .frz od2 (.dK ab))
      refine ⟨D, od2, rfl, .inl ⟨ab, upd_same, for_it walk_keys (fun i σ H' => ∃ (y10 : Option V), σ = [some (.ref a), some (.ref b), some v, some (.ref l), some (.int (nW t : Nat)), some (.ref Lp), some (.int (us.length : Nat)), some (.ref D), some (.ref Bd), some (.ref Cd), y10, y11, y12, y13, none] ∧
        Sep G10 ((D, .frz od2 (.dK ab)) :: (Cd, .dK (cfL (fun r => r.2.2.2.1 * r.2.2.2.2) (rects 0 0 t))) :: (Bd, .dK kb) :: [(b, o2)]) H') ⟨_, rfl, SF⟩ (fun i σ H' _ h => ?_) (fun i x σ H' H'' hi h hy => ?_) (fun σ H' h => ?_)⟩⟩
      · obtain ⟨_, _, S2⟩ := h
        exact S2.hd
      · obtain ⟨y10, rfl, S2⟩ := h
        obtain ⟨rfl, k0, v0, hk0, rfl⟩ := hy
        obtain ⟨r, hr⟩ : ∃ r, (rects 0 0 t)[i]? = some r := ⟨_, List.getElem?_eq_getElem (by omega)⟩
        have ek : k0 = Sum.inr r.1 := by
          have e := congrArg (fun l => l[i]?) abk
          simp only [List.getElem?_map, hk0, hr, Option.map_some] at e
          exact Option.some.inj e
        subst ek
        have hrm := List.mem_of_getElem? hr
        obtain ⟨ba, hba, hbl⟩ := bx_val hkb rnd (show (r.1, r.2) ∈ _ from hrm)
        have gB : DGet H'' Bd (.str r.1) (some (.ref ba)) := by
          rw [← hba]
          exact DGet.k (k := Sum.inr r.1) S2.drop.drop.hd
        have cm : CMul r.2.2.2.1 r.2.2.2.2 := by
          have n2 := nn r hrm
          by_cases h1 : 0 < r.2.2.2.1
          · by_cases h2 : 0 < r.2.2.2.2
            · have := rin r hrm h1 h2
              exact .inl ⟨by omega, by omega⟩
            · exact .inr ⟨by omega, by omega⟩
          · exact .inl ⟨by omega, by omega⟩
        refine ⟨Cd, _, rfl, (by rw [← cf_val rnd hrm]; exact DGet.k (k := Sum.inr r.1) S2.drop.hd), ?_⟩
        refine ⟨Bd, _, rfl, gB, [.int r.2.1, .int r.2.2.1, .int r.2.2.2.1, .int r.2.2.2.2], .int r.2.2.2.1, .inr (SqT.of (S2.st hbl)), rfl, ?_⟩
        refine ⟨Bd, _, rfl, gB, [.int r.2.1, .int r.2.2.1, .int r.2.2.2.1, .int r.2.2.2.2], .int r.2.2.2.2, .inr (SqT.of (S2.st hbl)), rfl, ?_⟩
        refine ⟨cm, fun e => ?_, fun _ => ⟨_, rfl, S2⟩⟩
        have e : (!decide (r.2.2.2.1 * r.2.2.2.2 = r.2.2.2.1 * r.2.2.2.2)) = true := e
        simp at e
      obtain ⟨y10, rfl, S2⟩ := h
      refine ⟨S2.hd, ?_⟩
      have S3 := (S2.set (o' := .dK ab)).drop.drop.drop
      -- six points farther off
      refine ⟨G10, [], b, o2, 1000000, rfl, S3, B10, by decide, by decide, fun rr o3 H3 r0 _ B3 S4 => ?_⟩
      refine ⟨sz, fun p1 n1 => ?_⟩
      obtain ⟨G11, t1, S4, h1⟩ := Sep.mk (o := .tup [.int ((nW t : Nat) + (1 + rr)), .int 0]) S4 n1
      refine ⟨sz, fun p2 n2 => ?_⟩
      obtain ⟨G12, t2, S4, h2⟩ := Sep.mk (o := .tup [.int 0, .int ((us.length : Nat) + (1 + rr))]) S4 n2
      refine ⟨sz, fun p3 n3 => ?_⟩
      obtain ⟨G13, t3, S4, h3⟩ := Sep.mk (o := .tup [.int (0 - 1 - (1 + rr)), .int 0]) S4 n3
      refine ⟨sz, fun p4' n4 => ?_⟩
      obtain ⟨G14, t4, S4, h4⟩ := Sep.mk (o := .tup [.int 0, .int (0 - 1 - (1 + rr))]) S4 n4
      refine ⟨sz, fun p5 n5 => ?_⟩
      obtain ⟨G15, t5, S4, h5⟩ := Sep.mk (o := .tup [.int (nW t : Nat), .int ((us.length : Nat) + (1 + rr))]) S4 n5
      refine ⟨sz, fun p6 n6 => ?_⟩
      obtain ⟨G16, t6, S4, h6⟩ := Sep.mk (o := .tup [.int (0 - (1 + rr)), .int (0 - (1 + rr))]) S4 n6
      refine ⟨sz, fun p7 n7 => ?_⟩
      obtain ⟨G17, t7, S4, h7⟩ := Sep.mk (o := .lst [.ref p1, .ref p2, .ref p3, .ref p4', .ref p5, .ref p6]) S4 n7
      have t67 := t6.trans t7
      have t57 := t5.trans t67
      have t47 := t4.trans t57
      have t37 := t3.trans t47
      have t27 := t2.trans t37
      have t17 := t1.trans t27
      have pts : ∀ u : V, u ∈ [V.ref p1, .ref p2, .ref p3, .ref p4', .ref p5, .ref p6] → ∃ (p : Addr) (x y : Int), u = .ref p ∧ G17 p = some (.tup [.int x, .int y]) ∧ ¬ (0 ≤ x ∧ x < (meas t).1 ∧ 0 ≤ y ∧ y < (meas t).2) := fun u hu => by
        simp only [List.mem_cons, List.not_mem_nil, or_false] at hu
        rcases hu with rfl | rfl | rfl | rfl | rfl | rfl
        · exact ⟨_, _, _, rfl, t27 _ _ h1, by omega⟩
        · exact ⟨_, _, _, rfl, t37 _ _ h2, by omega⟩
        · exact ⟨_, _, _, rfl, t47 _ _ h3, by omega⟩
        · exact ⟨_, _, _, rfl, t57 _ _ h4, by omega⟩
        · exact ⟨_, _, _, rfl, t67 _ _ h5, by omega⟩
        · exact ⟨_, _, _, rfl, t7 _ _ h6, by omega⟩
      refine ⟨p7, rfl, ⟨_, SqL.of (S4.st h7)⟩, for_list (xs := [.ref p1, .ref p2, .ref p3, .ref p4', .ref p5, .ref p6]) (fun i σ H' => ∃ (y10 y11 y12 y13 : Option V), σ = [some (.ref a), some (.ref b), some v, some (.ref l), some (.int (nW t : Nat)), some (.ref Lp), some (.int (us.length : Nat)), some (.ref D), some (.ref Bd), some (.ref Cd), y10, y11, y12, y13, some (.int (1 + rr))] ∧ Same G17 H') ⟨_, _, _, _, rfl, S4.1⟩ (fun i σ H' _ h => ?_) (fun i x σ H' hi h => ?_) (fun σ H' h => ?_)⟩
      · obtain ⟨_, _, _, _, _, S5⟩ := h
        exact SqL.of (S5 _ _ h7)
      · obtain ⟨y10, y11, y12, y13, rfl, S5⟩ := h
        obtain ⟨p, x, y, rfl, hp, ho⟩ := pts _ (List.mem_of_getElem? hi)
        have hl17 := hl10.same t17
        have hx17 := t17 _ _ hlx
        refine ⟨p, _, rfl, SqT.of (S5 _ _ hp), rfl, _, _, rfl, _, _, rfl, rfl, ?_⟩
        refine ⟨l, dxl, _, rfl, S5 _ _ hx17, (by rw [lk_ne, lk_ne, lk_ne, lk_ne, lk_ne]; rfl), G17, l, x, y, t, rfl, S5, hl17, ok.nd, ?_⟩
        rw [pk.out x y ho]
        exact ⟨rfl, fun e => absurd e (by decide), fun _ => ⟨_, _, _, _, rfl, S5⟩⟩
      · exact q _
end
section
open PySem.XExc
theorem law_end {l : PySem.W.OpenLaw} {w : World} {K : PySem.W.Frag} {h : Heap} {mg : Str → Option Value} {fa f : Addr} {file : Str} (X : K.In h) (G : h.Ns mainGlobals mg) (hfa : mg "law" = some (.ref fa))
    (t : ∃ T : Top K mg w, T.a_law = f ∧ T.x_file = file ∧ ∀ (s : Shared) (v : Value), BindsTo s T.d_law ⟨[v], []⟩ [("_law_script", v)]) (pf0 : PySem.XExc.PF l.prog file) :
    ∃ fd : FuncData, (∀ (s : Shared) (v : Value), BindsTo s fd ⟨[v], []⟩ [("_law_script", v)]) ∧ ∀ base : Heap, K.In base → base.Ns mainGlobals mg → FnOk l.prog w K mg base CX0 70 fa fd ["_law_script"] (spLaw K) := by
  obtain ⟨T, _, ef, hb⟩ := t
  have pf : PySem.XExc.PF l.prog T.x_file := by rw [ef]; exact pf0
  have e := hfa.symm.trans T.g_law
  cases e
  refine ⟨T.d_law, hb, fun base _ _ => ?_⟩
  have Gm : FnOk l.prog w K mg base CX0 1 T.a_mixed T.d_mixed _ spMixed := ok_mixed T
  have Gp : FnOk l.prog w K mg base CX0 2 T.a_pick T.d_pick _ spPick := ok_pick T Gm
  have Gt := ok_text T Gp
  have Gc := ok_choice T Gp
  have Gl := ok_label T Gp Gt Gc
  have Gmk := ok_marks T Gp Gt
  have Gf := ok_flat T Gp Gl
  have Gtr := ok_tree T Gp Gmk Gf (ok_grown T)
  have Gpi := ok_Page_init T (P := l.prog) (base := base) (ok_nodes_of T)
  have Gag := ok_Laid_measure_again T (P := l.prog) (base := base) (ok_from_below T) (ok_Page_top T) (ok_measure T) (ok_rectangles T)
  have Gli := ok_Laid_init T Gag
  have Gg := ok_Laid_getitem T pf (w := w) (base := base) (k := 1)
  exact ok_law T (ok_bag T) Gp Gtr Gpi Gli (ok_picture T 60) (ok_lines_of T 60) Gg (ok_Laid_hit T) (ok_holds T)
end
theorem top_mk {K : PySem.W.Frag} {W : World} {h : Heap} {mg : Str → Option Value} (X : K.In h) (G : h.Ns mainGlobals mg)
    {C0 : Addr}
    (ca0 : PySem.W.nsIn K mainGlobals "Page" = some (some (.ref C0)))
    {C1 : Addr}
    (ca1 : PySem.W.nsIn K mainGlobals "Laid" = some (some (.ref C1)))
    {f0 : Addr} {od0 an0 : Option Addr} {sl0 : Array (Option Value)} {oc0 kV0 dc0 pm0 cd0 ct0 : Value}
    (a0 : PySem.W.nsIn K mainGlobals "measure" = some (some (.ref f0)))
    (l0 : K.lookup f0 = some ⟨oc0, od0, .func (PySem.W.fnOf "measure" "measure" (defArgs s_measure) (defBody s_measure) (defScope s_measure) .none kV0 dc0 pm0 an0 cd0 ct0), sl0⟩)
    (c0 : PySem.W.codeIn K cd0 "measure" = true)
    (k0 : PySem.W.keepIn K (.ref f0) = true)
    {f1 : Addr} {od1 an1 : Option Addr} {sl1 : Array (Option Value)} {oc1 kV1 dc1 pm1 cd1 ct1 : Value}
    (a1 : PySem.W.nsIn K mainGlobals "from_below" = some (some (.ref f1)))
    (l1 : K.lookup f1 = some ⟨oc1, od1, .func (PySem.W.fnOf "from_below" "from_below" (defArgs s_from_below) (defBody s_from_below) (defScope s_from_below) .none kV1 dc1 pm1 an1 cd1 ct1), sl1⟩)
    (c1 : PySem.W.codeIn K cd1 "from_below" = true)
    (k1 : PySem.W.keepIn K (.ref f1) = true)
    {f2 : Addr} {od2 an2 : Option Addr} {sl2 : Array (Option Value)} {oc2 kV2 dc2 pm2 cd2 ct2 : Value}
    (a2 : PySem.W.nsIn K mainGlobals "rectangles" = some (some (.ref f2)))
    (l2 : K.lookup f2 = some ⟨oc2, od2, .func (PySem.W.fnOf "rectangles" "rectangles" (defArgs s_rectangles) (defBody s_rectangles) (defScope s_rectangles) .none kV2 dc2 pm2 an2 cd2 ct2), sl2⟩)
    (c2 : PySem.W.codeIn K cd2 "rectangles" = true)
    (k2 : PySem.W.keepIn K (.ref f2) = true)
    {f3 : Addr} {od3 an3 : Option Addr} {sl3 : Array (Option Value)} {oc3 kV3 dc3 pm3 cd3 ct3 : Value}
    (a3 : PySem.W.findIn K (.ref C1) "__init__" = some (some (.ref f3)))
    (i3 : PySem.W.isFn K (.ref f3) = true)
    (l3 : K.lookup f3 = some ⟨oc3, od3, .func (PySem.W.fnOf "__init__" "Laid.__init__" (defArgs s_Laid_init) (defBody s_Laid_init) (defScope s_Laid_init) .none kV3 dc3 pm3 an3 cd3 ct3), sl3⟩)
    (c3 : PySem.W.codeIn K cd3 "Laid.__init__" = true)
    (k3 : PySem.W.keepIn K (.ref f3) = true)
    {f4 : Addr} {od4 an4 : Option Addr} {sl4 : Array (Option Value)} {oc4 kV4 dc4 pm4 cd4 ct4 : Value}
    (a4 : PySem.W.findIn K (.ref C1) "__getitem__" = some (some (.ref f4)))
    (i4 : PySem.W.isFn K (.ref f4) = true)
    (fi4 : PySem.W.fnIn K f4 = true)
    (l4 : K.lookup f4 = some ⟨oc4, od4, .func (PySem.W.fnOf "__getitem__" "Laid.__getitem__" (defArgs s_Laid_getitem) (defBody s_Laid_getitem) (defScope s_Laid_getitem) .none kV4 dc4 pm4 an4 cd4 ct4), sl4⟩)
    (c4 : PySem.W.codeIn K cd4 "Laid.__getitem__" = true)
    (k4 : PySem.W.keepIn K (.ref f4) = true)
    {f5 : Addr} {od5 an5 : Option Addr} {sl5 : Array (Option Value)} {oc5 kV5 dc5 pm5 cd5 ct5 : Value}
    (a5 : PySem.W.findIn K (.ref C1) "hit" = some (some (.ref f5)))
    (i5 : PySem.W.isFn K (.ref f5) = true)
    (l5 : K.lookup f5 = some ⟨oc5, od5, .func (PySem.W.fnOf "hit" "Laid.hit" (defArgs s_Laid_hit) (defBody s_Laid_hit) (defScope s_Laid_hit) .none kV5 dc5 pm5 an5 cd5 ct5), sl5⟩)
    (c5 : PySem.W.codeIn K cd5 "Laid.hit" = true)
    (k5 : PySem.W.keepIn K (.ref f5) = true)
    {f6 : Addr} {od6 an6 : Option Addr} {sl6 : Array (Option Value)} {oc6 kV6 dc6 pm6 cd6 ct6 : Value}
    (a6 : PySem.W.findIn K (.ref C1) "measure_again" = some (some (.ref f6)))
    (i6 : PySem.W.isFn K (.ref f6) = true)
    (l6 : K.lookup f6 = some ⟨oc6, od6, .func (PySem.W.fnOf "measure_again" "Laid.measure_again" (defArgs s_Laid_measure_again) (defBody s_Laid_measure_again) (defScope s_Laid_measure_again) .none kV6 dc6 pm6 an6 cd6 ct6), sl6⟩)
    (c6 : PySem.W.codeIn K cd6 "Laid.measure_again" = true)
    (k6 : PySem.W.keepIn K (.ref f6) = true)
    {f7 : Addr} {od7 an7 : Option Addr} {sl7 : Array (Option Value)} {oc7 kV7 dc7 pm7 cd7 ct7 : Value}
    (a7 : PySem.W.nsIn K mainGlobals "nodes_of" = some (some (.ref f7)))
    (l7 : K.lookup f7 = some ⟨oc7, od7, .func (PySem.W.fnOf "nodes_of" "nodes_of" (defArgs s_nodes_of) (defBody s_nodes_of) (defScope s_nodes_of) .none kV7 dc7 pm7 an7 cd7 ct7), sl7⟩)
    (c7 : PySem.W.codeIn K cd7 "nodes_of" = true)
    (k7 : PySem.W.keepIn K (.ref f7) = true)
    {f8 : Addr} {od8 an8 : Option Addr} {sl8 : Array (Option Value)} {oc8 kV8 dc8 pm8 cd8 ct8 : Value}
    (a8 : PySem.W.findIn K (.ref C0) "__init__" = some (some (.ref f8)))
    (i8 : PySem.W.isFn K (.ref f8) = true)
    (l8 : K.lookup f8 = some ⟨oc8, od8, .func (PySem.W.fnOf "__init__" "Page.__init__" (defArgs s_Page_init) (defBody s_Page_init) (defScope s_Page_init) .none kV8 dc8 pm8 an8 cd8 ct8), sl8⟩)
    (c8 : PySem.W.codeIn K cd8 "Page.__init__" = true)
    (k8 : PySem.W.keepIn K (.ref f8) = true)
    {f9 : Addr} {od9 an9 : Option Addr} {sl9 : Array (Option Value)} {oc9 kV9 dc9 pm9 cd9 ct9 : Value}
    {p9 : Addr} {pr9 : List Value}
    (a9 : PySem.W.findIn K (.ref C0) "top" = some (some (.ref p9)))
    (pg9 : PySem.W.specialIn K (.ref p9) "__get__" = some (some (.builtin "property.__get__")))
    (pt9 : PySem.W.takesIn K (.ref p9) = some true)
    (pc9 : PySem.W.recIn K p9 "property" = some (.ref f9 :: pr9))
    (l9 : K.lookup f9 = some ⟨oc9, od9, .func (PySem.W.fnOf "top" "Page.top" (defArgs s_Page_top) (defBody s_Page_top) (defScope s_Page_top) .none kV9 dc9 pm9 an9 cd9 ct9), sl9⟩)
    (c9 : PySem.W.codeIn K cd9 "Page.top" = true)
    (k9 : PySem.W.keepIn K (.ref f9) = true)
    {f10 : Addr} {od10 an10 : Option Addr} {sl10 : Array (Option Value)} {oc10 kV10 dc10 pm10 cd10 ct10 : Value}
    (a10 : PySem.W.nsIn K mainGlobals "_law_mixed" = some (some (.ref f10)))
    (l10 : K.lookup f10 = some ⟨oc10, od10, .func (PySem.W.fnOf "_law_mixed" "_law_mixed" (defArgs s_mixed) (defBody s_mixed) (defScope s_mixed) .none kV10 dc10 pm10 an10 cd10 ct10), sl10⟩)
    (c10 : PySem.W.codeIn K cd10 "_law_mixed" = true)
    (k10 : PySem.W.keepIn K (.ref f10) = true)
    {f11 : Addr} {od11 an11 : Option Addr} {sl11 : Array (Option Value)} {oc11 kV11 dc11 pm11 cd11 ct11 : Value}
    (a11 : PySem.W.nsIn K mainGlobals "_law_bag" = some (some (.ref f11)))
    (l11 : K.lookup f11 = some ⟨oc11, od11, .func (PySem.W.fnOf "_law_bag" "_law_bag" (defArgs s_bag) (defBody s_bag) (defScope s_bag) .none kV11 dc11 pm11 an11 cd11 ct11), sl11⟩)
    (c11 : PySem.W.codeIn K cd11 "_law_bag" = true)
    (k11 : PySem.W.keepIn K (.ref f11) = true)
    {f12 : Addr} {od12 an12 : Option Addr} {sl12 : Array (Option Value)} {oc12 kV12 dc12 pm12 cd12 ct12 : Value}
    (a12 : PySem.W.nsIn K mainGlobals "_law_pick" = some (some (.ref f12)))
    (l12 : K.lookup f12 = some ⟨oc12, od12, .func (PySem.W.fnOf "_law_pick" "_law_pick" (defArgs s_pick) (defBody s_pick) (defScope s_pick) .none kV12 dc12 pm12 an12 cd12 ct12), sl12⟩)
    (c12 : PySem.W.codeIn K cd12 "_law_pick" = true)
    (k12 : PySem.W.keepIn K (.ref f12) = true)
    {f13 : Addr} {od13 an13 : Option Addr} {sl13 : Array (Option Value)} {oc13 kV13 dc13 pm13 cd13 ct13 : Value}
    (a13 : PySem.W.nsIn K mainGlobals "_law_choice" = some (some (.ref f13)))
    (l13 : K.lookup f13 = some ⟨oc13, od13, .func (PySem.W.fnOf "_law_choice" "_law_choice" (defArgs s_choice) (defBody s_choice) (defScope s_choice) .none kV13 dc13 pm13 an13 cd13 ct13), sl13⟩)
    (c13 : PySem.W.codeIn K cd13 "_law_choice" = true)
    (k13 : PySem.W.keepIn K (.ref f13) = true)
    {f14 : Addr} {od14 an14 : Option Addr} {sl14 : Array (Option Value)} {oc14 kV14 dc14 pm14 cd14 ct14 : Value}
    (a14 : PySem.W.nsIn K mainGlobals "_law_text" = some (some (.ref f14)))
    (l14 : K.lookup f14 = some ⟨oc14, od14, .func (PySem.W.fnOf "_law_text" "_law_text" (defArgs s_text) (defBody s_text) (defScope s_text) .none kV14 dc14 pm14 an14 cd14 ct14), sl14⟩)
    (c14 : PySem.W.codeIn K cd14 "_law_text" = true)
    (k14 : PySem.W.keepIn K (.ref f14) = true)
    {f15 : Addr} {od15 an15 : Option Addr} {sl15 : Array (Option Value)} {oc15 kV15 dc15 pm15 cd15 ct15 : Value}
    (a15 : PySem.W.nsIn K mainGlobals "_law_label" = some (some (.ref f15)))
    (l15 : K.lookup f15 = some ⟨oc15, od15, .func (PySem.W.fnOf "_law_label" "_law_label" (defArgs s_label) (defBody s_label) (defScope s_label) .none kV15 dc15 pm15 an15 cd15 ct15), sl15⟩)
    (c15 : PySem.W.codeIn K cd15 "_law_label" = true)
    (k15 : PySem.W.keepIn K (.ref f15) = true)
    {f16 : Addr} {od16 an16 : Option Addr} {sl16 : Array (Option Value)} {oc16 kV16 dc16 pm16 cd16 ct16 : Value}
    (a16 : PySem.W.nsIn K mainGlobals "_law_marks" = some (some (.ref f16)))
    (l16 : K.lookup f16 = some ⟨oc16, od16, .func (PySem.W.fnOf "_law_marks" "_law_marks" (defArgs s_marks) (defBody s_marks) (defScope s_marks) .none kV16 dc16 pm16 an16 cd16 ct16), sl16⟩)
    (c16 : PySem.W.codeIn K cd16 "_law_marks" = true)
    (k16 : PySem.W.keepIn K (.ref f16) = true)
    {f17 : Addr} {od17 an17 : Option Addr} {sl17 : Array (Option Value)} {oc17 kV17 dc17 pm17 cd17 ct17 : Value}
    (a17 : PySem.W.nsIn K mainGlobals "_law_flat" = some (some (.ref f17)))
    (l17 : K.lookup f17 = some ⟨oc17, od17, .func (PySem.W.fnOf "_law_flat" "_law_flat" (defArgs s_flat) (defBody s_flat) (defScope s_flat) .none kV17 dc17 pm17 an17 cd17 ct17), sl17⟩)
    (c17 : PySem.W.codeIn K cd17 "_law_flat" = true)
    (k17 : PySem.W.keepIn K (.ref f17) = true)
    {f18 : Addr} {od18 an18 : Option Addr} {sl18 : Array (Option Value)} {oc18 kV18 dc18 pm18 cd18 ct18 : Value}
    (a18 : PySem.W.nsIn K mainGlobals "_law_grown" = some (some (.ref f18)))
    (l18 : K.lookup f18 = some ⟨oc18, od18, .func (PySem.W.fnOf "_law_grown" "_law_grown" (defArgs s_grown) (defBody s_grown) (defScope s_grown) .none kV18 dc18 pm18 an18 cd18 ct18), sl18⟩)
    (c18 : PySem.W.codeIn K cd18 "_law_grown" = true)
    (k18 : PySem.W.keepIn K (.ref f18) = true)
    {f19 : Addr} {od19 an19 : Option Addr} {sl19 : Array (Option Value)} {oc19 kV19 dc19 pm19 cd19 ct19 : Value}
    (a19 : PySem.W.nsIn K mainGlobals "_law_picture" = some (some (.ref f19)))
    (l19 : K.lookup f19 = some ⟨oc19, od19, .func (PySem.W.fnOf "_law_picture" "_law_picture" (defArgs s_picture) (defBody s_picture) (defScope s_picture) .none kV19 dc19 pm19 an19 cd19 ct19), sl19⟩)
    (c19 : PySem.W.codeIn K cd19 "_law_picture" = true)
    (k19 : PySem.W.keepIn K (.ref f19) = true)
    {f20 : Addr} {od20 an20 : Option Addr} {sl20 : Array (Option Value)} {oc20 kV20 dc20 pm20 cd20 ct20 : Value}
    (a20 : PySem.W.nsIn K mainGlobals "_law_lines_of" = some (some (.ref f20)))
    (l20 : K.lookup f20 = some ⟨oc20, od20, .func (PySem.W.fnOf "_law_lines_of" "_law_lines_of" (defArgs s_lines_of) (defBody s_lines_of) (defScope s_lines_of) .none kV20 dc20 pm20 an20 cd20 ct20), sl20⟩)
    (c20 : PySem.W.codeIn K cd20 "_law_lines_of" = true)
    (k20 : PySem.W.keepIn K (.ref f20) = true)
    {f21 : Addr} {od21 an21 : Option Addr} {sl21 : Array (Option Value)} {oc21 kV21 dc21 pm21 cd21 ct21 : Value}
    (a21 : PySem.W.nsIn K mainGlobals "_law_tree" = some (some (.ref f21)))
    (l21 : K.lookup f21 = some ⟨oc21, od21, .func (PySem.W.fnOf "_law_tree" "_law_tree" (defArgs s_tree) (defBody s_tree) (defScope s_tree) .none kV21 dc21 pm21 an21 cd21 ct21), sl21⟩)
    (c21 : PySem.W.codeIn K cd21 "_law_tree" = true)
    (k21 : PySem.W.keepIn K (.ref f21) = true)
    {f22 : Addr} {od22 an22 : Option Addr} {sl22 : Array (Option Value)} {oc22 kV22 dc22 pm22 cd22 ct22 : Value}
    (a22 : PySem.W.nsIn K mainGlobals "_law_holds" = some (some (.ref f22)))
    (l22 : K.lookup f22 = some ⟨oc22, od22, .func (PySem.W.fnOf "_law_holds" "_law_holds" (defArgs s_holds) (defBody s_holds) (defScope s_holds) .none kV22 dc22 pm22 an22 cd22 ct22), sl22⟩)
    (c22 : PySem.W.codeIn K cd22 "_law_holds" = true)
    (k22 : PySem.W.keepIn K (.ref f22) = true)
    {f23 : Addr} {od23 an23 : Option Addr} {sl23 : Array (Option Value)} {oc23 kV23 dc23 pm23 cd23 ct23 : Value}
    (a23 : PySem.W.nsIn K mainGlobals "law" = some (some (.ref f23)))
    (l23 : K.lookup f23 = some ⟨oc23, od23, .func (PySem.W.fnOf "law" "law" (defArgs s_law) (defBody s_law) (defScope s_law) .none kV23 dc23 pm23 an23 cd23 ct23), sl23⟩)
    (c23 : PySem.W.codeIn K cd23 "law" = true)
    (k23 : PySem.W.keepIn K (.ref f23) = true)
    (z0 : PySem.W.nsIn K mainGlobals "abs" = some none)
    (z1 : PySem.W.nsIn K mainGlobals "enumerate" = some none)
    (z2 : PySem.W.nsIn K mainGlobals "int" = some none)
    (z3 : PySem.W.nsIn K mainGlobals "isinstance" = some none)
    (z4 : PySem.W.nsIn K mainGlobals "len" = some none)
    (z5 : PySem.W.nsIn K mainGlobals "list" = some none)
    (z6 : PySem.W.nsIn K mainGlobals "range" = some none)
    (z7 : PySem.W.nsIn K mainGlobals "str" = some none)
    (z8 : PySem.W.nsIn K mainGlobals "sum" = some none)
    (z9 : PySem.W.nsIn K mainGlobals "tuple" = some none)
    {w0 : Value}
    (y0 : PySem.W.nsIn K mainGlobals "MOST_NODES" = some (some w0))
    (x0 : ∃ t, w0 = .int 400 t)
    (cg0 : PySem.W.plainGet K C0 Str.empty = true)
    (ch0 : PySem.W.hasDictIn K C0 = true)
    (co0 : PySem.W.plainOver K C0 = true)
    (cs0 : PySem.W.findIn K (.ref C0) "__setattr__" = some (some (.builtin "object.__setattr__")))
    (cf0_0 : PySem.W.findIn K (.ref C0) "tree" = some none)
    (cf0_1 : PySem.W.findIn K (.ref C0) "nodes" = some none)
    (cf0_2 : PySem.W.findIn K (.ref C0) "above" = some none)
    (cf0_3 : PySem.W.findIn K (.ref C0) "order" = some none)
    (cm0 : PySem.W.makesIn K C0 = true)
    (ck0 : PySem.W.keepIn K (.ref C0) = true)
    (cg1 : PySem.W.plainGet K C1 Str.empty = true)
    (ch1 : PySem.W.hasDictIn K C1 = true)
    (co1 : PySem.W.plainOver K C1 = true)
    (cs1 : PySem.W.findIn K (.ref C1) "__setattr__" = some (some (.builtin "object.__setattr__")))
    (cf1_0 : PySem.W.findIn K (.ref C1) "kept_page" = some none)
    (cf1_1 : PySem.W.findIn K (.ref C1) "pairs" = some none)
    (cf1_2 : PySem.W.findIn K (.ref C1) "sizes" = some none)
    (cf1_3 : PySem.W.findIn K (.ref C1) "places" = some none)
    (cf1_4 : PySem.W.findIn K (.ref C1) "marks" = some none)
    (cm1 : PySem.W.makesIn K C1 = true)
    (ck1 : PySem.W.keepIn K (.ref C1) = true)
    {file : Str}
    {E0 : Addr}
    (xa0 : PySem.W.nsIn K mainGlobals "NoNode" = some (some (.ref E0)))
    {J0 : Addr}
    {xnm0 xq0 : Str} {xN0 : Addr} {xbs0 xbm0 xsub0 : List Value} {xsn0 : List Str} {xab0 : Bool} {xcol0 : Option Bool} {xdd0 : Option Addr} {xm00 xm10 xm20 xm30 xm50 : Option Value}
    (xL0 : K.lookup E0 = some (excClassObj xnm0 xq0 E0 xN0 xbs0 xbm0 true xsn0 xsub0 xab0 xcol0 xdd0 xm00 xm10 xm20 xm30 xm50 "ValueError.__new__"))
    (xr0 : PySem.HandSPX.refsVE xbm0 = true)
    (xs0 : PySem.W.findIn K (.ref E0) "__setattr__" = some (some (.builtin "object.__setattr__")))
    (xg0 : PySem.W.findIn K (.ref E0) "__getattribute__" = some (some (.builtin "BaseException.__getattribute__")))
    (xh0 : PySem.W.findIn K (.ref E0) "__getattr__" = some none)
    (xf0 : PySem.W.findIn K (.ref E0) "mark" = some none)
    (xi0 : PySem.W.findIn K (.ref E0) "__init__" = some (some (.ref J0)))
    (xt0 : PySem.W.typeIn K (.ref J0) = some (.type "function"))
    {xoc0 xkV0 xdc0 xpm0 xct0 xccl0 xcl0 : Value} {xod0 xan0 xcdd0 xcld0 : Option Addr} {xsl0 xccs0 xcsl0 : Array (Option Value)} {cda0 cc0 : Addr} {xvs0 : Array Value} {xtf0 : Tok}
    (xl0 : K.lookup J0 = some ⟨xoc0, xod0, .func (PySem.W.ksFn "__init__" "NoNode.__init__" (defArgs s_NoNode_init) (defBody s_NoNode_init) (defScope s_NoNode_init) .none xkV0 xdc0 xpm0 xan0 (.ref cda0) xct0 cc0), xsl0⟩)
    (xd0 : PySem.W.codeIn K (.ref cda0) "NoNode.__init__" = true)
    (xe0 : K.lookup cda0 = some ⟨xccl0, xcdd0, .fields xvs0, xccs0⟩)
    (xv0 : xvs0[2]? = some (.str file xtf0))
    (xc0 : K.lookup cc0 = some ⟨xcl0, xcld0, .cell (some (.ref E0)), xcsl0⟩)
    (xk0 : PySem.W.keepIn K (.ref E0) = true)
    (xb0 : PySem.W.subIn K (.ref E0) (.type "BaseException") = some true)
    (xy0 : PySem.W.typeIn K (.ref E0) = some (.type "type"))
    (xj0 : PySem.W.hasDictIn K E0 = true)
    (xp0 : PySem.W.ks_superIn K E0 E0 "__init__" = some (some (.builtin "ValueError.__init__")))
    (xw0 : PySem.W.subIn K (.ref E0) (.type "ValueError") = some true)
    (xz0 : PySem.W.mroIn K E0 (.ref E0) = some true)
    (xo0 : PySem.W.nsIn K cStatics "thirdparty.any" = some none)
    (xu0 : PySem.W.nsIn K mainGlobals "super" = some none)
    (xca0 : PySem.W.findIn K (.ref E0) "__class__" = some (some (.builtin "object.__class__")))
    (xcb0 : PySem.W.specialIn K (.builtin "object.__class__") "__get__" = some (some (.builtin "getset_descriptor.__get__")))
    (xcc0 : PySem.W.takesIn K (.builtin "object.__class__") = some true)
    (xcd0 : PySem.W.mroIn K E0 (.type "object") = some true)
    (xsc0 : PySem.W.isClsIn K E0 = true)
    (xss0 : PySem.W.subIn K (.ref E0) (.ref E0) = some true)
    : ∃ T : Top K mg W, T.a_law = f23 ∧ T.x_file = file ∧ ∀ (s : Shared) (v : Value), BindsTo s T.d_law ⟨[v], []⟩ [("_law_script", v)] := by
  have F0 := fun_mk (st := s_measure) l0 c0 k0
  have F1 := fun_mk (st := s_from_below) l1 c1 k1
  have F2 := fun_mk (st := s_rectangles) l2 c2 k2
  have F3 := fun_mk (st := s_Laid_init) l3 c3 k3
  have F4 := fun_mk (st := s_Laid_getitem) l4 c4 k4
  have F5 := fun_mk (st := s_Laid_hit) l5 c5 k5
  have F6 := fun_mk (st := s_Laid_measure_again) l6 c6 k6
  have F7 := fun_mk (st := s_nodes_of) l7 c7 k7
  have F8 := fun_mk (st := s_Page_init) l8 c8 k8
  have F9 := fun_mk (st := s_Page_top) l9 c9 k9
  have F10 := fun_mk (st := s_mixed) l10 c10 k10
  have F11 := fun_mk (st := s_bag) l11 c11 k11
  have F12 := fun_mk (st := s_pick) l12 c12 k12
  have F13 := fun_mk (st := s_choice) l13 c13 k13
  have F14 := fun_mk (st := s_text) l14 c14 k14
  have F15 := fun_mk (st := s_label) l15 c15 k15
  have F16 := fun_mk (st := s_marks) l16 c16 k16
  have F17 := fun_mk (st := s_flat) l17 c17 k17
  have F18 := fun_mk (st := s_grown) l18 c18 k18
  have F19 := fun_mk (st := s_picture) l19 c19 k19
  have F20 := fun_mk (st := s_lines_of) l20 c20 k20
  have F21 := fun_mk (st := s_tree) l21 c21 k21
  have F22 := fun_mk (st := s_holds) l22 c22 k22
  have F23 := fun_mk (st := s_law) l23 c23 k23
  exact ⟨⟨PySem.W.mg_none_of X G z0,
    PySem.W.mg_none_of X G z1,
    PySem.W.mg_none_of X G z2,
    PySem.W.mg_none_of X G z3,
    PySem.W.mg_none_of X G z4,
    PySem.W.mg_none_of X G z5,
    PySem.W.mg_none_of X G z6,
    PySem.W.mg_none_of X G z7,
    PySem.W.mg_none_of X G z8,
    PySem.W.mg_none_of X G z9,
    (by obtain ⟨t, e⟩ := x0; exact ⟨t, e ▸ PySem.W.mg_of X G y0⟩),
    f0,
    _,
    F0,
    F0.binds (ps := ["label", "sizes"]) (fun _ _ _ _ _ _ us hl => match us, hl with | [_, _], _ => rfl),
    PySem.W.mg_of X G a0,
    f1,
    _,
    F1,
    F1.binds (ps := ["root"]) (fun _ _ _ _ _ _ us hl => match us, hl with | [_], _ => rfl),
    PySem.W.mg_of X G a1,
    f2,
    _,
    F2,
    F2.binds (ps := ["root", "sizes"]) (fun _ _ _ _ _ _ us hl => match us, hl with | [_, _], _ => rfl),
    PySem.W.mg_of X G a2,
    f3,
    _,
    F3,
    F3.binds (ps := ["self", "page"]) (fun _ _ _ _ _ _ us hl => match us, hl with | [_, _], _ => rfl),
    f4,
    _,
    F4,
    F4.binds (ps := ["self", "mark"]) (fun _ _ _ _ _ _ us hl => match us, hl with | [_, _], _ => rfl),
    f5,
    _,
    F5,
    F5.binds (ps := ["self", "x", "y"]) (fun _ _ _ _ _ _ us hl => match us, hl with | [_, _, _], _ => rfl),
    f6,
    _,
    F6,
    F6.binds (ps := ["self", "page"]) (fun _ _ _ _ _ _ us hl => match us, hl with | [_, _], _ => rfl),
    f7,
    _,
    F7,
    F7.binds (ps := ["root"]) (fun _ _ _ _ _ _ us hl => match us, hl with | [_], _ => rfl),
    PySem.W.mg_of X G a7,
    f8,
    _,
    F8,
    F8.binds (ps := ["self", "root"]) (fun _ _ _ _ _ _ us hl => match us, hl with | [_, _], _ => rfl),
    f9,
    _,
    F9,
    F9.binds (ps := ["self"]) (fun _ _ _ _ _ _ us hl => match us, hl with | [_], _ => rfl),
    f10,
    _,
    F10,
    F10.binds (ps := ["_law_number", "_law_turn"]) (fun _ _ _ _ _ _ us hl => match us, hl with | [_, _], _ => rfl),
    PySem.W.mg_of X G a10,
    f11,
    _,
    F11,
    F11.binds (ps := ["_law_script"]) (fun _ _ _ _ _ _ us hl => match us, hl with | [_], _ => rfl),
    PySem.W.mg_of X G a11,
    f12,
    _,
    F12,
    F12.binds (ps := ["_law_bag_here", "_law_many"]) (fun _ _ _ _ _ _ us hl => match us, hl with | [_, _], _ => rfl),
    PySem.W.mg_of X G a12,
    f13,
    _,
    F13,
    F13.binds (ps := ["_law_bag_here", "_law_things"]) (fun _ _ _ _ _ _ us hl => match us, hl with | [_, _], _ => rfl),
    PySem.W.mg_of X G a13,
    f14,
    _,
    F14,
    F14.binds (ps := ["_law_bag_here", "_law_least", "_law_most"]) (fun _ _ _ _ _ _ us hl => match us, hl with | [_, _, _], _ => rfl),
    PySem.W.mg_of X G a14,
    f15,
    _,
    F15,
    F15.binds (ps := ["_law_bag_here"]) (fun _ _ _ _ _ _ us hl => match us, hl with | [_], _ => rfl),
    PySem.W.mg_of X G a15,
    f16,
    _,
    F16,
    F16.binds (ps := ["_law_bag_here", "_law_count"]) (fun _ _ _ _ _ _ us hl => match us, hl with | [_, _], _ => rfl),
    PySem.W.mg_of X G a16,
    f17,
    _,
    F17,
    F17.binds (ps := ["_law_bag_here", "_law_marks_here", "_law_deepest"]) (fun _ _ _ _ _ _ us hl => match us, hl with | [_, _, _], _ => rfl),
    PySem.W.mg_of X G a17,
    f18,
    _,
    F18,
    F18.binds (ps := ["_law_flat_here"]) (fun _ _ _ _ _ _ us hl => match us, hl with | [_], _ => rfl),
    PySem.W.mg_of X G a18,
    f19,
    _,
    F19,
    F19.binds (ps := ["_law_node"]) (fun _ _ _ _ _ _ us hl => match us, hl with | [_], _ => rfl),
    PySem.W.mg_of X G a19,
    f20,
    _,
    F20,
    F20.binds (ps := ["_law_node", "_law_above", "_law_lines"]) (fun _ _ _ _ _ _ us hl => match us, hl with | [_, _, _], _ => rfl),
    PySem.W.mg_of X G a20,
    f21,
    _,
    F21,
    F21.binds (ps := ["_law_bag_here"]) (fun _ _ _ _ _ _ us hl => match us, hl with | [_], _ => rfl),
    PySem.W.mg_of X G a21,
    f22,
    _,
    F22,
    F22.binds (ps := ["_law_box", "_law_x", "_law_y"]) (fun _ _ _ _ _ _ us hl => match us, hl with | [_, _, _], _ => rfl),
    PySem.W.mg_of X G a22,
    f23,
    _,
    F23,
    F23.binds (ps := ["_law_script"]) (fun _ _ _ _ _ _ us hl => match us, hl with | [_], _ => rfl),
    PySem.W.mg_of X G a23,
    C0,
    PySem.W.mg_of X G ca0,
    ⟨cg0, ch0, co0, cs0⟩,
    cf0_0,
    cf0_1,
    cf0_2,
    cf0_3,
    ⟨cm0, a8, i8, ck0⟩,
    p9,
    ⟨a9, pg9, pt9, ⟨_, pc9⟩⟩,
    C1,
    PySem.W.mg_of X G ca1,
    ⟨cg1, ch1, co1, cs1⟩,
    cf1_0,
    cf1_1,
    cf1_2,
    cf1_3,
    cf1_4,
    ⟨cm1, a3, i3, ck1⟩,
    ⟨a4, i4, fi4⟩,
    ⟨a6, i6, k6⟩,
    ⟨a5, i5, k5⟩,
    file,
    E0,
    J0,
    PySem.W.mg_of X G xa0,
    fun P pf => { gC := PySem.W.mg_of X G xa0, cls := ⟨_, _, _, _, _, _, _, _, _, _, _, _, _, _, _, xL0, xr0⟩, sa := xs0, ga := xg0, gg := xh0, noN := xf0, iC := xi0, tC := xt0, kC := xk0, exC := xb0, tyC := xy0, hdC := xj0, fn := ⟨_, _, _, _, _, _, _, _, _, _, _, ⟨19, 17, 19, 21⟩, ⟨19, 23, 19, 27⟩, ⟨⟨20, 8, 20, 13⟩, ⟨20, 8, 20, 15⟩, ⟨20, 8, 20, 24⟩, ⟨20, 27, 20, 45⟩, ⟨20, 46, 20, 50⟩, ⟨20, 45, 20, 53⟩, ⟨20, 25, 20, 54⟩, ⟨20, 8, 20, 55⟩, ⟨20, 8, 20, 55⟩, ⟨21, 8, 21, 12⟩, ⟨21, 8, 21, 17⟩, ⟨21, 20, 21, 24⟩, ⟨21, 8, 21, 24⟩⟩, _, _, _, _, _, _, _, _, _, xl0, xd0, xe0, xv0, pf.1, xc0, ⟨_, fun _ => rfl⟩, fun _ _ => rfl⟩, sup := xp0, subV := xw0, mroS := xz0, opq := xo0, htop := pf.2, hsup := PySem.W.mg_none_of X G xu0, f1 := by decide, f2 := by decide, f3 := by decide, f4 := by decide, ml := by decide +kernel },
    ⟨xg0, xh0, xb0, xj0, xca0, xcb0, xcc0, xcd0⟩,
    ⟨xg0, xh0, xb0, xj0⟩,
    exm_of xb0 xsc0 xy0 xss0⟩, rfl, rfl, fun s v => .of_eq rfl⟩
end K18
open PySem PySem.W PyProof.Rows
set_option maxHeartbeats 0 in
theorem PySem.Challenge.cw_drawnanew_k18_whole_points_holds : PySem.Challenge.rw_drawnanew_k18_whole_points.Holds := by
  w_on; o_law; k_head; (case hw => w_witness2)
  k_fill
  refine L2.walk_of (l := PySem.Challenge.rw_drawnanew_k18_whole_points) (n := 63) (k := 70) (x := "_law_script") (CX := fun _ => L2.CX0) (sp := fun w => K18.spLaw _) rfl (by decide) rfl ⟨rfl, by decide, by decide⟩ (fun w h Y => PySem.W.kIn_of Y) ?F (fun _ _ a ns hl _ hS => ⟨a, ns, rfl, hS, hl, fun _ => rfl⟩) (fun _ _ _ _ _ h => h)
  case F =>
    intro w mg fa h KX G hmg
    refine' K18.law_end KX G hmg (K18.top_mk (W := w) KX G ?ca0 ?ca1 ?a0 ?l0 ?c0 ?k0 ?a1 ?l1 ?c1 ?k1 ?a2 ?l2 ?c2 ?k2 ?a3 ?i3 ?l3 ?c3 ?k3 ?a4 ?i4 ?fi4 ?l4 ?c4 ?k4 ?a5 ?i5 ?l5 ?c5 ?k5 ?a6 ?i6 ?l6 ?c6 ?k6 ?a7 ?l7 ?c7 ?k7 ?a8 ?i8 ?l8 ?c8 ?k8 ?a9 ?pg9 ?pt9 ?pc9 ?l9 ?c9 ?k9 ?a10 ?l10 ?c10 ?k10 ?a11 ?l11 ?c11 ?k11 ?a12 ?l12 ?c12 ?k12 ?a13 ?l13 ?c13 ?k13 ?a14 ?l14 ?c14 ?k14 ?a15 ?l15 ?c15 ?k15 ?a16 ?l16 ?c16 ?k16 ?a17 ?l17 ?c17 ?k17 ?a18 ?l18 ?c18 ?k18 ?a19 ?l19 ?c19 ?k19 ?a20 ?l20 ?c20 ?k20 ?a21 ?l21 ?c21 ?k21 ?a22 ?l22 ?c22 ?k22 ?a23 ?l23 ?c23 ?k23 ?z0 ?z1 ?z2 ?z3 ?z4 ?z5 ?z6 ?z7 ?z8 ?z9 ?y0 ?x0 ?cg0 ?ch0 ?co0 ?cs0 ?cf0_0 ?cf0_1 ?cf0_2 ?cf0_3 ?cm0 ?ck0 ?cg1 ?ch1 ?co1 ?cs1 ?cf1_0 ?cf1_1 ?cf1_2 ?cf1_3 ?cf1_4 ?cm1 ?ck1 ?xa0 ?xL0 ?xr0 ?xs0 ?xg0 ?xh0 ?xf0 ?xi0 ?xt0 ?xl0 ?xd0 ?xe0 ?xv0 ?xc0 ?xk0 ?xb0 ?xy0 ?xj0 ?xp0 ?xw0 ?xz0 ?xo0 ?xu0 ?xca0 ?xcb0 ?xcc0 ?xcd0 ?xsc0 ?xss0) ?pf
    (case ca0 => k_is)
    (case ca1 => k_is)
    (case a0 => k_is)
    (case l0 => k_is)
    (case c0 => k_is)
    (case k0 => k_is)
    (case a1 => k_is)
    (case l1 => k_is)
    (case c1 => k_is)
    (case k1 => k_is)
    (case a2 => k_is)
    (case l2 => k_is)
    (case c2 => k_is)
    (case k2 => k_is)
    (case a3 => k_is)
    (case i3 => k_is)
    (case l3 => k_is)
    (case c3 => k_is)
    (case k3 => k_is)
    (case a4 => k_is)
    (case i4 => k_is)
    (case fi4 => k_is)
    (case l4 => k_is)
    (case c4 => k_is)
    (case k4 => k_is)
    (case a5 => k_is)
    (case i5 => k_is)
    (case l5 => k_is)
    (case c5 => k_is)
    (case k5 => k_is)
    (case a6 => k_is)
    (case i6 => k_is)
    (case l6 => k_is)
    (case c6 => k_is)
    (case k6 => k_is)
    (case a7 => k_is)
    (case l7 => k_is)
    (case c7 => k_is)
    (case k7 => k_is)
    (case a8 => k_is)
    (case i8 => k_is)
    (case l8 => k_is)
    (case c8 => k_is)
    (case k8 => k_is)
    (case a9 => k_is)
    (case pg9 => k_is)
    (case pt9 => k_is)
    (case pc9 => k_is)
    (case l9 => k_is)
    (case c9 => k_is)
    (case k9 => k_is)
    (case a10 => k_is)
    (case l10 => k_is)
    (case c10 => k_is)
    (case k10 => k_is)
    (case a11 => k_is)
    (case l11 => k_is)
    (case c11 => k_is)
    (case k11 => k_is)
    (case a12 => k_is)
    (case l12 => k_is)
    (case c12 => k_is)
    (case k12 => k_is)
    (case a13 => k_is)
    (case l13 => k_is)
    (case c13 => k_is)
    (case k13 => k_is)
    (case a14 => k_is)
    (case l14 => k_is)
    (case c14 => k_is)
    (case k14 => k_is)
    (case a15 => k_is)
    (case l15 => k_is)
    (case c15 => k_is)
    (case k15 => k_is)
    (case a16 => k_is)
    (case l16 => k_is)
    (case c16 => k_is)
    (case k16 => k_is)
    (case a17 => k_is)
    (case l17 => k_is)
    (case c17 => k_is)
    (case k17 => k_is)
    (case a18 => k_is)
    (case l18 => k_is)
    (case c18 => k_is)
    (case k18 => k_is)
    (case a19 => k_is)
    (case l19 => k_is)
    (case c19 => k_is)
    (case k19 => k_is)
    (case a20 => k_is)
    (case l20 => k_is)
    (case c20 => k_is)
    (case k20 => k_is)
    (case a21 => k_is)
    (case l21 => k_is)
    (case c21 => k_is)
    (case k21 => k_is)
    (case a22 => k_is)
    (case l22 => k_is)
    (case c22 => k_is)
    (case k22 => k_is)
    (case a23 => k_is)
    (case l23 => k_is)
    (case c23 => k_is)
    (case k23 => k_is)
    (case z0 => k_is)
    (case z1 => k_is)
    (case z2 => k_is)
    (case z3 => k_is)
    (case z4 => k_is)
    (case z5 => k_is)
    (case z6 => k_is)
    (case z7 => k_is)
    (case z8 => k_is)
    (case z9 => k_is)
    (case y0 => k_is)
    (case x0 => exact ⟨_, rfl⟩)
    (case cg0 => k_is)
    (case ch0 => k_is)
    (case co0 => k_is)
    (case cs0 => k_is)
    (case cf0_0 => k_is)
    (case cf0_1 => k_is)
    (case cf0_2 => k_is)
    (case cf0_3 => k_is)
    (case cm0 => k_is)
    (case ck0 => k_is)
    (case cg1 => k_is)
    (case ch1 => k_is)
    (case co1 => k_is)
    (case cs1 => k_is)
    (case cf1_0 => k_is)
    (case cf1_1 => k_is)
    (case cf1_2 => k_is)
    (case cf1_3 => k_is)
    (case cf1_4 => k_is)
    (case cm1 => k_is)
    (case ck1 => k_is)
    (case xa0 => k_is)
    (case xL0 => k_is)
    (case xr0 => first | rfl | decide +kernel)
    (case xs0 => k_is)
    (case xg0 => k_is)
    (case xh0 => k_is)
    (case xf0 => k_is)
    (case xi0 => k_is)
    (case xt0 => k_is)
    (case xl0 => k_is)
    (case xd0 => k_is)
    (case xe0 => k_is)
    (case xv0 => rfl)
    (case xc0 => k_is)
    (case xk0 => k_is)
    (case xb0 => k_is)
    (case xy0 => k_is)
    (case xj0 => k_is)
    (case xp0 => ks_is)
    (case xw0 => k_is)
    (case xz0 => k_is)
    (case xo0 => k_is)
    (case xu0 => k_is)
    (case xca0 => k_is)
    (case xcb0 => k_is)
    (case xcc0 => k_is)
    (case xcd0 => k_is)
    (case xsc0 => k_is)
    (case xss0 => k_is)
    (case pf => exact ⟨by first | rfl | decide +kernel, by first | rfl | decide +kernel⟩)
