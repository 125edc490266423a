import PyProof.Rows.All
import Wide.All
import OpenK.AllK
import Wide.FinOn
import HandS.ForMost
import HandS.Flow
import HandS.IsInst
import HandS.Wide
import HandS.Walk
import PyProof.Rows.IntBool
import HandS.Property
import HandS.Star
import HandS.OwnEq
import HandS.SetFor
import KE.GoesEnum
import KE.GoesMore
import HandS.Strs
import HandS.Deep
import HandS.TupAny
import KE.KRevSl
import KE.KOpsOwn
import HandS.ForExc
import HandS.FStr
import HandS.ExcField
import HandS.ExcIs
import HandS.ExcSuper
import KE.KExcSuper
import KE.KExcIs
import HandS.OwnIter
import HandS.IterNext
import HandS.Text
import HandS.Zip
import HandS.HotCalls
import PyProof.ReprRoads
import HandS.Ends
import PyProof.AutoSeq1
import HandS.IterVal
import OpenK.KMake
import HandS.Defaults
import HandS.NoneIn
import HandS.Style
import OpenK.KWalk
import KE.KSuper
import PySem.Challenge.RW_drawnanew_k45_fences_let
set_option Elab.async false
set_option linter.all false
set_option maxRecDepth 100000
set_option maxHeartbeats 4000000
/-! XBase: readings that compute, over the hand layer; the heap cut into a part that only grows and cells that change. -/
namespace XL
open PySem PySem.Spec PyProof.Rows L2
abbrev St := L2.St

/-! ### a reading may be exchanged for a stronger one -/
theorem pe_str {X : Cx} {e : Expr} {t t' : TE} (h : PE X e t) (k : ∀ σ H Q, t' σ H Q → t σ H Q) : PE X e t' := ⟨fun pins s σ H Q I q => h.run pins s σ H Q I (k σ H Q q)⟩
theorem pt_str {X : Cx} {e : Expr} {t t' : TT} (h : PT X e t) (k : ∀ σ H Q, t' σ H Q → t σ H Q) : PT X e t' := ⟨fun pins s σ H Q I q => h.run pins s σ H Q I (k σ H Q q)⟩
theorem ps_str {X : Cx} {e : Stmt} {t t' : TS} (h : PS X e t) (k : ∀ D σ H, t' D σ H → t D σ H) : PS X e t' := ⟨fun pins s σ H D I q => h.run pins s σ H D I (k D σ H q)⟩
theorem or_str {X : Cx} {f : Value → Value → Sem Value} {r r' : R2} (h : OpR X f r) (k : ∀ x y H Q, r' x y H Q → r x y H Q) : OpR X f r' := fun pins s σ H x y v u Q I rx ry q => h pins s σ H x y v u Q I rx ry (k x y H Q q)
theorem cr_str {X : Cx} {f : Value} {r r' : List V → Hp → VK → Prop} (h : CallR X f r) (k : ∀ xs H Q, r' xs H Q → r xs H Q) : CallR X f r' := fun pins s σ H xs us Q I rx q => h pins s σ H xs us Q I rx (k xs H Q q)
theorem OpR.or {X : Cx} {f : Value → Value → Sem Value} {r r' : R2} (h : OpR X f r) (h' : OpR X f r') : OpR X f (fun x y H Q => r x y H Q ∨ r' x y H Q) := by
  intro pins s σ H x y v u Q I rx ry q
  rcases q with q | q
  · exact h pins s σ H x y v u Q I rx ry q
  · exact h' pins s σ H x y v u Q I rx ry q

/-! ### names -/
def nth : St → Nat → Option V
  | [], _ => none
  | x :: _, 0 => x
  | _ :: r, n + 1 => nth r n
theorem nth_get : ∀ {σ : St} {i : Nat} {v : V}, nth σ i = some v → σ[i]? = some (some v)
  | [], _, _, h => nomatch h
  | _ :: _, 0, _, h => congrArg some h
  | _ :: r, n + 1, _, h => by
    rw [List.getElem?_cons_succ]
    exact nth_get (σ := r) h
def xVar (i : Nat) : TE := fun σ H Q => match nth σ i with
  | some v => Q v H
  | none => False
section
variable {X : Cx} {a b c : Expr} {ta tb tc : TE} {pos : Pos} {tA tB' : TT} {rest : List Expr}
theorem xv (i : Nat) {x : Str} {pos : Pos} (hN : X.N[i]? = some x := by rfl) (hv : Vis X.env.scope x := by first | exact Or.inl rfl | exact Or.inr (Or.inl rfl) | exact Or.inr (Or.inr rfl)) (hd : (x == ("__debug__" : Str)) = false := by decide)
    (hcd : (x == ("__classdict__" : Str)) = false := by decide) : PE X (.Name x pos) (xVar i) := pe_str (pe_var hN hv hd hcd) fun σ H Q h => by
  unfold xVar at h
  cases e : nth σ i with
  | none => rw [e] at h; exact h.elim
  | some v => rw [e] at h; exact ⟨v, nth_get e, h⟩

/-! ### arithmetic -/
theorem op_mul_ib : OpR X (binaryOp .Mult) (fun x y H Q => ∃ i k, x = .int i ∧ y = .bl k ∧ Q (.int (i * b2i k)) H) := by
  intro pins s σ H x y v u Q I rx ry h
  obtain ⟨i, k, rfl, rfl, q⟩ := h
  obtain ⟨t, rfl⟩ := rx
  cases ry
  refine PySem.IntBool.mul_int_bool ?_
  have e : (if k = true then (1 : Int) else 0) = b2i k := by cases k <;> rfl
  rw [e]
  exact ⟨.int (i * b2i k), H, I.tok _, ⟨_, rfl⟩, q⟩
def yAdd : R2 := fun x y H Q => match x, y with
  | .int i, .int j => Q (.int (i + j)) H
  | .int i, .bl k => Q (.int (i + b2i k)) H
  | .str a, .str b => a.length + b.length ≤ sizeLine ∧ ∀ r : Str, r = a ++ b → Q (.str r) H
  | .ref l, .ref b => rCat (.ref l) (.ref b) H Q
  | _, _ => False
theorem op_addY : OpR X (binaryOp .Add) yAdd := by
  refine or_str (OpR.or (op_add (X := X)) (OpR.or (op_add_ib (X := X)) (OpR.or (op_add_str (X := X)) (op_cat (X := X))))) fun x y H Q h => ?_
  unfold yAdd at h
  split at h
  · exact .inl ⟨_, _, rfl, rfl, h⟩
  · exact .inr (.inl ⟨_, _, rfl, rfl, h⟩)
  · exact .inr (.inr (.inl ⟨_, _, rfl, rfl, h.1, h.2 _ rfl⟩))
  · exact .inr (.inr (.inr h))
  · exact h.elim
def ySub : R2 := fun x y H Q => match x, y with
  | .int i, .int j => Q (.int (i - j)) H
  | _, _ => False
theorem op_subY : OpR X (binaryOp .Sub) ySub := by
  refine or_str (op_sub (X := X)) fun x y H Q h => ?_
  unfold ySub at h
  split at h
  · exact ⟨_, _, rfl, rfl, h⟩
  · exact h.elim
def yMul : R2 := fun x y H Q => match x, y with
  | .int i, .int j => CMul i j ∧ Q (.int (i * j)) H
  | .int i, .bl k => Q (.int (i * b2i k)) H
  | .ref l, .int k => rRep (.ref l) (.int k) H Q
  | _, _ => False
theorem op_mulY : OpR X (binaryOp .Mult) yMul := by
  refine or_str (OpR.or (op_mul (X := X)) (OpR.or (op_mul_ib (X := X)) (op_rep (X := X)))) fun x y H Q h => ?_
  unfold yMul at h
  split at h
  · exact .inl ⟨_, _, rfl, rfl, h.1, h.2⟩
  · exact .inr (.inl ⟨_, _, rfl, rfl, h⟩)
  · exact .inr (.inr h)
  · exact h.elim
def yMod : R2 := fun x y H Q => match x, y with
  | .int i, .int j => 0 < j ∧ ∀ r : Int, r = i % j → 0 ≤ r → r < j → Q (.int r) H
  | _, _ => False
theorem op_modY : OpR X (binaryOp .Mod) yMod := by
  refine or_str (op_mod (X := X)) fun x y H Q h => ?_
  unfold yMod at h
  split at h
  · exact ⟨_, _, rfl, rfl, h.1, h.2 _ rfl (Int.emod_nonneg _ (by have := h.1; omega)) (Int.emod_lt_of_pos _ h.1)⟩
  · exact h.elim
def yDiv : R2 := fun x y H Q => match x, y with
  | .int i, .int j => (0 < j ∧ j < 1073741824) ∧ ∀ r : Int, r = i / j → (0 ≤ i → 0 ≤ r) → Q (.int r) H
  | _, _ => False
theorem op_divY : OpR X (binaryOp .FloorDiv) yDiv := by
  refine or_str (op_fdiv (X := X)) fun x y H Q h => ?_
  unfold yDiv at h
  split at h
  · exact ⟨_, _, rfl, rfl, h.1, h.2 _ rfl (fun h0 => Int.ediv_nonneg h0 (by have := h.1.1; omega))⟩
  · exact h.elim
def yPow : R2 := fun x y H Q => match x, y with
  | .int i, .int j => CPow i j ∧ ∀ r : Int, r = i ^ j.toNat → Q (.int r) H
  | _, _ => False
theorem op_powY : OpR X (binaryOp .Pow) yPow := by
  refine or_str (op_pow (X := X)) fun x y H Q h => ?_
  unfold yPow at h
  split at h
  · exact ⟨_, _, rfl, rfl, h.1, h.2 _ rfl⟩
  · exact h.elim

/-! ### comparisons -/
def yCmp (p : Int → Int → Bool) : R2 := fun x y H Q => match x, y with
  | .int i, .int j => Q (.bl (p i j)) H
  | _, _ => False
theorem yCmp_rI {p : Int → Int → Bool} {x y : V} {H : Hp} {Q : VK} (h : yCmp p x y H Q) : rI0 (fun i j => .bl (p i j)) x y H Q := by
  unfold yCmp at h
  split at h
  · exact ⟨_, _, rfl, rfl, h⟩
  · exact h.elim
theorem op_ltY : OpR X (compareOp .Lt) (yCmp fun i j => decide (i < j)) := or_str (op_lt (X := X)) fun _ _ _ _ h => yCmp_rI h
theorem op_leY : OpR X (compareOp .LtE) (yCmp fun i j => decide (i ≤ j)) := or_str (op_le (X := X)) fun _ _ _ _ h => yCmp_rI h
theorem op_gtY : OpR X (compareOp .Gt) (yCmp fun i j => decide (j < i)) := or_str (op_gt (X := X)) fun _ _ _ _ h => yCmp_rI h
theorem op_geY : OpR X (compareOp .GtE) (yCmp fun i j => decide (j ≤ i)) := or_str (op_ge (X := X)) fun _ _ _ _ h => yCmp_rI h
def yEq (K : PySem.W.Frag) : R2 := fun x y H Q => match x, y with
  | .int i, .int j => Q (.bl (decide (i = j))) H
  | .str i, .str j => Q (.bl (decide (i = j))) H
  | .bl i, .bl j => Q (.bl (decide (i = j))) H
  | .ref a, .ref b => rEqD K (.ref a) (.ref b) H Q
  | x, y => scal x y = true ∧ Q (.bl (decide (x = y))) H
def yNe (K : PySem.W.Frag) : R2 := fun x y H Q => match x, y with
  | .int i, .int j => Q (.bl (!decide (i = j))) H
  | .str i, .str j => Q (.bl (!decide (i = j))) H
  | .bl i, .bl j => Q (.bl (!decide (i = j))) H
  | .ref a, .ref b => rNeD K (.ref a) (.ref b) H Q
  | x, y => scal x y = true ∧ Q (.bl (!decide (x = y))) H
theorem deci {i j : Int} : decide (V.int i = V.int j) = decide (i = j) := by by_cases h : i = j <;> simp [h]
theorem decs {i j : Str} : decide (V.str i = V.str j) = decide (i = j) := by by_cases h : i = j <;> simp [h]
theorem decb {i j : Bool} : decide (V.bl i = V.bl j) = decide (i = j) := by by_cases h : i = j <;> simp [h]
theorem op_eqY (hu : X.A.units + 64 < cLine) : OpR X (compareOp .Eq) (yEq X.K) := by
  refine or_str (OpR.or (op_eq (X := X)) (op_eqD hu)) fun x y H Q h => ?_
  unfold yEq at h
  split at h
  · exact .inl ⟨rfl, by rw [deci]; exact h⟩
  · exact .inl ⟨rfl, by rw [decs]; exact h⟩
  · exact .inl ⟨rfl, by rw [decb]; exact h⟩
  · exact .inr h
  · exact .inl h
theorem op_neY (hu : X.A.units + 64 < cLine) : OpR X (compareOp .NotEq) (yNe X.K) := by
  refine or_str (OpR.or (op_ne (X := X)) (op_neD hu)) fun x y H Q h => ?_
  unfold yNe at h
  split at h
  · exact .inl ⟨rfl, by rw [deci]; exact h⟩
  · exact .inl ⟨rfl, by rw [decs]; exact h⟩
  · exact .inl ⟨rfl, by rw [decb]; exact h⟩
  · exact .inr h
  · exact .inl h

/-! ### tests -/
/-- a bool as a test -/
def xB (t : TE) : TT := fun σ H Q => t σ H fun x H1 => match x with
  | .bl c => Q c H1
  | _ => False
theorem pe_mono {X : Cx} {e : Expr} {t : TE} (_h : PE X e t) : True := trivial
theorem xt_cmp {op : CmpOp} {r : R2} (ho : OpR X (compareOp op) r) (ha : PE X a ta) (hb : PE X b tb) (hm : behindInMarks op b = false) : PT X (.Compare a [op] [b] pos) (xB (tOp r ta tb)) := by
  refine ⟨fun pins s σ H Q I h => ?_⟩
  refine wpAny_isTrue_Compare1 (thn (ha.run pins s σ H _ I h) fun v s1 ⟨x, H1, I1, r1, q1⟩ => thn (hb.run pins s1 σ H1 _ I1 q1) fun u s2 ⟨y, H2, I2, r2, q2⟩ =>
    thn (ho pins s2 σ H2 x y v u _ I2 r1 r2 q2) fun c s3 ⟨z, H3, I3, r3, q3⟩ => ?_) hm
  cases z with
  | bl k =>
    cases r3
    exact wpAny_truthy_bool ⟨H3, I3, q3⟩
  | _ => exact False.elim q3
theorem xt_val {e : Expr} {t : TE} (h : PE X e t) (he : ∀ whole, isTrue e X.env whole = (do let v ← whole; standAt e.pos; holding [v] (truthy v)) := by intro _; rfl) : PT X e (xB t) := by
  refine ⟨fun pins s σ H Q I hw => ?_⟩
  refine isTrue_plain (thn (h.run pins s σ H _ I hw) fun v s1 ⟨x, H1, I1, r1, q1⟩ => ?_) (he _)
  cases x with
  | bl k =>
    cases r1
    exact wpAny_truthy_bool ⟨H1, I1, q1⟩
  | _ => exact False.elim q1
/-- the truth of a value -/
def yTru (K : PySem.W.Frag) (x : V) (H : Hp) (Q : Bool → Hp → Prop) : Prop := match x with
  | .bl c => Q c H
  | .int i => Q (i != 0) H
  | .non => Q false H
  | x => ∃ k, TruV K x H k ∧ Q k H
def xTru (K : PySem.W.Frag) (t : TE) : TT := fun σ H Q => t σ H fun x H1 => yTru K x H1 Q
theorem xt_tru (ha : PE X a ta) (he : ∀ whole, isTrue a X.env whole = (do let v ← whole; standAt a.pos; holding [v] (truthy v)) := by intro _; rfl) : PT X a (xTru X.K ta) := by
  have hq : PE X a (fun σ H Q => ta σ H Q) := ha
  refine ⟨fun pins s σ H Q I hw => ?_⟩
  refine isTrue_plain (thn (ha.run pins s σ H _ I hw) fun v s1 ⟨x, H1, I1, r1, q1⟩ => ?_) (he _)
  have q2 : ∃ k, TruV X.K x H1 k ∧ Q k H1 := by
    change yTru X.K x H1 Q at q1
    unfold yTru at q1
    split at q1
    · exact ⟨_, rfl, q1⟩
    · exact ⟨_, rfl, q1⟩
    · exact ⟨_, rfl, q1⟩
    · exact q1
  exact tru_ok pins s1 σ H1 x v Q I1 r1 q2
def xAnd (t u : TT) : TT := fun σ H Q => t σ H fun c H1 => (c = true → u σ H1 Q) ∧ (c = false → Q false H1)
def xOr (t u : TT) : TT := fun σ H Q => t σ H fun c H1 => (c = true → Q true H1) ∧ (c = false → u σ H1 Q)
theorem xw_and (ha : PT X a tA) (hb : PW X (.BoolOp .And (b :: rest) pos) tB') : PW X (.BoolOp .And (a :: b :: rest) pos) (xAnd tA tB') := by
  refine ⟨fun wh pins s0 σ H Q J h => ?_⟩
  refine isTrue_and (thn (ha.run pins s0 σ H _ J h) fun k s2 ⟨H2, J2, q2⟩ => ?_)
  cases k with
  | true => exact hb.run wh pins s2 σ H2 Q J2 (q2.1 rfl)
  | false => exact ⟨H2, J2, q2.2 rfl⟩
theorem xw_or (ha : PT X a tA) (hb : PW X (.BoolOp .Or (b :: rest) pos) tB') : PW X (.BoolOp .Or (a :: b :: rest) pos) (xOr tA tB') := by
  refine ⟨fun wh pins s0 σ H Q J h => ?_⟩
  refine isTrue_or (thn (ha.run pins s0 σ H _ J h) fun k s2 ⟨H2, J2, q2⟩ => ?_)
  cases k with
  | true => exact ⟨H2, J2, q2.1 rfl⟩
  | false => exact hb.run wh pins s2 σ H2 Q J2 (q2.2 rfl)
/-- and, or, not as values: of bools -/
def xAndV (ta tb : TE) : TE := fun σ H Q => ta σ H fun x H1 => match x with
  | .bl c => (c = true → tb σ H1 Q) ∧ (c = false → Q (.bl false) H1)
  | _ => False
def xOrV (ta tb : TE) : TE := fun σ H Q => ta σ H fun x H1 => match x with
  | .bl c => (c = true → Q (.bl true) H1) ∧ (c = false → tb σ H1 Q)
  | _ => False
def xNotV (ta : TE) : TE := fun σ H Q => ta σ H fun x H1 => match x with
  | .bl c => Q (.bl (!c)) H1
  | _ => False
theorem xe_and (ha : PE X a ta) (hb : PE X (.BoolOp .And (b :: rest) pos) tb) : PE X (.BoolOp .And (a :: b :: rest) pos) (xAndV ta tb) := by
  refine ⟨fun pins s0 σ H Q J h => ?_⟩
  refine BoolOp_and (thn (ha.run pins s0 σ H _ J h) fun v s2 ⟨x, H2, J2, r2, q2⟩ => ?_)
  cases x with
  | bl k =>
    cases r2
    refine wpAny_truthy_bool ?_
    cases k with
    | true => exact hb.run pins s2 σ H2 Q J2 (q2.1 rfl)
    | false => exact ⟨.bl false, H2, J2, rfl, q2.2 rfl⟩
  | _ => exact False.elim q2
theorem xe_or (ha : PE X a ta) (hb : PE X (.BoolOp .Or (b :: rest) pos) tb) : PE X (.BoolOp .Or (a :: b :: rest) pos) (xOrV ta tb) := by
  refine ⟨fun pins s0 σ H Q J h => ?_⟩
  refine BoolOp_or (thn (ha.run pins s0 σ H _ J h) fun v s2 ⟨x, H2, J2, r2, q2⟩ => ?_)
  cases x with
  | bl k =>
    cases r2
    refine wpAny_truthy_bool ?_
    cases k with
    | true => exact ⟨.bl true, H2, J2, rfl, q2.1 rfl⟩
    | false => exact hb.run pins s2 σ H2 Q J2 (q2.2 rfl)
  | _ => exact False.elim q2
theorem xe_not (ha : PE X a ta) : PE X (.UnaryOp .Not a pos) (xNotV ta) := by
  refine ⟨fun pins s0 σ H Q J h => ?_⟩
  refine UnaryOp_ (thn (ha.run pins s0 σ H _ J h) fun v s2 ⟨x, H2, J2, r2, q2⟩ => ?_)
  cases x with
  | bl k =>
    cases r2
    exact not_of (wpAny_truthy_bool ⟨.bl (!k), H2, J2, rfl, q2⟩)
  | _ => exact False.elim q2
/-- a if t else b -/
def xIf (t : TT) (ta tb : TE) : TE := fun σ H Q => t σ H fun c H1 => (c = true → ta σ H1 Q) ∧ (c = false → tb σ H1 Q)
theorem xe_if {c : Expr} (hc : PT X c tA) (ha : PE X a ta) (hb : PE X b tb) : PE X (.IfExp c a b pos) (xIf tA ta tb) := by
  refine ⟨fun pins s0 σ H Q J h => ?_⟩
  refine wpAny_IfExp (thn (hc.run pins s0 σ H _ J h) fun k s2 ⟨H2, J2, q2⟩ => ?_)
  cases k with
  | true => exact ha.run pins s2 σ H2 Q J2 (q2.1 rfl)
  | false => exact hb.run pins s2 σ H2 Q J2 (q2.2 rfl)
/-- if t: .. else: .. -/
def xIfS (c : TT) (t u : TS) : TS := fun D σ H => c σ H fun b H1 => (b = true → t D σ H1) ∧ (b = false → u D σ H1)
theorem xs_if {c : Expr} {as bs : List Stmt} {tc : TT} {t u : TS} (hc : PT X c tc) (ha : PSs X as t) (hb : PSs X bs u) : PS X (.If c as bs pos) (xIfS tc t u) := by
  refine ⟨fun pins s0 σ H D J h => ?_⟩
  refine wpAny_If (thn (hc.run pins s0 σ H _ J h) fun k s2 ⟨H2, J2, q2⟩ => ?_)
  cases k with
  | true => exact ha.run pins s2 σ H2 D J2 (q2.1 rfl)
  | false => exact hb.run pins s2 σ H2 D J2 (q2.2 rfl)

/-! ### calls of built-ins -/
def yLen (K : PySem.W.Frag) : List V → Hp → VK → Prop := fun xs H Q => match xs with
  | [.str y] => y.length ≤ sizeLine ∧ Q (.int y.length) H
  | [.ref p] => ∃ ys, (SqL K H p ys ∨ SqT K H p ys) ∧ Q (.int ys.length) H
  | _ => False
theorem cr_len : CallR X (.builtin "len") (yLen X.K) := by
  refine cr_str (call_len (X := X)) fun xs H Q h => ?_
  unfold yLen at h
  split at h
  · exact ⟨_, _, rfl, ⟨h.1, rfl⟩, h.2⟩
  · obtain ⟨ys, hy, q⟩ := h
    rcases hy with hy | hy
    · exact ⟨_, _, rfl, .inl ⟨ys, hy, rfl⟩, q⟩
    · exact ⟨_, _, rfl, .inr ⟨ys, hy, rfl⟩, q⟩
  · exact h.elim
def yInt : List V → Hp → VK → Prop := fun xs H Q => match xs with
  | [.int i] => Q (.int i) H
  | [.bl k] => Q (.int (if k then 1 else 0)) H
  | [.str z] => ∃ n, PySem.intText? z = some n ∧ z.length ≤ 640 ∧ Q (.int n) H
  | _ => False
theorem cr_int : CallR X (.type "int") yInt := by
  refine cr_str (CallR.or (call_int1 (X := X)) (call_int_str (X := X))) fun xs H Q h => ?_
  unfold yInt at h
  split at h
  · exact .inl (.inl ⟨_, rfl, h⟩)
  · exact .inl (.inr ⟨_, rfl, h⟩)
  · obtain ⟨n, h1, h2, q⟩ := h
    exact .inr ⟨_, n, rfl, h1, h2, q⟩
  · exact h.elim
def yAbs : List V → Hp → VK → Prop := fun xs H Q => match xs with
  | [.int i] => Q (.int i.natAbs) H
  | _ => False
theorem cr_abs : CallR X (.builtin "abs") yAbs := by
  refine cr_str (call_abs (X := X)) fun xs H Q h => ?_
  unfold yAbs at h
  split at h
  · rename_i i
    refine ⟨i, rfl, ?_⟩
    have e : (if i < 0 then -i else i) = (i.natAbs : Int) := by split <;> omega
    rw [e]
    exact h
  · exact h.elim
def yStr : List V → Hp → VK → Prop := fun xs H Q => match xs with
  | [.int i] => i.natAbs.log2 < 1920 ∧ Q (.str (toString i)) H
  | _ => False
theorem cr_strI : CallR X (.type "str") yStr := by
  refine cr_str (call_str_int (X := X)) fun xs H Q h => ?_
  unfold yStr at h
  split at h
  · exact ⟨_, rfl, h.1, h.2⟩
  · exact h.elim
def yIx (K : PySem.W.Frag) : R2 := fun x y H Q => match x, y with
  | .ref p, .int i => ∃ xs v, (SqL K H p xs ∨ SqT K H p xs) ∧ atI xs i = some v ∧ Q v H
  | .str z, .int i => ∃ c, z.length ≤ sizeLine ∧ atI z.cps.toList i = some c ∧ Q (.str ⟨#[c]⟩) H
  | _, _ => False
theorem ix_y : IxR X (yIx X.K) := by
  intro value slice pins s σ H x y v u Q I rx ry h hs
  refine ix_seq (X := X) value slice pins s σ H x y v u Q I rx ry ?_ hs
  unfold yIx at h
  split at h
  · obtain ⟨xs, z, h1, h2, q⟩ := h
    rcases h1 with h1 | h1
    · exact .inl ⟨_, xs, _, z, rfl, rfl, h1, h2, q⟩
    · exact .inr (.inl ⟨_, xs, _, z, rfl, rfl, h1, h2, q⟩)
  · obtain ⟨k, h1, h2, q⟩ := h
    exact .inr (.inr ⟨_, _, k, rfl, rfl, h1, h2, q⟩)
  · exact h.elim
end

/-! ### the heap: what only grows, and the cells that change -/
def Sep (G : Hp) (M : List (Addr × HO)) (H : Hp) : Prop := Same G H ∧ (∀ p ∈ M, H p.1 = some p.2 ∧ G p.1 = none) ∧ (M.map (·.1)).Nodup
section
variable {G G' H H' : Hp} {M : List (Addr × HO)} {p a b : Addr} {o o' u : HO}
theorem same_upd (h : H p = none) : Same H (upd H p o) := fun b x e => by
  rw [upd_ne (ne_of_none e h)]
  exact e
theorem sep0 : Sep H [] H := ⟨Same.refl H, (fun _ h => nomatch h), List.nodup_nil⟩
theorem Sep.st (S : Sep G M H) (h : G a = some o) : H a = some o := S.1 a o h
theorem Sep.hd (S : Sep G ((a, o) :: M) H) : H a = some o := (S.2.1 _ List.mem_cons_self).1
theorem Sep.at (S : Sep G M H) (h : (a, o) ∈ M) : H a = some o := (S.2.1 _ h).1
theorem Sep.fresh (S : Sep G M H) (h : H p = none) : G p = none := S.1.free h
theorem Sep.new (S : Sep G M H) (h : H p = none) : Sep G ((p, o) :: M) (upd H p o) := by
  refine ⟨S.1.trans (same_upd h), fun q hq => ?_, ?_⟩
  · rcases List.mem_cons.mp hq with rfl | hq
    · exact ⟨upd_same, S.fresh h⟩
    · exact ⟨same_upd h _ _ (S.2.1 q hq).1, (S.2.1 q hq).2⟩
  · rw [List.map_cons, List.nodup_cons]
    refine ⟨fun hm => ?_, S.2.2⟩
    obtain ⟨q, hq, e⟩ := List.mem_map.mp hm
    have z := (S.2.1 q hq).1
    rw [e, h] at z
    cases z
theorem Sep.newG (S : Sep G M H) (h : H p = none) : Sep (upd G p o) M (upd H p o) := by
  refine ⟨fun b x e => ?_, fun q hq => ?_, S.2.2⟩
  · by_cases hb : b = p
    · subst hb
      rw [upd_same] at e ⊢
      exact e
    · rw [upd_ne hb] at e ⊢
      exact S.1 b x e
  · have z := S.2.1 q hq
    refine ⟨same_upd h _ _ z.1, ?_⟩
    rw [upd_ne (ne_of_none z.1 h)]
    exact z.2
theorem Sep.grow (S : Sep G M H) (h : H p = none) : Same G (upd G p o) := same_upd (S.fresh h)
theorem Sep.set (S : Sep G ((a, o) :: M) H) : Sep G ((a, o') :: M) (upd H a o') := by
  have hn := S.2.2
  rw [List.map_cons, List.nodup_cons] at hn
  have ha := S.2.1 _ List.mem_cons_self
  refine ⟨fun b x e => ?_, fun q hq => ?_, S.2.2⟩
  · rw [upd_ne (ne_of_none e ha.2)]
    exact S.1 b x e
  · rcases List.mem_cons.mp hq with rfl | hq
    · exact ⟨upd_same, ha.2⟩
    · refine ⟨?_, (S.2.1 q (List.mem_cons_of_mem _ hq)).2⟩
      rw [upd_ne (show q.1 ≠ a from fun e => hn.1 (by have z : q.1 ∈ M.map (·.1) := List.mem_map_of_mem hq
                                                      rw [e] at z; exact z))]
      exact (S.2.1 q (List.mem_cons_of_mem _ hq)).1
theorem Sep.frz (S : Sep G ((a, o) :: M) H) : Sep (upd G a o) M H := by
  have hn := S.2.2
  rw [List.map_cons, List.nodup_cons] at hn
  have ha := S.2.1 _ List.mem_cons_self
  refine ⟨fun b x e => ?_, fun q hq => ?_, hn.2⟩
  · by_cases hb : b = a
    · subst hb
      rw [upd_same] at e
      cases e
      exact ha.1
    · rw [upd_ne hb] at e
      exact S.1 b x e
  · have z := S.2.1 q (List.mem_cons_of_mem _ hq)
    refine ⟨z.1, ?_⟩
    rw [upd_ne (show q.1 ≠ a from fun e => hn.1 (by have z : q.1 ∈ M.map (·.1) := List.mem_map_of_mem hq
                                                    rw [e] at z; exact z))]
    exact z.2
theorem Sep.none (S : Sep G ((a, o) :: M) H) : G a = none := (S.2.1 _ List.mem_cons_self).2
theorem Sep.frzS (S : Sep G ((a, o) :: M) H) : Same G (upd G a o) := same_upd S.none
theorem Sep.drop {q : Addr × HO} (S : Sep G (q :: M) H) : Sep G M H := by
  have hn := S.2.2
  rw [List.map_cons, List.nodup_cons] at hn
  exact ⟨S.1, fun p hp => S.2.1 p (List.mem_cons_of_mem _ hp), hn.2⟩
theorem Sep.perm {M' : List (Addr × HO)} (S : Sep G M H) (h : M.Perm M') : Sep G M' H :=
  ⟨S.1, fun q hq => S.2.1 q (h.mem_iff.mpr hq), (h.map _).nodup_iff.mp S.2.2⟩
theorem Sep.sw {q r : Addr × HO} (S : Sep G (q :: r :: M) H) : Sep G (r :: q :: M) H := S.perm (List.Perm.swap _ _ _)
theorem same_l {K : PySem.W.Frag} {xs : List V} (e : Same H H') (h : SqL K H a xs) : SqL K H' a xs := e.seq h
theorem same_t {K : PySem.W.Frag} {xs : List V} (e : Same H H') (h : SqT K H a xs) : SqT K H' a xs := by
  rcases h with (h | ⟨o, h⟩) | h
  · exact .inl (.inl (e _ _ h))
  · exact .inl (.inr ⟨o, e _ _ h⟩)
  · exact .inr h
theorem Sep.l {K : PySem.W.Frag} {xs : List V} (S : Sep G M H) (h : SqL K G a xs) : SqL K H a xs := same_l S.1 h
theorem Sep.t {K : PySem.W.Frag} {xs : List V} (S : Sep G M H) (h : SqT K G a xs) : SqT K H a xs := same_t S.1 h
end
mutual
theorem dp_same {K : PySem.W.Frag} {H H' : Hp} (e : Same H H') : ∀ {d : PyData} {v : V}, Dp K H v d → Dp K H' v d
  | _, _, .non => .non
  | _, _, .bl b => .bl b
  | _, _, .int i => .int i
  | _, _, .str x => .str x
  | _, _, .lst h hs => .lst (same_l e h) (dpa_same e hs)
  | _, _, .tup h hs => .tup (same_t e h) (dpa_same e hs)
theorem dpa_same {K : PySem.W.Frag} {H H' : Hp} (e : Same H H') : ∀ {ds : List PyData} {vs : List V}, DpAll K H vs ds → DpAll K H' vs ds
  | _, _, .nil => .nil
  | _, _, .cons h hs => .cons (dp_same e h) (dpa_same e hs)
end

/-! ### loops by what has been gone through -/
theorem take_pre {α : Type} {xs : List α} {i : Nat} {x : α} (h : xs[i]? = some x) : xs = xs.take i ++ x :: xs.drop (i + 1) ∧ xs.take (i + 1) = xs.take i ++ [x] := by
  have hi : i < xs.length := (List.getElem?_eq_some_iff.mp h).1
  have e : xs[i] = x := (List.getElem?_eq_some_iff.mp h).2
  refine ⟨?_, ?_⟩
  · rw [← e, List.getElem_cons_drop, List.take_append_drop]
  · rw [List.take_add_one, h]
    rfl
section
variable {K : PySem.W.Frag} {a : Addr} {xs : List V} {g : TG} {tb : TS} {D : Ends} {σ : L2.St} {H : Hp}
theorem for_pre (Pv : List V → L2.St → Hp → Prop) (h0 : Pv [] σ H) (hl : ∀ pre σ H, Pv pre σ H → SqL K H a xs)
    (hs : ∀ pre x post σ H, xs = pre ++ x :: post → Pv pre σ H → g x σ H fun σ2 H2 => tb { D with nx := Pv (pre ++ [x]), ct := Pv (pre ++ [x]), bk := D.nx } σ2 H2) (hd : ∀ σ H, Pv xs σ H → D.nx σ H) :
    ∃ W : Nat → Nat → L2.St → Hp → Prop, (∃ m, W 0 m σ H) ∧ ∀ i m σ H, W i m σ H →
      ((Itl K a).stop i H ∧ D.nx σ H) ∨ ((Itl K a).go i H ∧ ∃ N : L2.St → Hp → Prop, (∀ σ' H', N σ' H' → ∃ m', m' < m ∧ W (i + 1) m' σ' H') ∧ ∀ x H', (Itl K a).yld i H x H' → g x σ H' fun σ2 H2 => tb { D with nx := N, ct := N, bk := D.nx } σ2 H2) :=
  for_list (fun i => Pv (xs.take i)) h0 (fun i σ H _ p => hl _ σ H p) (fun i x σ H hx p => by
    rw [(take_pre hx).2]
    exact hs _ x _ σ H (take_pre hx).1 p) (fun σ H p => hd σ H (by rw [List.take_length] at p; exact p))
theorem for_preT (Pv : List V → L2.St → Hp → Prop) (h0 : Pv [] σ H) (hl : ∀ pre σ H, Pv pre σ H → SqT K H a xs)
    (hs : ∀ pre x post σ H, xs = pre ++ x :: post → Pv pre σ H → g x σ H fun σ2 H2 => tb { D with nx := Pv (pre ++ [x]), ct := Pv (pre ++ [x]), bk := D.nx } σ2 H2) (hd : ∀ σ H, Pv xs σ H → D.nx σ H) :
    ∃ W : Nat → Nat → L2.St → Hp → Prop, (∃ m, W 0 m σ H) ∧ ∀ i m σ H, W i m σ H →
      ((Itt K a).stop i H ∧ D.nx σ H) ∨ ((Itt K a).go i H ∧ ∃ N : L2.St → Hp → Prop, (∀ σ' H', N σ' H' → ∃ m', m' < m ∧ W (i + 1) m' σ' H') ∧ ∀ x H', (Itt K a).yld i H x H' → g x σ H' fun σ2 H2 => tb { D with nx := N, ct := N, bk := D.nx } σ2 H2) :=
  for_tup (fun i => Pv (xs.take i)) h0 (fun i σ H _ p => hl _ σ H p) (fun i x σ H hx p => by
    rw [(take_pre hx).2]
    exact hs _ x _ σ H (take_pre hx).1 p) (fun σ H p => hd σ H (by rw [List.take_length] at p; exact p))
/-- for i, x in enumerate(xs) -/
theorem for_enum {i j : Nat} (Pv : List V → L2.St → Hp → Prop) (h0 : Pv [] σ H) (hl : ∀ pre σ H, Pv pre σ H → SqL K H a xs)
    (hs : ∀ pre x post σ H T, xs = pre ++ x :: post → Pv pre σ H → H T = none →
      tb { D with nx := Pv (pre ++ [x]), ct := Pv (pre ++ [x]), bk := D.nx } ((σ.set i (some (.int (pre.length : Nat)))).set j (some x)) (upd H T (.tup [.int (pre.length : Nat), x]))) (hd : ∀ σ H, Pv xs σ H → D.nx σ H) :
    ∃ W : Nat → Nat → L2.St → Hp → Prop, (∃ m, W 0 m σ H) ∧ ∀ k m σ H, W k m σ H →
      ((Ite K a).stop k H ∧ D.nx σ H) ∨ ((Ite K a).go k H ∧ ∃ N : L2.St → Hp → Prop, (∀ σ' H', N σ' H' → ∃ m', m' < m ∧ W (k + 1) m' σ' H') ∧ ∀ x H', (Ite K a).yld k H x H' →
        (gTup K 2 (gCons (gName i) (gCons (gName j) gNil))) x σ H' fun σ2 H2 => tb { D with nx := N, ct := N, bk := D.nx } σ2 H2) := by
  refine ⟨fun k m σ H => m = xs.length - k ∧ k ≤ xs.length ∧ Pv (xs.take k) σ H, ⟨xs.length, by simp, Nat.zero_le _, h0⟩, ?_⟩
  rintro k m σ H ⟨rfl, hk, p⟩
  have q := hl _ σ H p
  by_cases hlt : k < xs.length
  · refine .inr ⟨⟨xs, xs[k], q, by simp [hlt]⟩, Pv (xs.take (k + 1)), fun σ' H' p' => ⟨xs.length - (k + 1), by omega, rfl, hlt, p'⟩, fun v H' y => ?_⟩
    obtain ⟨T, x, rfl, nT, rfl, hx⟩ := y
    have hx := hx xs q
    refine ⟨T, _, rfl, SqT.of upd_same, rfl, _, _, rfl, _, _, rfl, rfl, ?_⟩
    have z := hs _ x _ σ H T (take_pre hx).1 p nT
    rw [(take_pre hx).2]
    rw [show (xs.take k).length = k by rw [List.length_take]; omega] at z
    exact z
  · have e : k = xs.length := by omega
    subst e
    rw [List.take_length] at p
    exact .inl ⟨⟨xs, q, Nat.le_refl _⟩, hd σ H p⟩
/-- [e for x in xs] -/
theorem lc_pre {te : TE} {vs : List Nat} {i : Nat} {H1 : Hp} {L : Addr} {Qd : Hp → Prop} (Pv : List V → Hp → Prop) (h0 : Pv [] (upd H1 L (.lst []))) (hl : ∀ pre H, Pv pre H → SqL K H a xs)
    (hw : ∀ x, wipe ((wipe σ vs).set i (some x)) vs = wipe σ vs)
    (hs : ∀ pre x post H, xs = pre ++ x :: post → Pv pre H → te ((wipe σ vs).set i (some x)) H fun y H4 => ∃ acc, H4 L = some (.lst acc) ∧ acc.length < sizeLine ∧ Pv (pre ++ [x]) (upd H4 L (.lst (acc ++ [y])))) (hd : ∀ H, Pv xs H → Qd H) :
    ∃ W : Nat → Nat → Hp → Prop, (∃ m, W 0 m (upd H1 L (.lst []))) ∧ ∀ k m H, W k m H →
      ((Itl K a).stop k H ∧ Qd H) ∨ ((Itl K a).go k H ∧ ∃ Nx : Hp → Prop, (∀ H', Nx H' → ∃ m', m' < m ∧ W (k + 1) m' H') ∧ ∀ x H', (Itl K a).yld k H x H' → gName i x (wipe σ vs) H' fun σ2 H2 => wipe σ2 vs = wipe σ vs ∧ tYes σ2 H2 fun b H3 =>
        if b = true then te σ2 H3 fun y H4 => ∃ acc, H4 L = some (.lst acc) ∧ acc.length < sizeLine ∧ Nx (upd H4 L (.lst (acc ++ [y]))) else Nx H3) :=
  lc_list (fun k => Pv (xs.take k)) h0 (fun k H _ p => hl _ H p) (fun k x H hx p => ⟨hw x, by
    rw [(take_pre hx).2]
    exact hs _ x _ H (take_pre hx).1 p⟩) (fun H p => hd H (by rw [List.take_length] at p; exact p))
/-- [e for x in range(n)] -/
theorem lc_rng {te : TE} {vs : List Nat} {i : Nat} {n : Nat} {lo : Int} {H1 : Hp} {L : Addr} {Qd : Hp → Prop} (Pv : Nat → Hp → Prop) (h0 : Pv 0 (upd H1 L (.lst [])))
    (hw : ∀ x, wipe ((wipe σ vs).set i (some x)) vs = wipe σ vs)
    (hs : ∀ k H, k < n → Pv k H → te ((wipe σ vs).set i (some (.int (lo + k)))) H fun y H4 => ∃ acc, H4 L = some (.lst acc) ∧ acc.length < sizeLine ∧ Pv (k + 1) (upd H4 L (.lst (acc ++ [y])))) (hd : ∀ H, Pv n H → Qd H) :
    ∃ W : Nat → Nat → Hp → Prop, (∃ m, W 0 m (upd H1 L (.lst []))) ∧ ∀ k m H, W k m H →
      ((Itr lo n).stop k H ∧ Qd H) ∨ ((Itr lo n).go k H ∧ ∃ Nx : Hp → Prop, (∀ H', Nx H' → ∃ m', m' < m ∧ W (k + 1) m' H') ∧ ∀ x H', (Itr lo n).yld k H x H' → gName i x (wipe σ vs) H' fun σ2 H2 => wipe σ2 vs = wipe σ vs ∧ tYes σ2 H2 fun b H3 =>
        if b = true then te σ2 H3 fun y H4 => ∃ acc, H4 L = some (.lst acc) ∧ acc.length < sizeLine ∧ Nx (upd H4 L (.lst (acc ++ [y]))) else Nx H3) :=
  lc_range (lo := lo) (n := n) Pv h0 (fun k H hk p => ⟨hw _, hs k H hk p⟩) hd
end
/-! ### places of lists -/
theorem atI_in {α : Type} {xs : List α} {i : Int} (h0 : 0 ≤ i) (h1 : i < xs.length) : ∃ v, atI xs i = some v ∧ v ∈ xs := by
  obtain ⟨j, rfl⟩ : ∃ j : Nat, i = (j : Int) := ⟨i.toNat, by omega⟩
  have hj : j < xs.length := by omega
  exact ⟨xs[j], atI_nat (List.getElem?_eq_getElem hj), List.getElem_mem hj⟩
theorem small {n : Nat} (h : n ≤ 100000) : n ≤ sizeLine := Nat.le_trans h (by decide)
theorem smallL {n : Nat} (h : n < 100000) : n < sizeLine := Nat.lt_of_lt_of_le h (by decide)
theorem sz {n : Nat} (h : Nat.ble n 100000 = true := by rfl) : n ≤ sizeLine := small (Nat.le_of_ble_eq_true h)
theorem seqIdx {i : Int} {n : Nat} (h0 : 0 ≤ i) (h1 : i < n) : seqIndex? i n = some i.toNat := by
  unfold seqIndex?
  have e : (if i < 0 then i + n else i) = i := by rw [if_neg (by omega)]
  simp only [e]
  rw [if_pos (by simp; omega)]
theorem atN {α : Type} {xs : List α} {i : Int} {v : α} (h0 : 0 ≤ i) (h : atI xs i = some v) : xs[i.toNat]? = some v := by
  obtain ⟨j, rfl⟩ : ∃ j : Nat, i = (j : Int) := ⟨i.toNat, by omega⟩
  unfold atI ixN at h
  rw [if_pos (by omega)] at h
  split at h
  · simpa using h
  · cases h
theorem mem_erase {α : Type} {xs : List α} {k : Nat} {y : α} (h : y ∈ xs.eraseIdx k) : y ∈ xs := List.mem_of_mem_eraseIdx h
/-- the i-th of a paired list -/
theorem prd_get {α β : Type} {F : α → β → Prop} : ∀ {xs : List α} {ys : List β} {i : Nat} {x : α}, Paired F xs ys → xs[i]? = some x → ∃ y, ys[i]? = some y ∧ F x y
  | _, _, _, _, .nil, h => by simp at h
  | _, _, 0, _, .cons r _, h => by
    simp at h
    subst h
    exact ⟨_, rfl, r⟩
  | _, _, i + 1, _, .cons _ t, h => by
    rw [List.getElem?_cons_succ] at h
    obtain ⟨y, h1, h2⟩ := prd_get t h
    exact ⟨y, by rw [List.getElem?_cons_succ]; exact h1, h2⟩
theorem prd_len {α β : Type} {F : α → β → Prop} : ∀ {xs : List α} {ys : List β}, Paired F xs ys → xs.length = ys.length
  | _, _, .nil => rfl
  | _, _, .cons _ t => congrArg (· + 1) (prd_len t)
theorem prd_imp {α β : Type} {F F' : α → β → Prop} (k : ∀ x y, F x y → F' x y) : ∀ {xs : List α} {ys : List β}, Paired F xs ys → Paired F' xs ys
  | _, _, .nil => .nil
  | _, _, .cons r t => .cons (k _ _ r) (prd_imp k t)
theorem prd_app {α β : Type} {F : α → β → Prop} : ∀ {xs xs' : List α} {ys ys' : List β}, Paired F xs ys → Paired F xs' ys' → Paired F (xs ++ xs') (ys ++ ys')
  | _, _, _, _, .nil, s => s
  | _, _, _, _, .cons r t, s => .cons r (prd_app t s)
theorem prd_take {α β : Type} {F : α → β → Prop} : ∀ {xs : List α} {ys : List β} (n : Nat), Paired F xs ys → Paired F (xs.take n) (ys.take n)
  | _, _, 0, _ => .nil
  | _, _, _ + 1, .nil => .nil
  | _, _, n + 1, .cons r t => .cons r (prd_take n t)
/-- each has a partner -/
theorem prd_ex {α β : Type} {F : α → β → Prop} : ∀ {xs : List α}, (∀ x ∈ xs, ∃ y, F x y) → ∃ ys, Paired F xs ys
  | [], _ => ⟨[], .nil⟩
  | x :: r, h => by
    obtain ⟨y, hy⟩ := h x List.mem_cons_self
    obtain ⟨ys, hs⟩ := prd_ex fun x hx => h x (List.mem_cons_of_mem _ hx)
    exact ⟨y :: ys, .cons hy hs⟩
theorem prd_mem {α β : Type} {F : α → β → Prop} {x : α} : ∀ {xs : List α} {ys : List β}, Paired F xs ys → x ∈ xs → ∃ y ∈ ys, F x y
  | _, _, .nil, h => nomatch h
  | _, _, .cons (b := b) r t, h => by
    rcases List.mem_cons.mp h with rfl | h
    · exact ⟨b, List.mem_cons_self, r⟩
    · obtain ⟨y, h1, h2⟩ := prd_mem t h
      exact ⟨y, List.mem_cons_of_mem _ h1, h2⟩
/-- a statement and what follows it, with a word J between them -/
def xCut (t u : TS) : TS := fun D σ H => ∃ J : L2.St → Hp → Prop, t { D with nx := J } σ H ∧ ∀ σ' H', J σ' H' → u D σ' H'
theorem xss_cut {X : Cx} {st : Stmt} {sts : List Stmt} {t u : TS} (h1 : PS X st t) (h2 : PSs X sts u) : PSs X (st :: sts) (xCut t u) := by
  refine ⟨fun pins s0 σ H D I h => ?_⟩
  obtain ⟨J, hj, hu⟩ := h
  refine wpAny_execs_cons (thn (h1.run pins s0 σ H { D with nx := J } I hj) fun fl s2 q => ?_)
  cases fl with
  | next =>
    obtain ⟨σ2, H2, I2, q2⟩ := q
    exact h2.run pins s2 σ2 H2 D I2 (hu σ2 H2 q2)
  | _ => exact q
section
variable {K : PySem.W.Frag} {a : Addr} {xs : List V} {σ : L2.St}
/-- [e for x in xs], by the turn -/
theorem lc_at {te : TE} {vs : List Nat} {i : Nat} {H1 : Hp} {L : Addr} {Qd : Hp → Prop} (Pv : Nat → Hp → Prop) (h0 : Pv 0 (upd H1 L (.lst []))) (hl : ∀ k H, Pv k H → SqL K H a xs)
    (hw : ∀ x, wipe ((wipe σ vs).set i (some x)) vs = wipe σ vs)
    (hs : ∀ k x H, xs[k]? = some x → Pv k H → te ((wipe σ vs).set i (some x)) H fun y H4 => ∃ acc, H4 L = some (.lst acc) ∧ acc.length < sizeLine ∧ Pv (k + 1) (upd H4 L (.lst (acc ++ [y])))) (hd : ∀ H, Pv xs.length H → Qd H) :
    ∃ W : Nat → Nat → Hp → Prop, (∃ m, W 0 m (upd H1 L (.lst []))) ∧ ∀ k m H, W k m H →
      ((Itl K a).stop k H ∧ Qd H) ∨ ((Itl K a).go k H ∧ ∃ Nx : Hp → Prop, (∀ H', Nx H' → ∃ m', m' < m ∧ W (k + 1) m' H') ∧ ∀ x H', (Itl K a).yld k H x H' → gName i x (wipe σ vs) H' fun σ2 H2 => wipe σ2 vs = wipe σ vs ∧ tYes σ2 H2 fun b H3 =>
        if b = true then te σ2 H3 fun y H4 => ∃ acc, H4 L = some (.lst acc) ∧ acc.length < sizeLine ∧ Nx (upd H4 L (.lst (acc ++ [y]))) else Nx H3) :=
  lc_list Pv h0 (fun k H _ p => hl _ H p) (fun k x H hx p => ⟨hw x, hs _ x H hx p⟩) hd
end
theorem take_snoc {α : Type} {xs : List α} {i : Nat} {x : α} (h : xs[i]? = some x) : xs.take (i + 1) = xs.take i ++ [x] := (take_pre h).2
theorem ff {A : Prop} (h : false = true) : A := nomatch h
theorem tt {A : Prop} (h : true = false) : A := nomatch h
/-! ### the same with the written part K said (within a comprehension the reading must not name its context) -/
section
variable {X : Cx} (K : PySem.W.Frag) {a b e o : Expr} {es : List Expr} {ta tb te to : TE} {t : TA} {pos : Pos} {tg : Expr}
theorem ix_k (h : X.K = K := by rfl) : IxR X (yIx K) := h ▸ ix_y
theorem cr_lenK (h : X.K = K := by rfl) : CallR X (.builtin "len") (yLen K) := h ▸ cr_len
theorem op_eqK (hu : X.A.units + 64 < cLine) (h : X.K = K := by rfl) : OpR X (compareOp .Eq) (yEq K) := h ▸ op_eqY hu
theorem op_neK (hu : X.A.units + 64 < cLine) (h : X.K = K := by rfl) : OpR X (compareOp .NotEq) (yNe K) := h ▸ op_neY hu
theorem xt_truK (ha : PE X a ta) (h : X.K = K := by rfl) (he : ∀ whole, isTrue a X.env whole = (do let v ← whole; standAt a.pos; holding [v] (truthy v)) := by intro _; rfl) : PT X a (xTru K ta) := h ▸ xt_tru ha he
theorem call_isK (h : X.K = K := by rfl) : CallR X (.builtin "isinstance") (rIsi K) := h ▸ call_isi
def yList (K : PySem.W.Frag) : List V → Hp → VK → Prop := fun xs H Q => ∃ p ys, xs = [.ref p] ∧ (SqL K H p ys ∨ SqT K H p ys) ∧ ∀ l, H l = none → Q (.ref l) (upd H l (.lst ys))
theorem call_listK (h : X.K = K := by rfl) : CallR X (.type "list") (yList K) := h ▸ call_list_of
def yTup (K : PySem.W.Frag) : List V → Hp → VK → Prop := fun xs H Q => ∃ p ys, xs = [.ref p] ∧ ((SqL K H p ys ∧ ∀ l, H l = none → Q (.ref l) (upd H l (.tup ys))) ∨ (SqT K H p ys ∧ Q (.ref p) H))
theorem call_tupleK (h : X.K = K := by rfl) : CallR X (.type "tuple") (yTup K) := h ▸ call_tuple_of
theorem cr_sumK (hc : X.calm = true) (h : X.K = K := by rfl) : CallR X (.builtin "sum") (rSum K) := h ▸ cr_sum hc
theorem sl_listK (h : X.K = K := by rfl) : SlR X (rSlL K) := h ▸ sl_list
theorem pi_listK (ha : PE X a ta) (h : X.K = K := by rfl) : PI X tg a (iList K ta) := h ▸ pi_list ha
theorem pi_tupK (ha : PE X a ta) (h : X.K = K := by rfl) : PI X tg a (iTup K ta) := h ▸ pi_tup ha
theorem pe_bmK {T id : String} {name : Str} {apos cpos : Pos} {r : V → List V → Hp → VK → Prop} (pa : PlainAttrs T) (slot : Slot T name id) (hty : typeOf (.builtin id) = pure (.type "method_descriptor")) (hm : MtR X id r) (ho : PE X o to) (ha : PA X (e :: es) t) (hK : X.K = K := by rfl)
    (hbase : attributeBase o name X.env (eval o X.env) = eval o X.env := by rfl)
    (hfew : ((backTo cpos (starEach (e :: es) X.env)).all (fun x => !x.1) && (backToKw cpos (keywordEach [] X.env)).all (fun x => x.1.isSome)
      && decide ((e :: es).length + ([] : List Keyword).length + (if ([] : List Keyword).isEmpty then 0 else 1) < 30)) = true := by rfl)
    (hline : (apos.endLine == cpos.line) = true := by rfl) (hs : starEach (e :: es) X.env = (false, eval e X.env) :: starEach es X.env := by rfl) (hplain : (backTo cpos (starEach es X.env)).any (·.1) = false := by rfl) :
    PE X (.Call (.Attribute o name apos) (e :: es) [] cpos) (tBM K T r to t) := hK ▸ pe_bm pa slot hty hm ho ha hbase hfew hline hs hplain
end
section
variable {X : Cx} {a b c o : Expr} {ta tb tc : TE} {pos : Pos}
/-- a op1 b op2 c, b asked once -/
def xChain (r r' : R2) (ta tb tc : TE) : TE := fun σ H Q => ta σ H fun x H1 => tb σ H1 fun y H2 => r x y H2 fun z H3 => match z with
  | .bl k => (k = true → tc σ H3 fun w' H4 => r' y w' H4 Q) ∧ (k = false → Q (.bl false) H3)
  | _ => False
theorem xe_chain {op op' : CmpOp} {r r' : R2} (ho : OpR X (compareOp op) r) (ho' : OpR X (compareOp op') r') (ha : PE X a ta) (hb : PE X b tb) (hc : PE X c tc)
    (hm : lastMarks [op, op'] [b, c] = false := by with_unfolding_all rfl) : PE X (.Compare a [op, op'] [b, c] pos) (xChain r r' ta tb tc) := by
  refine ⟨fun pins s0 σ H Q J h => ?_⟩
  refine Compare_chain (thn (ha.run pins s0 σ H _ J h) fun v s1 ⟨x, H1, J1, r1, q1⟩ => chain_link (thn (hb.run pins s1 σ H1 _ J1 q1) fun u s2 ⟨y, H2, J2, r2, q2⟩ =>
    thn (ho pins s2 σ H2 x y v u _ J2 r1 r2 q2) fun d s3 ⟨z, H3, J3, r3, q3⟩ => ?_)) hm
  cases z with
  | bl k =>
    cases r3
    refine wpAny_truthy_bool ?_
    cases k with
    | false => exact ite_ff ⟨.bl false, H3, J3, rfl, q3.2 rfl⟩
    | true => exact ite_tt (chain_last (thn (hc.run pins s3 σ H3 _ J3 (q3.1 rfl)) fun w' s4 ⟨z', H4, J4, r4, q4⟩ => ho' pins s4 σ H4 y z' u w' Q J4 r2 r4 q4))
  | _ => exact False.elim q3
theorem xt_chain {op op' : CmpOp} {r r' : R2} (ho : OpR X (compareOp op) r) (ho' : OpR X (compareOp op') r') (ha : PE X a ta) (hb : PE X b tb) (hc : PE X c tc)
    (hm : lastMarks [op, op'] [b, c] = false := by with_unfolding_all rfl) : PT X (.Compare a [op, op'] [b, c] pos) (xB (xChain r r' ta tb tc)) := by
  refine ⟨fun pins s0 σ H Q J h => ?_⟩
  refine isTrue_chain (thn (ha.run pins s0 σ H _ J h) fun v s1 ⟨x, H1, J1, r1, q1⟩ => test_link (thn (hb.run pins s1 σ H1 _ J1 q1) fun u s2 ⟨y, H2, J2, r2, q2⟩ =>
    thn (ho pins s2 σ H2 x y v u _ J2 r1 r2 q2) fun d s3 ⟨z, H3, J3, r3, q3⟩ => ?_)) hm
  cases z with
  | bl k =>
    cases r3
    refine wpAny_truthy_bool ?_
    cases k with
    | false => exact ite_ff ⟨H3, J3, q3.2 rfl⟩
    | true =>
      refine ite_tt (test_last (thn (hc.run pins s3 σ H3 _ J3 (q3.1 rfl)) fun w' s4 ⟨z', H4, J4, r4, q4⟩ => thn (ho' pins s4 σ H4 y z' u w' _ J4 r2 r4 q4) fun d' s5 ⟨z2, H5, J5, r5, q5⟩ => ?_))
      cases z2 with
      | bl k2 =>
        cases r5
        exact wpAny_truthy_bool ⟨H5, J5, q5⟩
      | _ => exact False.elim q5
  | _ => exact False.elim q3
/-- while: a word with its measure -/
def xWhile (c : TT) (tb : TS) : TS := fun D σ H => ∃ W : Nat → L2.St → Hp → Prop, (∃ m, W m σ H) ∧ ∀ m σ H, W m σ H → c σ H fun b H1 =>
  (b = true → tb { D with nx := fun σ' H' => ∃ m', m' < m ∧ W m' σ' H', ct := fun σ' H' => ∃ m', m' < m ∧ W m' σ' H', bk := D.nx } σ H1) ∧ (b = false → D.nx σ H1)
theorem xs_while {c : Expr} {body : List Stmt} {tc : TT} {tb : TS} (hp : PassesOwn (model X.prog X.w) X.A X.env X.xe) (hc : PT X c tc) (hb : PSs X body tb) : PS X (.While c body [] pos) (xWhile tc tb) := by
  refine ⟨fun pins s0 σ H D J h => ?_⟩
  obtain ⟨W, ⟨m0, w0⟩, turn⟩ := h
  refine wpAny_While (codeAny_whileLoop (fun n s' => ∃ σ' H', L2.Inv X pins σ' H' s' ∧ W n σ' H') ?_ m0 ⟨σ, H, J, w0⟩)
  rintro n s1 ⟨σ1, H1, J1, w1⟩
  refine wpAny_passesOwn hp (thn (hc.run pins s1 σ1 H1 _ J1 (turn n σ1 H1 w1)) fun k s2 ⟨H2, J2, q2⟩ => ?_)
  cases k with
  | true =>
    rw [if_pos rfl]
    refine wpAny_passesOwn hp (thn (hb.run pins s2 σ1 H2 _ J2 (q2.1 rfl)) fun f s3 q3 => ?_)
    cases f with
    | next =>
      obtain ⟨σ3, H3, J3, m', hm, w3⟩ := q3
      exact ⟨m', hm, σ3, H3, J3, w3⟩
    | cont =>
      obtain ⟨σ3, H3, J3, m', hm, w3⟩ := q3
      exact ⟨m', hm, σ3, H3, J3, w3⟩
    | brk => exact q3
    | ret v => exact q3
  | false =>
    rw [if_neg Bool.false_ne_true]
    exact wpAny_execs_nil ⟨σ1, H2, J2, q2.2 rfl⟩
/-- a comparison by an own method (__le__ ..) of two instances of C -/
def yOwn (C : Addr) (sp : Sp) (E : XK) : R2 := fun x y H Q => ∃ a b dx dy fs gs, x = .ref a ∧ y = .ref b ∧ H a = some (.ins C dx fs) ∧ H b = some (.ins C dy gs) ∧ sp [.ref a, .ref b] H Q E
theorem op_own {CX : CXT} {C f : Addr} {fd : FuncData} {ps : List Str} {sp : Sp} {E : XK} {op : CmpOp} {n : Nat} (hop : compareOp op = richCompare op) (F : FnOk X.prog X.w X.K X.mg X.base CX n f fd ps sp)
    (hs : PySem.W.findIn X.K (.ref C) (cmpInfo op).2.1 = some (some (.ref f))) (hf : PySem.W.isFn X.K (.ref f) = true) (hb : Binds X.K fd ps []) (hx : Passes CX X E) (hr : Room n X.A) : OpR X (compareOp op) (yOwn C sp E) := by
  intro pins s σ H x y u v Q I rx ry h
  obtain ⟨a, b, dx, dy, fs, gs, rfl, rfl, ha, hb', hsp⟩ := h
  cases rx
  cases ry
  rw [hop]
  obtain ⟨mA, J1, _⟩ := ins_get I.hok ha
  obtain ⟨mB, J2, _⟩ := ins_get I.hok hb'
  obtain ⟨od, J1, _⟩ := J1.look
  obtain ⟨od', J2, _⟩ := J2.look
  obtain ⟨m, hF⟩ := I.fr
  refine PySem.W.cmp_K (op := op) (tb := .ref C) hr.units0 hF I.ok.mod.kin J1 J2.type (by simp [PySem.W.notFirst]) hs hf ?_
  have hl := F.len _ _ _ _ hsp
  refine wpAny_mono (run_fn (us := [.ref a, .ref b]) (vs := [.ref a, .ref b]) (dvs := []) F hr hb .nil hx I (.cons rfl (.cons rfl .nil)) hsp) (fun v s' q => ?_) fun _ _ e => e
  obtain ⟨z, H', I', rz, q⟩ := q
  have fin : EP X pins σ Q v s' := ⟨z, H', I', rz, q⟩
  cases v <;> first | exact fin | (cases z <;> first | exact absurd (show _ = _ from rz) (by intro e; cases e) | (obtain ⟨_, e⟩ := rz; cases e))
variable (K : PySem.W.Frag)
theorem pe_fldK {f : Str} (ha : PE X a ta) (hb : attributeBase a f X.env (eval a X.env) = eval a X.env := by rfl) (h : X.K = K := by rfl) : PE X (.Attribute a f pos) (tFld K ta f) := h ▸ pe_fld ha hb
theorem in_seqK (h : X.K = K := by rfl) : OpR X (compareOp .In) (rIn K false) := h ▸ op_in_seq
theorem notin_seqK (h : X.K = K := by rfl) : OpR X (compareOp .NotIn) (rIn K true) := h ▸ op_notIn_seq
theorem mt_countK (h : X.K = K := by rfl) : MtR X "list.count" (rCntI K) := h ▸ mt_lcount
theorem cr_allK (hc : X.calm = true) (h : X.K = K := by rfl) : CallR X (.builtin "all") (rAll K) := h ▸ cr_all hc
theorem cr_anyK (hc : X.calm = true) (h : X.K = K := by rfl) : CallR X (.builtin "any") (rAny K) := h ▸ cr_any hc
end
theorem xe_glob {X : Cx} {x z : Str} {pos : Pos} (hg : Gl X x) (hm : ∃ t, X.mg x = some (.str z t)) (hd : (x == ("__debug__" : Str)) = false := by decide) : PE X (.Name x pos) (tC (.str z)) := by
  obtain ⟨t, hm⟩ := hm
  exact pe_glob hg hm ⟨_, rfl⟩ hd
theorem xe_globI {X : Cx} {x : Str} {z : Int} {pos : Pos} (hg : Gl X x) (hm : ∃ t, X.mg x = some (.int z t)) (hd : (x == ("__debug__" : Str)) = false := by decide) : PE X (.Name x pos) (tC (.int z)) := by
  obtain ⟨t, hm⟩ := hm
  exact pe_glob hg hm ⟨_, rfl⟩ hd
theorem prd_unsnoc {α β : Type} {F : α → β → Prop} {x : α} : ∀ {xs : List α} {ys : List β}, Paired F (xs ++ [x]) ys → ∃ ys' y, ys = ys' ++ [y] ∧ Paired F xs ys' ∧ F x y
  | [], _, .cons r .nil => ⟨[], _, rfl, .nil, r⟩
  | _ :: xs, _, .cons (b := b) r t => by
    obtain ⟨ys', y, rfl, h1, h2⟩ := prd_unsnoc (xs := xs) t
    exact ⟨b :: ys', y, rfl, .cons r h1, h2⟩
theorem nil_or_snoc {α : Type} (xs : List α) : xs = [] ∨ ∃ ys y, xs = ys ++ [y] := by
  rcases List.eq_nil_or_concat xs with h | ⟨ys, y, h⟩
  · exact .inl h
  · exact .inr ⟨ys, y, by simpa using h⟩
theorem pg_tupK {X : Cx} (K : PySem.W.Frag) (n : Nat) {es : List Expr} {k : Nat} {pos : Pos} {t : TGs} (h : PGs X es t) (hc : X.calm = true := by rfl) (hK : X.K = K := by rfl)
    (hn : (assignEach es X.env).length = n := by rfl) (hst : (assignEach es X.env).findIdx? (·.1) = none := by rfl) : PG X (.Tuple es k pos) (gTup K n t) := hK ▸ pg_tup hc h hn hst
theorem perm_erase {α : Type} : ∀ {xs : List α} {i : Nat} {x : α}, xs[i]? = some x → (x :: xs.eraseIdx i).Perm xs
  | [], _, _, h => by simp at h
  | y :: r, 0, x, h => by
    simp at h
    subst h
    exact List.Perm.refl _
  | y :: r, i + 1, x, h => by
    rw [List.getElem?_cons_succ] at h
    exact (List.Perm.swap _ _ _).trans (List.Perm.cons _ (perm_erase h))
theorem Sep.new2 {G H : Hp} {M : List (Addr × HO)} {x dx : Addr} {o u : HO} (S : Sep G M H) (h1 : H x = Option.none) (h2 : H dx = Option.none) (ne : dx ≠ x) : Sep G ((x, o) :: (dx, u) :: M) (upd (upd H dx u) x o) :=
  (S.new h2).new (by rw [upd_ne (Ne.symm ne)]; exact h1)
end XL
set_option Elab.async false
set_option linter.all false
set_option maxRecDepth 100000
set_option maxHeartbeats 4000000
/-! XIter: enumerate of a tuple. -/
namespace XL
open PySem PySem.Spec PyProof.Rows L2
theorem meets_enum1 {v : Value} {o : Obj} {Hq : Heap → Prop} (B : Begins v o Hq) :
    Meets (Builtin.«enumerate.__new__» ⟨[.type "enumerate", v], []⟩) (fun _ R s => Hq s.heap ∧
      R (.ok (.ret (.ref (s.heap.push o).objs.size))) { s with heap := (s.heap.push o).push { cls := .type "enumerate", data := .fields #[.none, .bool false, .ref s.heap.objs.size, rawInt 0, .none, .none] } }) :=
  .of_wp fun prog w A R s z => by
    obtain ⟨hp, g, d, tk, os⟩ := s
    obtain ⟨z1, z2⟩ := z
    have hsub := sub_enumerate
    have begin1 : ∀ {A' : Around} {E : Value → Shared → Prop} {Q : Value → Shared → Prop}, Q (.ref hp.objs.size) ⟨hp.push o, g, d, tk, os⟩ → wpAny (model prog w) A' (pyIter v) Q E ⟨hp, g, d, tk, os⟩ := fun q => B.iter prog w _ _ ⟨hp, g, d, tk, os⟩ _ z1 q
    wp_walk using begin1
    refine wpAny_stack_any fun st => wpAny_pure ?_
    split
    · rename_i c _ _ _ _ _
      cases (c == Value.type "enumerate") <;> (wp_walk using begin1; exact ⟨_, rfl, z2⟩)
    · wp_walk using begin1
      exact ⟨_, rfl, z2⟩
theorem call_enum1 {prog : Program} {w : World} {A : Around} {E : Value → Shared → Prop} {s : Shared} {v : Value} {o : Obj} {Hq : Heap → Prop} {Q : Value → Shared → Prop} (B : Begins v o Hq) (h1 : Hq s.heap)
    (k : ∀ h', IsEnum h' (s.heap.objs.size + 1) s.heap.objs.size 0 .none → h'.get? s.heap.objs.size = some o → (∀ b o, s.heap.get? b = some o → h'.get? b = some o) → Q (.ref (s.heap.objs.size + 1)) { s with heap := h' }) :
    wpAny (model prog w) A (call (.type "enumerate") [v]) Q E s := by
  refine callType_new F.called_enumerate (by decide) (F.typeCall_enumerate_1 _) (F.newCall_enumerate_1 _) (fun ob => F.args_object_init_2 ob _) F.entry_enumerate_new (meets_enum1 B) ⟨h1, ?_⟩
  have hz : (s.heap.push o).objs.size = s.heap.objs.size + 1 := Heap.size_push ..
  show _ ∧ _
  rw [hz]
  have he : IsEnum ((s.heap.push o).push { cls := .type "enumerate", data := .fields #[.none, .bool false, .ref s.heap.objs.size, rawInt 0, .none, .none] }) (s.heap.objs.size + 1) s.heap.objs.size 0 .none := by
    have z := Heap.get?_push_size (s.heap.push o) (o := { cls := .type "enumerate", data := .fields #[.none, .bool false, .ref s.heap.objs.size, rawInt 0, .none, .none] }) rfl
    rw [hz] at z
    exact z
  exact ⟨⟨_, he, rfl⟩, k _ he (Heap.get?_push_of_some _ (Heap.get?_push_size _ B.free)) fun b o x => Heap.get?_push_of_some _ (Heap.get?_push_of_some _ x)⟩
/-- the tuple at a, each item in a new pair -/
def IteT (K : PySem.W.Frag) (a : Addr) : It :=
  ⟨fun i H => ∃ (xs : List V) (x : V), SqT K H a xs ∧ xs[i]? = some x, fun i H v H' => ∃ T x, v = .ref T ∧ H T = none ∧ H' = upd H T (.tup [.int (i : Nat), x]) ∧ ∀ xs, SqT K H a xs → xs[i]? = some x, fun i H => ∃ xs : List V, SqT K H a xs ∧ xs.length ≤ i⟩
theorem turn_enumT {P : Program} {w : World} {K : PySem.W.Frag} {elts : List Expr} {kk : Nat} {tpos : Pos} (a e it : Addr) (hai : a ≠ it) (hae : a ≠ e) :
    Turn P w K (.Tuple elts kk tpos) (IteT K a) [e, it] e (fun i h => (∃ old, IsEnum h e it ((i : Nat) : Int) old) ∧ h.IsTupleIter it a i ∧ e ≠ it) where
  mem := by simp
  obj := fun i h st b hb => by
    obtain ⟨⟨old, he⟩, ⟨o, ho, hc, hd⟩, _⟩ := st
    have q : b = e ∨ b = it := by simpa using hb
    rcases q with z | z
    · rw [z]; exact ⟨_, he, fun v q => nomatch q⟩
    · rw [z]; exact ⟨o, ho, fun v q => by rw [hd] at q; cases q⟩
  keep := fun i h h' st k => let ⟨⟨old, he⟩, hi, hne⟩ := st; ⟨⟨old, k e (by simp) _ he⟩, hi.at fun o q => k it (by simp) o q, hne⟩
  item := by
    intro X hP hw hK hc i pins s σ H E I hf st hg
    subst hP hw hK
    obtain ⟨⟨old, he⟩, hit, hne⟩ := st
    obtain ⟨xs, x, hq, hx⟩ := hg
    obtain ⟨its, rv, p, hz⟩ := I.tuple hq
    obtain ⟨u, hu, ru⟩ := rv.get hx
    have hel : e < s.heap.objs.size := Heap.lt_size he
    have hil : it < s.heap.objs.size := by obtain ⟨_, q, _⟩ := hit; exact Heap.lt_size q
    have hlen : i < its.toArray.size := by
      have z := (List.getElem?_eq_some_iff.mp hu).1
      simpa using z
    refine wpAny_pyNext_enum_itemC (c := ((i : Nat) : Int)) (Draws.tuple (A := X.A.in1) (I.ok.hd hc) it a hai its.toArray) he ⟨hit, p⟩ hlen hne (by simp; exact ⟨hne, fun z => hae z.symm⟩) fun y h' tk hy ho st' hT hsz hk => ?_
    have ey : y = u := by
      have z : its[i]? = some y := by simpa using hy
      rw [hu] at z
      exact (Option.some.inj z).symm
    subst ey
    refine ⟨_, rfl, wpAny_letOwnedTupleGo_enum (s := { s with heap := h', toks := tk + 1 }) ho fun h'' he' sb => ?_⟩
    have hT2 : h''.get? s.heap.objs.size = some { cls := .type "tuple", data := .seq #[.int i tk, y] } := (sb.2 _ (Nat.ne_of_gt hel)).trans hT
    have new : ObjOk X.prog X.w (upd H s.heap.objs.size (.tup [.int (i : Nat), x])) h'' s.heap.objs.size (.tup [.int (i : Nat), x]) :=
      ⟨by show 2 ≤ sizeLine; decide, [.int i tk, y], .cons ⟨_, rfl⟩ (.cons ru .nil), ⟨_, hT2, rfl, _, rfl⟩⟩
    have I1 : L2.Inv X pins σ (upd H s.heap.objs.size (.tup [.int (i : Nat), x])) { s with heap := h'', toks := tk + 1 } :=
      I.turnedNew (ch := [e, it]) (fun b ob hb q => (sb.2 b (fun z => hb (by simp [z]))).trans (hk b ob (fun z => hb (by simp [z])) (fun z => hb (by simp [z])) q)) hf (Nat.le_refl _) new
    refine ⟨.ref s.heap.objs.size, _, I1, rfl, ⟨_, x, rfl, I.hok.fresh (Nat.le_refl _), rfl, fun ys hy => by rw [I.tuple_inj hy hq]; exact hx⟩, ⟨⟨y, ?_⟩, st'.1.at fun o q => (sb.2 it (Ne.symm hne)).trans q, hne⟩, fun b hb => ?_⟩
    · have e1 : ((i + 1 : Nat) : Int) = (i : Int) + 1 := by omega
      rw [e1]; exact he'
    · have hb2 : b < s.heap.objs.size := by
        have q : b = e ∨ b = it := by simpa using hb
        rcases q with z | z
        · rw [z]; exact hel
        · rw [z]; exact hil
      rw [upd_ne (Nat.ne_of_lt hb2)]
      exact (hf b hb).1
  done := by
    intro X hP hw hK hc i pins s σ H E I hf st hg
    subst hP hw hK
    obtain ⟨⟨old, he⟩, hit, hne⟩ := st
    obtain ⟨xs, hq, hx⟩ := hg
    obtain ⟨its, rv, p, hz⟩ := I.tuple hq
    obtain ⟨f0, f1, f2, f3, f4, f5⟩ := hf it (by simp)
    have hl := rv.length
    have D := Draws.tuple (prog := X.prog) (w := X.w) (A := X.A.in1) (I.ok.hd hc) it a hai its.toArray
    by_cases hi : i = its.toArray.size
    · subst hi
      exact wpAny_pyNext_enum_endD D he ⟨hit, p⟩ fun h' eb => ⟨rfl, I.turned (t' := s.toks) (fun b o hb q => eb b o hb q) f0 f1 f3 f4 f5⟩
    · have D2 : Draws X.prog X.w X.A.in1 it [it, a] i (fun _ _ => False) (fun j h => (j = i ∨ False) ∧ h.IsTupleIter it a i ∧ h.IsTuple a its.toArray) := {
        live := fun _ _ st => let ⟨o, ho, _⟩ := st.2.1; ⟨o, ho⟩
        frame := fun _ _ _ st hk => ⟨st.1, st.2.1.at fun o e => hk it (by simp) o e, st.2.2.at fun o e => hk a (by simp) o e⟩
        item := fun j s Q E hj st hQ => by
          rcases st.1 with z | z
          · omega
          · exact z.elim
        done := fun s Q E st hE => wpAny_nextOf_tuple_end (I.ok.hd hc) st.2.1 st.2.2 (by
          simp only [List.getElem?_toArray]
          exact List.getElem?_eq_none_iff.mpr (by omega)) hE }
      exact wpAny_pyNext_enum_endD D2 he ⟨.inl rfl, hit, p⟩ fun h' eb => ⟨rfl, I.turned (t' := s.toks) (fun b o hb q => eb b o hb q) f0 f1 f3 f4 f5⟩
  self := fun A i s Q E st h => let ⟨⟨_, he⟩, _⟩ := st; wpAny_pyIter_enum he h
def iEnumT (K : PySem.W.Frag) (ta : TA) : TI := fun σ H R => ta σ H fun vs H1 => ∃ a xs, vs = [.ref a] ∧ SqT K H1 a xs ∧ R (IteT K a) H1
theorem pi_enumT {X : Cx} {e : Expr} {ta : TA} {p pos tpos : Pos} {elts : List Expr} {kk : Nat} (hg : Gl X "enumerate") (hm : X.mg "enumerate" = none) (ha : PA X [e] ta) (hs : starEach [e] X.env = [(false, eval e X.env)] := by rfl) :
    PI X (.Tuple elts kk tpos) (.Call (.Name "enumerate" p) [e] [] pos) (iEnumT X.K ta) := by
  refine ⟨fun pins s σ H R I h => ?_⟩
  refine Call_ (ld_blt I hg hm boot_enumerate (PyProof.Rows.callWith_type1 (thn (ha.run pos pins s σ H _ I h) fun us s1 ⟨vs, H1, I1, r1, q1⟩ => ?_) hs rfl))
  obtain ⟨a, xs, ex, hq, q⟩ := q1
  subst ex
  cases r1 with
  | cons r rr =>
    cases rr
    cases r
    obtain ⟨its, rv, p', hz⟩ := I1.tuple hq
    have hal : a < s1.heap.objs.size := by obtain ⟨o, ho, _⟩ := p'; exact Heap.lt_size ho
    refine call_enum1 (begins_tuple a its.toArray) p' fun h' he hit hk => wpAny_pyIter_enum he ?_
    have I2 : L2.Inv X pins σ H1 { s1 with heap := h' } := I1.kept (t' := s1.toks) hk
    refine ⟨s1.heap.objs.size + 1, [s1.heap.objs.size + 1, s1.heap.objs.size], _, _, H1, rfl, I2, turn_enumT a (s1.heap.objs.size + 1) s1.heap.objs.size (Nat.ne_of_lt hal) (Nat.ne_of_lt (Nat.lt_succ_of_lt hal)), ⟨⟨.none, he⟩, ⟨_, hit, rfl, rfl⟩, Nat.succ_ne_self _⟩, fun b hb => ?_, q⟩
    have q' : b = s1.heap.objs.size + 1 ∨ b = s1.heap.objs.size := by simpa using hb
    have hle : s1.heap.objs.size ≤ b := by
      rcases q' with z | z
      · rw [z]; exact Nat.le_add_right _ _
      · rw [z]; exact Nat.le_refl _
    exact I1.fpOk hle (I1.hok.fresh hle)
theorem for_enumT {K : PySem.W.Frag} {a : Addr} {xs : List V} {tb : TS} {D : Ends} {σ : L2.St} {H : Hp} {i j : Nat} (Pv : Nat → L2.St → Hp → Prop) (h0 : Pv 0 σ H) (hl : ∀ k σ H, Pv k σ H → SqT K H a xs)
    (hs : ∀ k x σ H T, xs[k]? = some x → Pv k σ H → H T = none →
      tb { D with nx := Pv (k + 1), ct := Pv (k + 1), bk := D.nx } ((σ.set i (some (.int (k : Nat)))).set j (some x)) (upd H T (.tup [.int (k : Nat), x]))) (hd : ∀ σ H, Pv xs.length σ H → D.nx σ H) :
    ∃ W : Nat → Nat → L2.St → Hp → Prop, (∃ m, W 0 m σ H) ∧ ∀ k m σ H, W k m σ H →
      ((IteT K a).stop k H ∧ D.nx σ H) ∨ ((IteT K a).go k H ∧ ∃ N : L2.St → Hp → Prop, (∀ σ' H', N σ' H' → ∃ m', m' < m ∧ W (k + 1) m' σ' H') ∧ ∀ x H', (IteT K a).yld k H x H' →
        (gTup K 2 (gCons (gName i) (gCons (gName j) gNil))) x σ H' fun σ2 H2 => tb { D with nx := N, ct := N, bk := D.nx } σ2 H2) := by
  refine ⟨fun k m σ H => m = xs.length - k ∧ k ≤ xs.length ∧ Pv k σ H, ⟨xs.length, by simp, Nat.zero_le _, h0⟩, ?_⟩
  rintro k m σ H ⟨rfl, hk, p⟩
  have q := hl _ σ H p
  by_cases hlt : k < xs.length
  · refine .inr ⟨⟨xs, xs[k], q, by simp [hlt]⟩, Pv (k + 1), fun σ' H' p' => ⟨xs.length - (k + 1), by omega, rfl, hlt, p'⟩, fun v H' y => ?_⟩
    obtain ⟨T, x, rfl, nT, rfl, hx⟩ := y
    refine ⟨T, _, rfl, SqT.of upd_same, rfl, _, _, rfl, _, _, rfl, rfl, ?_⟩
    exact hs k x σ H T (hx xs q) p nT
  · have e : k = xs.length := by omega
    subst e
    exact .inl ⟨⟨xs, q, Nat.le_refl _⟩, hd σ H p⟩
end XL
set_option Elab.async false
set_option linter.all false
set_option maxRecDepth 100000
set_option maxHeartbeats 4000000
/-! XDeep: x in t, t.index(x), items data of any depth, t a list or a tuple. -/
namespace XL
open PySem PySem.Spec PyProof.Rows L2
section
variable {X : Cx} (K : PySem.W.Frag)
def rInX (K : PySem.W.Frag) (neg : Bool) : R2 := fun x y H Q => ∃ d ds, Dp K H x d ∧ (Dp K H y (.list ds) ∨ Dp K H y (.tuple ds)) ∧ SeqAt.shaped d = true ∧ PyData.canLayAll0 ds = true ∧ Q (.bl (if neg then !(ds.any fun z => PyData.eqv z d) else ds.any fun z => PyData.eqv z d)) H
theorem in_deepK (hu : X.A.units + 65 < cLine) (h : X.K = K := by rfl) : OpR X (compareOp .In) (rInX K false) := by
  subst h
  intro pins s σ H x y v u Q I rx ry h
  obtain ⟨d, ds, hd, he, sd, se, q⟩ := h
  obtain ⟨as, r1⟩ := Dp.reads I d x v hd rx
  rcases he with he | he
  · obtain ⟨bs, r2⟩ := Dp.reads I (.list ds) y u he ry
    exact SeqAt.in_list_reads r2 r1 se (SeqAt.canLay_of_shaped sd) (room_in_shaped sd hu) ⟨.bl _, H, I, rfl, q⟩
  · obtain ⟨bs, r2⟩ := Dp.reads I (.tuple ds) y u he ry
    exact SeqAt.in_tuple_reads r2 r1 se (SeqAt.canLay_of_shaped sd) (room_in_shaped sd hu) ⟨.bl _, H, I, rfl, q⟩
theorem notin_deepK (hu : X.A.units + 65 < cLine) (h : X.K = K := by rfl) : OpR X (compareOp .NotIn) (rInX K true) := by
  subst h
  intro pins s σ H x y v u Q I rx ry h
  obtain ⟨d, ds, hd, he, sd, se, q⟩ := h
  obtain ⟨as, r1⟩ := Dp.reads I d x v hd rx
  rcases he with he | he
  · obtain ⟨bs, r2⟩ := Dp.reads I (.list ds) y u he ry
    exact SeqAt.notIn_list_reads r2 r1 se (SeqAt.canLay_of_shaped sd) (room_in_shaped sd hu) ⟨.bl _, H, I, rfl, q⟩
  · obtain ⟨bs, r2⟩ := Dp.reads I (.tuple ds) y u he ry
    exact SeqAt.notIn_tuple_reads r2 r1 se (SeqAt.canLay_of_shaped sd) (room_in_shaped sd hu) ⟨.bl _, H, I, rfl, q⟩
/-- t.index(x), t a tuple: the first place of an equal one -/
def rIndexT (K : PySem.W.Frag) : V → List V → Hp → VK → Prop := fun x xs H Q => ∃ (a : Addr) (y : V) (d : PyData) (ds : List PyData) (j : Nat) (z : PyData), x = V.ref a ∧ xs = [y] ∧ Dp K H (V.ref a) (.tuple ds) ∧ Dp K H y d ∧
  PyData.canLayAll0 ds = true ∧ SeqAt.shaped d = true ∧ ds[j]? = some z ∧ PyData.eqv z d = true ∧ (∀ (m : Nat) (z' : PyData), m < j → ds[m]? = some z' → PyData.eqv z' d = false) ∧ Q (.int (j : Nat)) H
theorem mt_tindexK (hu : X.A.units + 65 < cLine) (h : X.K = K := by rfl) : MtR X "tuple.index" (rIndexT K) := by
  subst h
  intro pins s σ H x xs v us Q I rx rxs h
  obtain ⟨a, y, d, ds, j, z, rfl, rfl, hl, hy, hxs, sd, hz, hzj, hno, q⟩ := h
  cases rx
  cases rxs with
  | cons ry rt =>
    rename_i uy ut
    cases rt
    obtain ⟨bs, r1⟩ := Dp.reads I d y uy hy ry
    have hroom : X.A.units + 1 + min (PyData.depthAll ds) d.depth < cLine := room_in_shaped sd hu
    cases hl with
    | tup hs ha =>
      obtain ⟨its, rv, ⟨⟨cls, dd, data, sls⟩, ho, hc, n, hdt⟩, hlen⟩ := I.tuple hs
      simp only at hc hdt
      subst hc hdt
      obtain ⟨as, h4⟩ := Dp.readsAll I ds _ its ha rv
      have hn : its.length = ds.length := SeqAt.ReadsAll.length ds its as h4
      have hmap : its.map (SeqAt.readOf s.heap) = ds := SeqAt.readsAll_map ds its as hxs h4
      have hvl := rv.length
      obtain ⟨hjd, _⟩ := List.getElem?_eq_some_iff.mp hz
      have hjl : j < its.length := by omega
      have hj : j < its.toArray.size := by simpa using hjl
      have at_ : ∀ (m : Nat) (hm : m < its.toArray.size) (z' : PyData), ds[m]? = some z' → SeqAt.readOf s.heap its.toArray[m] = z' := by
        intro m hm z' hz'
        have hml : m < its.length := by simpa using hm
        rw [← hmap, List.getElem?_map, List.getElem?_eq_getElem hml] at hz'
        have e1 : SeqAt.readOf s.heap its[m] = z' := Option.some.inj (show some (SeqAt.readOf s.heap its[m]) = some z' from hz')
        simpa using e1
      refine call_meets PySem.F.slot_tuple_index ⟨_, ho, rfl⟩ PySem.F.entry_tuple_index (PySem.F.args_tuple_index_2 _ _)
        (TI.tuple_indexAt a its.toArray n dd sls uy (fun u => PyData.eqv (SeqAt.readOf s.heap u) d) j hj ?_ ?_) ⟨ho, SeqAt.items_eqAt (vs := its.toArray) (show ReadsAll s.heap its.toArray.toList ds as from h4) r1 hxs (SeqAt.canLay_of_shaped sd) hroom, ?_⟩
      · show PyData.eqv (SeqAt.readOf s.heap its.toArray[j]) d = true
        rw [at_ j hj z hz]
        exact hzj
      · intro m hm hmj
        have hmd : m < ds.length := by omega
        have hz' : ds[m]? = some ds[m] := List.getElem?_eq_getElem hmd
        show PyData.eqv (SeqAt.readOf s.heap its.toArray[m]) d = false
        rw [at_ m hm _ hz']
        exact hno m _ hmj hz'
      · exact ⟨.int (j : Nat), H, I.tok _, ⟨_, rfl⟩, q⟩
end
theorem u65 {k : Nat} {A : Around} (r : Room k A) : A.units + 65 < cLine := by have := r.un; omega
/-- xs[::-1] of a list -/
def tRev (K : PySem.W.Frag) (te : TE) : TE := fun σ H Q => te σ H fun x H1 => ∃ a xs, x = .ref a ∧ SqL K H1 a xs ∧ ∀ p, H1 p = none → Q (.ref p) (upd H1 p (.lst xs.reverse))
theorem pe_rev {X : Cx} {e m : Expr} {te : TE} {p2 pos : Pos} (he : PE X e te) (hm : PE X m (tC (.int (-1)))) : PE X (.Subscript e (.Slice none none (some m) p2) pos) (tRev X.K te) := by
  refine ⟨fun pins s σ H Q I h => ?_⟩
  refine Subscript_ (thn (he.run pins s σ H _ I h) fun v s1 ⟨x, H1, I1, r1, q1⟩ => ?_)
  refine wpAny_Slice (wpAny_evalPart_none (wpAny_evalPart_none (wpAny_evalPart_some (thn (hm.run pins s1 σ H1 (fun y H2 => y = .int (-1) ∧ H2 = H1) I1 ⟨rfl, rfl⟩) fun vm s3 ⟨y, H3, I3, r3, ey, eH⟩ => ?_))))
  subst ey eH
  obtain ⟨t, rfl⟩ := r3
  obtain ⟨a, xs, rfl, hx, q⟩ := q1
  cases r1
  have I4 : L2.Inv X pins σ H3 { s3 with heap := s3.heap.push { cls := .type "slice", data := .fields #[.none, .none, .int (-1) t] } } := I3.kept (t' := s3.toks) fun b ob q => Heap.get?_push_of_some _ q
  obtain ⟨its, r, ht, hz⟩ := I4.list hx
  have hlen := r.length
  show wpAny (model X.prog X.w) X.A (subscriptTail e (.Slice none none (some m) p2) (.ref a) (.ref s3.heap.objs.size)) (EP X pins σ Q) X.xe { s3 with heap := s3.heap.push { cls := .type "slice", data := .fields #[.none, .none, .int (-1) t] } }
  refine tail_any (ops := [.ref a, .ref s3.heap.objs.size]) ht.isList.typeIs slot_list_getitem.lookup ?_ (by with_unfolding_all rfl)
  refine wpAny_getItem_list_slice ht.isList (Heap.IsSliceOf.new ..) .none .none (.int (-1) t) (by decide) ?_ (by rw [List.size_toArray] <;> omega)
  rw [PySem.W.krv_pick]
  refine ⟨.ref _, _, I4.laid (t' := s3.toks) (o := .lst xs.reverse) (fun b ob q => Heap.get?_push_of_some _ q) (Nat.le_refl _) ?_, rfl, q _ (I4.hok.fresh (Nat.le_refl _))⟩
  exact ⟨by rw [List.length_reverse]; exact hz, _, 0, r.reverse, Heap.get?_push_size _ rfl⟩
theorem pe_revK {X : Cx} {e m : Expr} {te : TE} {p2 pos : Pos} (K : PySem.W.Frag) (he : PE X e te) (hm : PE X m (tC (.int (-1)))) (h : X.K = K := by rfl) : PE X (.Subscript e (.Slice none none (some m) p2) pos) (tRev K te) := h ▸ pe_rev he hm
theorem tst {b : Bool} {A B : Prop} (h1 : b = true → A) (h0 : b = false → B) : if b = true then A else B := by
  cases b
  · exact h0 rfl
  · exact h1 rfl
theorem sl_tupAK {X : Cx} (K : PySem.W.Frag) (h : X.K = K := by rfl) : SlR X (rSlA K) := h ▸ sl_tupA
/-! ### tuples whose object has no dict (so that their methods are reached) -/
def TupF (G : Hp) (a : Addr) (xs : List V) : Prop := ∃ o : Obj, o.dict = none ∧ G a = some (.frz o (.tup xs))
def Tu (G : Hp) (a : Addr) (xs : List V) : Prop := G a = some (.tup xs) ∨ TupF G a xs
theorem TupF.same {G G' : Hp} {a : Addr} {xs : List V} (e : Same G G') (h : TupF G a xs) : TupF G' a xs := let ⟨o, h1, h2⟩ := h; ⟨o, h1, e _ _ h2⟩
theorem Tu.same {G G' : Hp} {a : Addr} {xs : List V} (e : Same G G') (h : Tu G a xs) : Tu G' a xs := by
  rcases h with h | h
  · exact .inl (e _ _ h)
  · exact .inr (h.same e)
theorem Tu.sq {K : PySem.W.Frag} {H : Hp} {a : Addr} {xs : List V} (h : Tu H a xs) : SqT K H a xs := by
  rcases h with h | ⟨o, _, h⟩
  · exact .inl (.inl h)
  · exact .inl (.inr ⟨o, h⟩)
theorem Tu.ty {K : PySem.W.Frag} {H : Hp} {a : Addr} {xs : List V} (h : Tu H a xs) : TyX K H (.ref a) (.type "tuple") := by
  rcases h with h | ⟨o, _, h⟩
  · exact .base (.tup h)
  · exact .fTuple h
theorem TupF.tu {G : Hp} {a : Addr} {xs : List V} (h : TupF G a xs) : Tu G a xs := .inr h
section
variable {X : Cx} (K : PySem.W.Frag)
/-- tuple(xs) -/
def yTupF (K : PySem.W.Frag) : List V → Hp → VK → Prop := fun xs H Q => ∃ p ys, xs = [.ref p] ∧ ((SqL K H p ys ∧ ∀ l o, H l = none → o.dict = none → Q (.ref l) (upd H l (.frz o (.tup ys)))) ∨ (SqT K H p ys ∧ Q (.ref p) H))
theorem call_tupleFK (h : X.K = K := by rfl) : CallR X (.type "tuple") (yTupF K) := by
  subst h
  intro pins s σ H xs us Q I r h
  obtain ⟨p, ys, rfl, h⟩ := h
  obtain ⟨u, rfl, rx⟩ := vals1 r
  cases rx
  rcases h with ⟨hq, q⟩ | ⟨hq, q⟩
  · obtain ⟨its, r', pl, hz⟩ := I.list hq
    have hlen := r'.length
    refine call_tuple_list pl.isList (fun h' kp => ?_) (by simp only [List.size_toArray] <;> omega)
    have I1 : L2.Inv X pins σ H { s with heap := h' } := I.kept (t' := s.toks) kp
    have I2 : L2.Inv X pins σ (upd H h'.objs.size (.frz { cls := .type "tuple", data := .seq its.toArray } (.tup ys))) { s with heap := h'.push { cls := .type "tuple", data := .seq its.toArray } } :=
      I1.laid (t' := s.toks) (fun b o e => Heap.get?_push_of_some _ e) (Nat.le_refl _) (show ObjOk X.prog X.w _ _ _ (.frz { cls := .type "tuple", data := .seq its.toArray } (.tup ys)) from ⟨Heap.get?_push_size _ rfl, hz, its, r', IsTup.new _ _⟩)
    exact ⟨.ref h'.objs.size, _, I2, rfl, q _ _ (I1.hok.fresh (Nat.le_refl _)) rfl⟩
  · obtain ⟨its, r', pl, hz⟩ := I.tuple hq
    exact call_tuple_same pl ⟨.ref p, H, I, rfl, q⟩
/-- t.m(e, ..), t a tuple -/
def tTM (r : V → List V → Hp → VK → Prop) (to : TE) (t : TA) : TE := fun σ H Q => to σ H fun x H1 => (∃ a xs, x = .ref a ∧ TupF H1 a xs) ∧ t σ H1 fun vs H2 => r x vs H2 Q
theorem pe_tm {o e : Expr} {es : List Expr} {to : TE} {t : TA} {id : String} {name : Str} {apos cpos : Pos} {r : V → List V → Hp → VK → Prop} (slot : Slot "tuple" name id) (hty : typeOf (.builtin id) = pure (.type "method_descriptor")) (hm : MtR X id r) (ho : PE X o to) (ha : PA X (e :: es) t)
    (hbase : attributeBase o name X.env (eval o X.env) = eval o X.env := by rfl)
    (hfew : ((backTo cpos (starEach (e :: es) X.env)).all (fun x => !x.1) && (backToKw cpos (keywordEach [] X.env)).all (fun x => x.1.isSome)
      && decide ((e :: es).length + ([] : List Keyword).length + (if ([] : List Keyword).isEmpty then 0 else 1) < 30)) = true := by rfl)
    (hline : (apos.endLine == cpos.line) = true := by rfl) (hs : starEach (e :: es) X.env = (false, eval e X.env) :: starEach es X.env := by rfl) (hplain : (backTo cpos (starEach es X.env)).any (·.1) = false := by rfl) :
    PE X (.Call (.Attribute o name apos) (e :: es) [] cpos) (tTM r to t) := by
  refine ⟨fun pins s σ H Q I h => ?_⟩
  refine wpAny_Call_method_late hbase hfew hline rfl (thn (ho.run pins s σ H _ I h) fun v s1 ⟨x, H1, I1, r1, ty, q1⟩ => ?_)
  obtain ⟨a, xs, rfl, ob, hd, ha'⟩ := ty
  cases r1
  obtain ⟨h1, _, _, _, h2⟩ := I1.hok _ _ ha'
  refine ⟨"tuple", id, PySem.F.plainAttrs_tuple, slot, hty, ⟨ob, h1, ?_⟩, fun b e => ?_, ?_⟩
  · obtain ⟨ob', e1, e2, _⟩ := h2
    rw [h1] at e1
    rw [Option.some.inj e1]
    exact e2
  · cases e
    exact ⟨ob, h1, hd⟩
  have hA := ha.run cpos pins s1 σ H1 _ I1 q1
  rw [hs] at hA ⊢
  refine Calls.callWith_builtin (by show (false || (backTo cpos (starEach es X.env)).any (·.1)) = false; rw [hplain] <;> rfl) (Calls.evalArgs_plain ?_)
  exact thn hA fun us s2 ⟨vs, H2, I2, r2, q2⟩ => hm pins s2 σ H2 (V.ref a) vs (.ref a) us Q I2 rfl r2 q2
end
/-- t[lo:hi]: the whole of it is t itself -/
def rSlF (K : PySem.W.Frag) : V → Option Int → Option Int → Hp → VK → Prop := fun x lo hi H Q => ∃ a xs, x = .ref a ∧ SqT K H a xs ∧
  (HT.sIx xs.length 0 lo = 0 ∧ HT.sIx xs.length xs.length hi = xs.length → Q (.ref a) H) ∧ (¬ (HT.sIx xs.length 0 lo = 0 ∧ HT.sIx xs.length xs.length hi = xs.length) → ∀ p ob, H p = none → ob.dict = none → Q (.ref p) (upd H p (.frz ob (.tup (cutV xs lo hi)))))
theorem sl_tupFK {X : Cx} (K : PySem.W.Frag) (h : X.K = K := by rfl) : SlR X (rSlF K) := by
  subst h
  intro pins s σ H x v vl vu lo hi sl Q I rx hs pl pu h
  obtain ⟨a, xs, rfl, hx, q1, q2⟩ := h
  by_cases hw : HT.sIx xs.length 0 lo = 0 ∧ HT.sIx xs.length xs.length hi = xs.length
  · exact sl_tupA pins s σ H _ v vl vu lo hi sl Q I rx hs pl pu ⟨a, xs, rfl, hx, q1, fun z => absurd hw z⟩
  · cases rx
    obtain ⟨its, r, ht, hz⟩ := I.tuple hx
    have hlen : its.toArray.size = xs.length := by rw [List.size_toArray]; exact r.length.symm
    refine ⟨"tuple", _, PyProof.Rows.slot_tuple_getitem.lookup, ht.typeIs, ?_⟩
    refine HT.getItem_tuple_cut ht hs pl pu (by rw [hlen]; exact hw) ?_ (by rw [hlen]; exact hz)
    rw [hlen]
    refine ⟨.ref s.heap.objs.size, _, I.laid (t' := s.toks) (o := .frz { cls := .type "tuple", data := .seq (List.take (HT.sIx xs.length xs.length hi - HT.sIx xs.length 0 lo) (List.drop (HT.sIx xs.length 0 lo) its.toArray.toList)).toArray } (.tup (cutV xs lo hi))) (fun b ob q => Heap.get?_push_of_some _ q) (Nat.le_refl _) ?_, rfl, q2 hw _ _ (I.hok.fresh (Nat.le_refl _)) ?_⟩
    · exact ⟨Heap.get?_push_size _ rfl, Nat.le_trans (cutV_length xs lo hi) hz, _, (r.drop (HT.sIx xs.length 0 lo)).take (HT.sIx xs.length xs.length hi - HT.sIx xs.length 0 lo), IsTup.new _ _⟩
    · rfl
theorem Sep.sub {G H : Hp} {M M' : List (Addr × HO)} (S : Sep G M H) (h : M'.Sublist M) : Sep G M' H := ⟨S.1, fun p hp => S.2.1 p (h.subset hp), List.Nodup.sublist (h.map _) S.2.2⟩
theorem Sep.rot2 {G H : Hp} {a b c d : Addr × HO} {M : List (Addr × HO)} (S : Sep G (a :: b :: c :: d :: M) H) : Sep G (c :: d :: a :: b :: M) H := S.perm (List.perm_append_comm_assoc [a, b] [c, d] M)
theorem Sep.no3 {G H : Hp} {a b c : Addr × HO} {M : List (Addr × HO)} (S : Sep G (a :: b :: c :: M) H) : Sep G (a :: b :: M) H := S.sub ((List.sublist_cons_self c M).cons₂ b |>.cons₂ a)
/-! ### lists of ints, of pairs of ints, as data -/
def prd (p : Int × Int) : PyData := .tuple [.int p.1, .int p.2]
theorem prd_can (p : Int × Int) : (prd p).canLay0 = true := by simp [prd, PyData.canLay0, PyData.canLayAll0]
theorem prd_shaped (p : Int × Int) : SeqAt.shaped (prd p) = true := by
  unfold SeqAt.shaped
  rw [prd_can]
  simp [prd, PyData.depth, PyData.depthAll]
theorem prds_can : ∀ ps : List (Int × Int), PyData.canLayAll0 (ps.map prd) = true
  | [] => by simp [PyData.canLayAll0]
  | p :: r => by simp [PyData.canLayAll0, prd_can p, prds_can r]
theorem ints_can : ∀ ns : List Int, PyData.canLayAll0 (ns.map PyData.int) = true
  | [] => by simp [PyData.canLayAll0]
  | n :: r => by simp [PyData.canLayAll0, PyData.canLay0, ints_can r]
theorem prd_eqv (p q : Int × Int) : PyData.eqv (prd p) (prd q) = decide (p = q) := by
  obtain ⟨a, b⟩ := p
  obtain ⟨c, d⟩ := q
  simp only [prd, PyData.eqv, PyData.eqvAll, Bool.and_true]
  by_cases h1 : a = c <;> by_cases h2 : b = d <;> simp [h1, h2]
theorem int_shaped (n : Int) : SeqAt.shaped (.int n) = true := by simp [SeqAt.shaped, PyData.canLay0, PyData.depth]
theorem ints_dp {K : PySem.W.Frag} {H : Hp} : ∀ ns : List Int, DpAll K H (ns.map V.int) (ns.map PyData.int)
  | [] => .nil
  | n :: r => .cons (.int n) (ints_dp r)
theorem any_ints (n : Int) (ns : List Int) : ((ns.map PyData.int).any fun z => PyData.eqv z (.int n)) = decide (n ∈ ns) := by
  induction ns with
  | nil => rfl
  | cons m r ih =>
    rw [List.map_cons, List.any_cons, ih]
    show ((m == n) || decide (n ∈ r)) = decide (n ∈ m :: r)
    by_cases e : n = m
    · subst e; simp
    · have e2 : ¬ m = n := fun q => e q.symm
      simp [e, e2]
theorem any_prds (p : Int × Int) (ps : List (Int × Int)) : ((ps.map prd).any fun z => PyData.eqv z (prd p)) = decide (p ∈ ps) := by
  induction ps with
  | nil => rfl
  | cons q r ih =>
    rw [List.map_cons, List.any_cons, ih, prd_eqv]
    by_cases e : p = q
    · subst e; simp
    · have e2 : ¬ q = p := fun h => e h.symm
      simp [e, e2]
end XL
set_option Elab.async false
set_option linter.all false
set_option maxRecDepth 100000
set_option maxHeartbeats 4000000
/-! XOwn: o[i], o[i] = v by own methods. -/
namespace XL
open PySem PySem.Spec PyProof.Rows L2
section
variable {X : Cx} {CX : CXT} {C f : Addr} {fd : FuncData} {ps : List Str} {sp : Sp} {E : XK} {n : Nat} {o i : Expr} {to ti : TE} {pos : Pos}
def yIxO (C : Addr) (sp : Sp) (E : XK) : R2 := fun x y H Q => ∃ a dx fs, x = .ref a ∧ H a = some (.ins C dx fs) ∧ sp [.ref a, y] H Q E
theorem pe_ixO (ho : PE X o to) (hi : PE X i ti) (F : FnOk X.prog X.w X.K X.mg X.base CX n f fd ps sp) (hs : PySem.W.findIn X.K (.ref C) "__getitem__" = some (some (.ref f))) (hf : PySem.W.fnIn X.K f = true) (hfn : PySem.W.isFn X.K (.ref f) = true)
    (hb : Binds X.K fd ps []) (hx : Passes CX X E) (hr : Room (n + 1) X.A) (hsl : ∀ x v, subscripted i true (.ref x) v = runValue (.builtin "lifetime.subscript" ⟨[.ref x, v], []⟩) := by intro _ _; with_unfolding_all rfl) :
    PE X (.Subscript o i pos) (tOp (yIxO C sp E) to ti) := by
  refine ⟨fun pins s σ H Q I h => ?_⟩
  refine Subscript_ (thn (ho.run pins s σ H _ I h) fun v s1 ⟨x, H1, I1, r1, q1⟩ => thn (hi.run pins s1 σ H1 _ I1 q1) fun u s2 ⟨y, H2, I2, r2, q2⟩ => ?_)
  obtain ⟨a, dx, fs, rfl, ha, hsp⟩ := q2
  cases r1
  obtain ⟨mA, J, _⟩ := ins_get I2.hok ha
  obtain ⟨od, J, _⟩ := J.look
  obtain ⟨m, hF⟩ := I2.fr
  refine PySem.W.sub_K hF I2.ok.mod.kin J hs hf hfn ?_ (hsl _ _)
  have hl : ([Value.ref a, u] ++ []).length = ps.length := F.len _ _ _ _ hsp
  refine wpAny_call (codeAny_mono (F.run X.A.in1 X.stack s2 H2 ⟨[.ref a, u], []⟩ [.ref a, u] [.ref a, y] Q E hr.in1 I2.env0.in1 (hb s2 [.ref a, u] I2.kIn hl) (.cons rfl (.cons r2 .nil)) hsp) fun r s' hq => ?_)
  cases r with
  | error e => exact hx pins σ H2 s2 e s' I2 hq
  | ok fl =>
    cases fl with
    | ret u => exact I2.after hq
    | next => exact False.elim hq
    | brk => exact False.elim hq
    | cont => exact False.elim hq
def yStO (C : Addr) (sp : Sp) (E : XK) : TSet := fun x y v H Q => ∃ a dx fs, x = .ref a ∧ H a = some (.ins C dx fs) ∧ sp [.ref a, y, v] H (fun _ H' => Q H') E
theorem set_own (F : FnOk X.prog X.w X.K X.mg X.base CX n f fd ps sp) (hq : PySem.W.noSeq X.K C = true) (hs : PySem.W.findIn X.K (.ref C) "__setitem__" = some (some (.ref f))) (hfn : PySem.W.isFn X.K (.ref f) = true)
    (hb : Binds X.K fd ps []) (hx : Passes CX X E) (hr : Room n X.A) : PSet X (yStO C sp E) := by
  intro pins s σ H x y v xv yv vv Q I rx ry rv h
  obtain ⟨a, dx, fs, rfl, ha, hsp⟩ := h
  cases rx
  obtain ⟨mA, J, _⟩ := ins_get I.hok ha
  obtain ⟨od, J, _⟩ := J.look
  obtain ⟨m, hF⟩ := I.fr
  refine PySem.W.ksp_setItem hF I.ok.mod.kin J hq hs hfn ?_
  refine wpAny_mono (run_fn (us := [.ref a, yv, vv]) (vs := [.ref a, y, v]) (dvs := []) F hr hb .nil hx I (.cons rfl (.cons ry (.cons rv .nil))) hsp) (fun r s' q => ?_) fun _ _ e => e
  obtain ⟨z, H', I', rz, q⟩ := q
  exact ⟨H', I', q⟩
end
end XL
set_option Elab.async false
set_option linter.all false
set_option maxRecDepth 100000
set_option maxHeartbeats 4000000
/-! XTup: tuples made by a display or by +, as objects without a dict. -/
namespace XL
open PySem PySem.Spec PyProof.Rows L2
section
variable {X : Cx} {es : List Expr} {t : TA} {pos : Pos}
def tTupF (t : TA) : TE := fun σ H Q => t σ H fun xs H1 => xs.length ≤ sizeLine ∧ ∀ p ob, H1 p = none → ob.dict = none → Q (.ref p) (upd H1 p (.frz ob (.tup xs)))
theorem pe_tupF {x1} (h : PA X es t) : PE X (.Tuple es x1 pos) (tTupF t) := by
  refine ⟨fun pins s σ H Q I hq => ?_⟩
  refine wpAny_Tuple_spliced (thn (h.run pos pins s σ H _ I hq) fun us s1 ⟨xs, H1, I1, r, z, q⟩ => ⟨by rw [← r.length]; exact z, ?_⟩)
  have hf : H1 s1.heap.objs.size = none := I1.hok.fresh (Nat.le_refl _)
  refine ⟨.ref s1.heap.objs.size, _, I1.laid (t' := s1.toks) (o := .frz { cls := .type "tuple", data := .seq us.toArray } (.tup xs)) (fun b u e => Heap.get?_push_of_some _ e) (Nat.le_refl _) ?_, rfl, q _ _ hf rfl⟩
  exact ⟨Heap.get?_push_size _ rfl, z, us, r, ⟨_, Heap.get?_push_size _ rfl, rfl, _, rfl⟩⟩
def rCatF (K : PySem.W.Frag) : R2 := fun x y H Q => ∃ a b xs ys, x = .ref a ∧ y = .ref b ∧ SqT K H a xs ∧ SqT K H b ys ∧ xs.length + ys.length ≤ sizeLine ∧
  (xs = [] → Q (.ref b) H) ∧ (xs ≠ [] → ys = [] → Q (.ref a) H) ∧ (xs ≠ [] → ys ≠ [] → ∀ p ob, H p = none → ob.dict = none → Q (.ref p) (upd H p (.frz ob (.tup (xs ++ ys)))))
theorem op_catFK (K : PySem.W.Frag) (h : X.K = K := by rfl) : OpR X (binaryOp .Add) (rCatF K) := by
  subst h
  intro pins s σ H x y v u Q I rx ry h
  obtain ⟨a, b, xs, ys, rfl, rfl, ha, hb, hz, q0, q1, q2⟩ := h
  by_cases hx : xs = []
  · exact op_catA pins s σ H _ _ v u Q I rx ry ⟨a, b, xs, ys, rfl, rfl, ha, hb, hz, q0, fun z => absurd hx z, fun z => absurd hx z⟩
  · cases rx
    cases ry
    obtain ⟨its, r1, p1, _⟩ := I.tuple ha
    obtain ⟨its2, r2, p2, _⟩ := I.tuple hb
    refine HT.cat_tup p1 p2 (fun z => hx (r1.nil_iff.mp z)) (fun z => ⟨.ref a, H, I, rfl, q1 hx (r2.nil_iff.mp z)⟩) (fun z => ?_) (by rw [← r1.length, ← r2.length]; exact hz)
    refine ⟨.ref s.heap.objs.size, _, I.laid (t' := s.toks) (o := .frz { cls := .type "tuple", data := .seq (its ++ its2).toArray } (.tup (xs ++ ys))) (fun b ob q => Heap.get?_push_of_some _ q) (Nat.le_refl _) ?_, rfl, q2 hx (fun w => z (r2.nil_iff.mpr w)) _ _ (I.hok.fresh (Nat.le_refl _)) rfl⟩
    exact ⟨Heap.get?_push_size _ rfl, by rw [List.length_append]; exact hz, _, r1.append r2, IsTup.new _ _⟩
end
section
variable {K : PySem.W.Frag} {a : Addr} {xs : List V} {Qd : Hp → Prop} {B : V → Hp → (Hp → Prop) → Prop} {H0 : Hp}
/-- a clause of a comprehension over a list -/
theorem loopL (Pv : Nat → Hp → Prop) (h0 : Pv 0 H0) (hl : ∀ k H, Pv k H → SqL K H a xs) (hs : ∀ k x H, xs[k]? = some x → Pv k H → B x H (Pv (k + 1))) (hd : ∀ H, Pv xs.length H → Qd H) :
    ∃ W : Nat → Nat → Hp → Prop, (∃ m, W 0 m H0) ∧ ∀ i m H, W i m H → ((Itl K a).stop i H ∧ Qd H) ∨ ((Itl K a).go i H ∧ ∃ Nx : Hp → Prop, (∀ H', Nx H' → ∃ m', m' < m ∧ W (i + 1) m' H') ∧ ∀ x H', (Itl K a).yld i H x H' → B x H' Nx) := by
  refine ⟨fun i m H => m = xs.length - i ∧ i ≤ xs.length ∧ Pv i H, ⟨xs.length, by simp, Nat.zero_le _, h0⟩, ?_⟩
  rintro i m H ⟨rfl, hi, p⟩
  have q := hl i H p
  by_cases hlt : i < xs.length
  · refine .inr ⟨⟨xs, xs[i], q, by simp [hlt]⟩, Pv (i + 1), fun H' p' => ⟨xs.length - (i + 1), by omega, rfl, hlt, p'⟩, fun x H' y => ?_⟩
    obtain ⟨e, y⟩ := y
    subst e
    exact hs i x _ (y xs q) p
  · have e : i = xs.length := by omega
    subst e
    exact .inl ⟨⟨xs, q, Nat.le_refl _⟩, hd H p⟩
/-- a clause of a comprehension over a range -/
theorem loopR {lo : Int} {n : Nat} (Pv : Nat → Hp → Prop) (h0 : Pv 0 H0) (hs : ∀ k H, k < n → Pv k H → B (.int (lo + k)) H (Pv (k + 1))) (hd : ∀ H, Pv n H → Qd H) :
    ∃ W : Nat → Nat → Hp → Prop, (∃ m, W 0 m H0) ∧ ∀ i m H, W i m H → ((Itr lo n).stop i H ∧ Qd H) ∨ ((Itr lo n).go i H ∧ ∃ Nx : Hp → Prop, (∀ H', Nx H' → ∃ m', m' < m ∧ W (i + 1) m' H') ∧ ∀ x H', (Itr lo n).yld i H x H' → B x H' Nx) := by
  refine ⟨fun i m H => m = n - i ∧ i ≤ n ∧ Pv i H, ⟨n, by simp, Nat.zero_le _, h0⟩, ?_⟩
  rintro i m H ⟨rfl, hi, p⟩
  by_cases hlt : i < n
  · refine .inr ⟨hlt, Pv (i + 1), fun H' p' => ⟨n - (i + 1), by omega, rfl, hlt, p'⟩, fun x H' y => ?_⟩
    obtain ⟨e, y⟩ := y
    subst e y
    exact hs i _ hlt p
  · have e : i = n := by omega
    subst e
    exact .inl ⟨Nat.le_refl _, hd H p⟩
/-- row + (item,) -/
theorem cat_one {G H : Hp} {M : List (Addr × HO)} {r : Addr} {n : List Int} {i : Int} {Q : VK} (S : Sep G M H) (hr : TupF G r (n.map V.int)) (hl : n.length ≤ 1000)
    (q : ∀ (p : Addr) (G' H' : Hp), Same G G' → Sep G' M H' → TupF G' p ((n ++ [i]).map V.int) → Q (.ref p) H') :
    [V.int i].length ≤ sizeLine ∧ ∀ p ob, H p = none → ob.dict = none → rCatF K (.ref r) (.ref p) (upd H p (.frz ob (.tup [.int i]))) Q := by
  refine ⟨sz, fun p ob np hob => ?_⟩
  have S1 := S.newG (o := .frz ob (.tup [.int i])) np
  have s1 := S.grow (o := .frz ob (.tup [.int i])) np
  have h1 : TupF (upd G p (.frz ob (.tup [.int i]))) p [.int i] := ⟨ob, hob, upd_same⟩
  refine ⟨r, p, n.map V.int, [.int i], rfl, rfl, ((hr.same s1).same S1.1).tu.sq, (h1.same S1.1).tu.sq, small (by rw [List.length_map]; simp; omega), fun e => ?_, fun _ e => (nomatch e), fun _ _ p2 ob2 np2 hob2 => ?_⟩
  · have e2 : n = [] := List.map_eq_nil_iff.mp e
    subst e2
    exact q p _ _ s1 S1 h1
  · have e3 : n.map V.int ++ [V.int i] = (n ++ [i]).map V.int := by rw [List.map_append]; rfl
    rw [e3]
    exact q p2 _ _ (s1.trans (S1.grow np2)) (S1.newG np2) ⟨ob2, hob2, upd_same⟩
end
end XL
set_option Elab.async false
set_option linter.all false
set_option maxRecDepth 100000
set_option maxHeartbeats 4000000
/-! XExc: an error of the program's own, class E(ScreenError): __init__(self, x): super().__init__(f'..{x!r}'); self.x = x: made, raised, caught. -/
namespace PySem
namespace XExc
open PySem.W PySem.Calls PyProof.Rows PySem.HandSPX
/-! ### the text of __init__ -/
def iA (fld : Str) (p1 p2 : Pos) : Arguments := { posonlyargs := [], args := [{ arg := "self", annotation := none, pos := p1 }, { arg := fld, annotation := none, pos := p2 }], vararg := none, kwonlyargs := [], kw_defaults := [], kwarg := none, defaults := [] }
structure Ps where
  a : Pos
  b : Pos
  c : Pos
  d : Pos
  e : Pos
  f : Pos
  g : Pos
  h : Pos
  i : Pos
  j : Pos
  k : Pos
  l : Pos
  m : Pos
  cv : Int
  cp : cv = 114 ∨ cv = -1
def iSup (q : Ps) : Expr := .Call (.Name "super" q.a) [] [] q.b
def iArg (fld : Str) (msg : Str) (q : Ps) : Expr := .JoinedStr [.Constant (.str msg) 0 q.d, .FormattedValue (.Name fld q.e) q.cv none q.f] q.g
def iCall (fld : Str) (msg : Str) (q : Ps) : Expr := .Call (.Attribute (iSup q) "__init__" q.c) [iArg fld msg q] [] q.h
def iB (fld : Str) (msg : Str) (q : Ps) : List Stmt := [.Expr (iCall fld msg q) q.i, .Assign [.Attribute (.Name "self" q.j) fld q.k] (.Name fld q.l) q.m]
/-- how the call is evaluated (the positions decide nothing here) -/
def Evals (fld msg : Str) (q : Ps) : Prop := ∃ pl : Env → Sem Bool, ∀ env : Env, eval (iCall fld msg q) env = (do
  let ov ← attributeBase (iSup q) "__init__" env (eval (iSup q) env)
  standAt q.c.atName
  let (f, first) ← holding [ov] (getMethod ov "__init__" (pl env))
  callWith q.h f first (backTo q.h (starEach [iArg fld msg q] env)) [])
def iN (fld : Str) : List (Str × NameKind) := [(PySem.Str.ofString "self", .local), (fld, .local), (PySem.Str.ofString "__class__", .free), (PySem.Str.ofString "super", .globalImplicit)]
def iS (fld : Str) : Scope := { kind := .function, names := iN fld, isGenerator := false, isCoroutine := false, more := [] }
/-- what the written part says of the class at C and of its __init__ at fI -/
structure ExTxt (P : Program) (K : Frag) (mg : Str → Option Value) (nm fld msg : Str) (C fI : Addr) : Prop where
  gC : mg nm = some (.ref C)
  cls : ∃ nm q N bs bm sn sub ab col dd k0 k1 k2 k3 k5, K.lookup C = some (excClassObj nm q C N bs bm true sn sub ab col dd k0 k1 k2 k3 k5 "ValueError.__new__") ∧ refsVE bm = true
  sa : findIn K (.ref C) "__setattr__" = some (some (.builtin "object.__setattr__"))
  ga : findIn K (.ref C) "__getattribute__" = some (some (.builtin "BaseException.__getattribute__"))
  gg : findIn K (.ref C) "__getattr__" = some none
  noN : findIn K (.ref C) fld = some none
  iC : findIn K (.ref C) "__init__" = some (some (.ref fI))
  tC : typeIn K (.ref fI) = some (.type "function")
  kC : keepIn K (.ref C) = true
  exC : subIn K (.ref C) (.type "BaseException") = some true
  tyC : typeIn K (.ref C) = some (.type "type")
  hdC : hasDictIn K C = true
  fn : ∃ (oc kV doc pm ct : Value) (od an : Option Addr) (osl : Array (Option Value)) (qual : Str) (cda cc : Addr) (p1 p2 : Pos) (q : Ps) (vs : Array Value) (file : Str) (tf : Tok) (ccl cl : Value) (cdd cld : Option Addr) (ccs csl : Array (Option Value)),
    K.lookup fI = some ⟨oc, od, .func (ksFn "__init__" qual (iA fld p1 p2) (iB fld msg q) (iS fld) .none kV doc pm an (.ref cda) ct cc), osl⟩ ∧ codeIn K (.ref cda) qual = true ∧ K.lookup cda = some ⟨ccl, cdd, .fields vs, ccs⟩ ∧ vs[2]? = some (.str file tf) ∧
    ((P.main.file : Str) == file) = true ∧ K.lookup cc = some ⟨cl, cld, .cell (some (.ref C)), csl⟩ ∧ Evals fld msg q ∧
    ∀ x v : Value, bindArgs (ksFn "__init__" qual (iA fld p1 p2) (iB fld msg q) (iS fld) .none kV doc pm an (.ref cda) ct cc) ⟨[x, v], []⟩ = pure [(("self" : Str), x), (fld, v)]
  sup : ks_superIn K C C "__init__" = some (some (.builtin "ValueError.__init__"))
  subV : subIn K (.ref C) (.type "ValueError") = some true
  mroS : mroIn K C (.ref C) = some true
  opq : nsIn K cStatics "thirdparty.any" = some none
  htop : (P.main.scope.names.lookup ("super" : Str)).isSome = false
  hsup : mg "super" = none
  f1 : fld ≠ "self"
  f2 : fld ≠ "__class__"
  f3 : fld ≠ "super"
  f4 : (fld == ("__debug__" : Str)) = false
  ml : msg.length ≤ 1000
/-- where the program stands -/
def PF (P : Program) (fl : Str) : Prop := ((P.main.file : Str) == fl) = true ∧ (P.main.scope.names.lookup ("super" : Str)).isSome = false
/-- what can be told in the message -/
def Rp (v : Value) : Prop := (∃ (y : Str) (t : Tok), v = .str y t ∧ (reprText y).length ≤ 100000) ∨ ∃ (i : Int) (t : Tok), v = .int i t ∧ i.natAbs.log2 < 1920
structure InitEnd (h h' : Heap) (x C dx : Addr) (fld : Str) (v : Value) : Prop where
  keep : ∀ b o, b ≠ x → h.get? b = some o → h'.get? b = some o
  obj : ∃ t1 : Addr, h'.get? x = some { cls := .ref C, dict := some dx, data := .fields #[.ref t1, .none, .none, .none, .bool false, .none] }
  dbig : h.objs.size ≤ dx
  dne : dx ≠ x
  ns : h'.Ns1 dx (fun y => if y = fld then some v else none)
structure OwnMade (h h' : Heap) (e C d : Addr) (fld : Str) (v : Value) : Prop where
  keep : ∀ b o, h.get? b = some o → h'.get? b = some o
  new : h.objs.size ≤ e
  obj : ∃ oe vs, h'.get? e = some oe ∧ oe.cls = .ref C ∧ oe.dict = some d ∧ oe.data = .fields vs ∧ vs[1]? = some .none
  dbig : h.objs.size ≤ d
  dne : d ≠ e
  ns : h'.Ns1 d (fun y => if y = fld then some v else none)
section
variable {prog : Program} {w : World} {A : Around} {E : Value → Shared → Prop} {h : Heap} {g : Array GenState} {d : Drawn} {t : Nat} {os : OsState}
variable {nm q : Str} {C N : Addr} {bs bm : List Value} {hdct : Bool} {sn : List Str} {sub : List Value} {ab : Bool} {col : Option Bool} {dd : Option Addr} {k0 k1 k2 k3 k5 : Option Value}
theorem call_mw {u e t0 : Addr} {rest : List Value} {Q : Value → Shared → Prop}
    (hC : h.get? C = some (excClassObj nm q C N bs bm hdct sn sub ab col dd k0 k1 k2 k3 k5 "ValueError.__new__")) (he : h.get? e = some (excO C t0)) (hu : h.get? u = some (kxs_mw "ValueError.__init__" e)) (hrest : rest.length ≤ sizeLine)
    (hq : ∀ h' t1, (∀ b o, b ≠ e → h.get? b = some o → h'.get? b = some o) → h.objs.size ≤ h'.objs.size → h'.get? e = some (excO C t1) → Q .none ⟨h', g, d, t, os⟩) :
    wpAny (model prog w) A (call (.ref u) rest) Q E ⟨h, g, d, t, os⟩ := by
  refine wpAny_call (codeAny_of_tree ?_)
  show wpAny _ A.in1 (callAny (.ref u) ⟨rest, []⟩) _ _ _
  simp only [callAny]
  refine wpAny_bind (wpAny_load hu ?_)
  simp only [kxs_mw, show (Value.type "method-wrapper" == Value.type "method" || Value.type "method-wrapper" == Value.type "builtin_function_or_method" || Value.type "method-wrapper" == Value.type "method-wrapper") = true by decide, if_true]
  refine W.KFB.if_so (by decide) ?_
  refine wpAny_bind (check_bound_init F.excBase_ValueError.toExcCallFacts hC he rfl ?_)
  refine wpAny_bind (wpAny_pure (wpAny_pure ?_))
  refine ⟨plainId_quiet F.excBase_ValueError.init.plain _, codeAny_builtin F.excBase_ValueError.initEntry ?_⟩
  rw [Around.under_plainId F.excBase_ValueError.init.plain _]
  wp_walk
  refine hq _ h.objs.size (fun b o hb ho => ?_) ?_ ?_
  · rw [Heap.get?_update_other _ _ (Ne.symm hb)]
    exact Heap.get?_push_of_some _ ho
  · simp [Heap.size_push]
  · rw [Heap.get?_update_self _ (Heap.get?_push_of_some _ he) rfl]
    rfl
end
section
variable {prog : Program} {w : World} {A : Around} {E : Value → Shared → Prop} {R : Result → Shared → Prop} {s : Shared} {K : Frag} {mg mb : Str → Option Value} {nm fld msg : Str} {C fI : Addr}
theorem one_size (v : Value) : [v].length ≤ sizeLine := by
  rw [sizeLine_eq]
  exact (by decide : 1 ≤ 16777216)
theorem reprChar_ge (q c : Nat) : 1 ≤ (Builtin.Str.reprChar q c).length := by
  unfold Builtin.Str.reprChar
  dsimp only
  repeat' split
  all_goals simp only [List.length_append, List.length_cons, List.length_nil]
  all_goals omega
theorem foldl_repr_ge1 (q : Nat) : ∀ (l : List Nat) (acc : Array Nat), acc.size + l.length ≤ (l.foldl (fun out c => out ++ (Builtin.Str.reprChar q c).toArray) acc).size
  | [], acc => Nat.le_refl _
  | c :: r, acc => by
    have ih := foldl_repr_ge1 q r (acc ++ (Builtin.Str.reprChar q c).toArray)
    have hc := reprChar_ge q c
    simp only [List.foldl_cons, List.length_cons]
    simp only [Array.size_append, List.size_toArray] at ih
    omega
theorem reprText_ge (x : Str) : x.length ≤ (reprText x).length := by
  unfold reprText
  show x.length ≤ ((x.cps.foldl (fun out c => out ++ (Builtin.Str.reprChar (reprQuote x) c).toArray) #[reprQuote x]).push (reprQuote x)).size
  rw [Array.size_push, ← Array.foldl_toList]
  have := foldl_repr_ge1 (reprQuote x) x.cps.toList #[reprQuote x]
  have e : x.cps.toList.length = x.length := by simp [Str.length]
  rw [e] at this
  omega
/-- f'..{v!r}' -/
theorem told_ok {env : Env} {q : Ps} {m : Str → Option Value} {v : Value} {Q : Value → Shared → Prop} (hn : s.heap.Ns env.locals m) (hv : m fld = some v) (hr : Rp v) (hml : msg.length ≤ 1000) (hk : env.scope.kind = .function) (hl : env.kindOf fld = some .local) (hd : (fld == ("__debug__" : Str)) = false)
    (h : ∀ u tk, Q u { s with toks := tk }) : wpAny (model prog w) A (eval (iArg fld msg q) env) Q E s := by
  unfold iArg
  have sm : ∀ n : Nat, n ≤ 200000 → n ≤ sizeLine := fun n hn => Nat.le_trans hn (by decide)
  rcases q.cp with ecv | ecv
  · rw [ecv]
    refine wpAny_JoinedStr ?_
    have e0 : evalEach [Expr.Constant (.str msg) 0 q.d, .FormattedValue (.Name fld q.e) 114 none q.f] env = [eval (.Constant (.str msg) 0 q.d) env, eval (.FormattedValue (.Name fld q.e) 114 none q.f) env] := by first | rfl | simp [evalEach]
    rw [e0]
    refine Calls.Constant_str ⟨msg, _, rfl, ?_, ?_⟩
    · rw [Str.length_append]
      exact sm _ (by show 0 + msg.length ≤ _; omega)
    refine wpAny_FormattedValue_repr (ESX.ldL hn hv ?_ hk hl hd)
    rcases hr with ⟨y, t, rfl, hz⟩ | ⟨i, t, rfl, hz⟩
    · have hz' : (reprText y).length ≤ sizeLine := sm _ (by omega)
      have out : ∀ (tk : Tok) (tt : Nat), ∃ (y' : Str) (t' : Tok), Value.str (reprText y) tk = .str y' t' ∧ (Str.empty ++ msg ++ y').length ≤ sizeLine ∧ Joins (model prog w) A E [] (Str.empty ++ msg ++ y') (fun out s₁ => out.length ≤ sizeLine ∧ Q (.str out s₁.toks) { s₁ with toks := s₁.toks + 1 }) { s with toks := tt } := fun tk tt => by
        have hl : (Str.empty ++ msg ++ reprText y).length ≤ sizeLine := by
          rw [Str.length_append, Str.length_append]
          exact sm _ (by show 0 + msg.length + _ ≤ _; omega)
        exact ⟨_, _, rfl, hl, hl, h _ _⟩
      exact pyReprObj_str (wpAny_formatField_str (out _ _) (out _ _) hz') hz'
    · have hz' := int_text_fits hz
      have ln : (toString i : Str).length ≤ 100000 := by
        have e := int_text_length_le (k := 1920) (by decide) hz
        show (Str.ofString (toString i)).length ≤ 100000
        rw [ofString_length]
        omega
      have out : ∀ (tk : Tok) (tt : Nat), ∃ (y' : Str) (t' : Tok), Value.str (toString i) tk = .str y' t' ∧ (Str.empty ++ msg ++ y').length ≤ sizeLine ∧ Joins (model prog w) A E [] (Str.empty ++ msg ++ y') (fun out s₁ => out.length ≤ sizeLine ∧ Q (.str out s₁.toks) { s₁ with toks := s₁.toks + 1 }) { s with toks := tt } := fun tk tt => by
        have hl : (Str.empty ++ msg ++ (toString i : Str)).length ≤ sizeLine := by
          rw [Str.length_append, Str.length_append]
          exact sm _ (by show 0 + msg.length + _ ≤ _; omega)
        exact ⟨_, _, rfl, hl, hl, h _ _⟩
      exact pyReprObj_int hz (wpAny_formatField_str (out _ _) (out _ _) hz')
  · rw [ecv]
    refine wpAny_JoinedStr ?_
    have e0 : evalEach [Expr.Constant (.str msg) 0 q.d, .FormattedValue (.Name fld q.e) (-1) none q.f] env = [eval (.Constant (.str msg) 0 q.d) env, eval (.FormattedValue (.Name fld q.e) (-1) none q.f) env] := by first | rfl | simp [evalEach]
    rw [e0]
    refine Calls.Constant_str ⟨msg, _, rfl, ?_, ?_⟩
    · rw [Str.length_append]
      exact sm _ (by show 0 + msg.length ≤ _; omega)
    refine wpAny_FormattedValue_plain (ESX.ldL hn hv ?_ hk hl hd)
    rcases hr with ⟨y, t, rfl, hz⟩ | ⟨i, t, rfl, hz⟩
    · have hy := reprText_ge y
      have hl : (Str.empty ++ msg ++ y).length ≤ sizeLine := by
        rw [Str.length_append, Str.length_append]
        exact sm _ (by show 0 + msg.length + _ ≤ _; omega)
      have out : ∀ (tk : Tok) (tt : Nat), ∃ (y' : Str) (t' : Tok), Value.str y tk = .str y' t' ∧ (Str.empty ++ msg ++ y').length ≤ sizeLine ∧ Joins (model prog w) A E [] (Str.empty ++ msg ++ y') (fun out s₁ => out.length ≤ sizeLine ∧ Q (.str out s₁.toks) { s₁ with toks := s₁.toks + 1 }) { s with toks := tt } := fun tk tt => ⟨_, _, rfl, hl, hl, h _ _⟩
      exact wpAny_formatField_str (out _ _) (out _ _) (sm _ (by omega))
    · have hz' := int_text_fits hz
      have ln : (toString i : Str).length ≤ 100000 := by
        have e := int_text_length_le (k := 1920) (by decide) hz
        show (Str.ofString (toString i)).length ≤ 100000
        rw [ofString_length]
        omega
      have hl : (Str.empty ++ msg ++ (toString i : Str)).length ≤ sizeLine := by
        rw [Str.length_append, Str.length_append]
        exact sm _ (by show 0 + msg.length + _ ≤ _; omega)
      exact wpAny_formatField_int hz ⟨_, _, rfl, hl, hl, h _ _⟩
end
section
variable {prog : Program} {w : World} {A : Around} {E : Value → Shared → Prop} {R : Result → Shared → Prop} {K : Frag} {mg mb : Str → Option Value} {nm fld msg : Str} {C fI : Addr}
theorem kept_but {K : Frag} {h h' : Heap} {x : Addr} (X : K.In h) (hx : K.lookup x = none) (k : ∀ b o, b ≠ x → h.get? b = some o → h'.get? b = some o) : K.In h' := fun a o e =>
  k a o (fun z => by rw [z, hx] at e; cases e) (X a o e)
theorem exc_init (T : ExTxt prog K mg nm fld msg C fI) {x t0 : Addr} {v : Value} {hp : Heap} {g : Array GenState} {dr : Drawn} {tk : Nat} {os : OsState} (X : K.In hp) (hlim : hp.NoLimit) (hG : hp.Ns mainGlobals mg) (hB : hp.Ns builtinsNs mb) (hbb : ∀ x : Str, x ≠ "__name__" → mb x = bootBuiltins x)
    (hx : hp.get? x = some (excO C t0)) (hnx : K.lookup x = none) (hroom : A.depth < recursionLimit) (hr : Rp v)
    (hq : ∀ h' tk' dx, InitEnd hp h' x C dx fld v → R (.ok (.ret .none)) ⟨h', g, dr, tk', os⟩) :
    codeAny (model prog w) A (.call (.ref fI) ⟨[.ref x, v], []⟩) R ⟨hp, g, dr, tk, os⟩ := by
  obtain ⟨oc, kV, doc, pm, ct, od, an, osl, qual, cda, cc, p1, p2, q, vs, file, tf, ccl, cl, cdd, cld, ccs, csl, ho, hcd, hcda, hvs, hfile, hcc, ⟨pl, hev⟩, hbind⟩ := T.fn
  obtain ⟨nm', q', N, bs, bm, sn, sub, ab, col, dd, k0, k1, k2, k3, k5, hC, hbm⟩ := T.cls
  have hcl : clsIn K C = some { name := nm', bases := bs, mro := .ref C :: bm, ns := N, qualname := q', hasDict := true, slotNames := sn, subclasses := sub, abstract := ab, collection := col, hasDel := false } := by unfold clsIn; rw [hC] <;> rfl
  have e1 : (iS fld).names.lookup fld = some .local := by
    show (iN fld).lookup fld = _
    unfold iN
    have z : (fld == PySem.Str.ofString "self") = false := by simpa using T.f1
    simp [List.lookup, z]
  have e2 : (iS fld).names.lookup ("self" : Str) = some .local := rfl
  have e3 : (iS fld).names.lookup ("__class__" : Str) = some .free := by
    show (iN fld).lookup ("__class__" : Str) = _
    unfold iN
    have z : (("__class__" : Str) == fld) = false := by simpa using Ne.symm T.f2
    have z2 : (("__class__" : Str) == PySem.Str.ofString "self") = false := by decide
    simp [List.lookup, z, z2]
  have e4 : (iS fld).names.lookup ("super" : Str) = some .globalImplicit := by
    show (iN fld).lookup ("super" : Str) = _
    unfold iN
    have z : (("super" : Str) == fld) = false := by simpa using Ne.symm T.f3
    have z2 : (("super" : Str) == PySem.Str.ofString "self") = false := by decide
    have z3 : (("super" : Str) == PySem.Str.ofString "__class__") = false := by decide
    simp [List.lookup, z, z2, z3]
  refine ks_codeAny_call_defAt (fd := ksFn "__init__" qual (iA fld p1 p2) (iB fld msg q) (iS fld) .none kV doc pm an (.ref cda) ct cc) (body := iB fld msg q) (binds := [("self", .ref x), (fld, v)]) hroom (X _ _ ho) rfl hlim (codeRec_of X hcd) rfl (BindsTo.of_eq (hbind _ _)) ?_ ?_ (fun h₁ hn k => ?_) rfl rfl rfl
  · intro y hy
    have hy : y ∈ iN fld := hy
    unfold iN at hy
    simp only [List.mem_cons, List.not_mem_nil, or_false] at hy
    rcases hy with rfl | rfl | rfl | rfl <;> exact fun z => nomatch z
  · intro y hy
    simp only [List.mem_cons, List.not_mem_nil, or_false] at hy
    rcases hy with rfl | rfl
    · exact e2
    · exact e1
  have X₁ : K.In h₁ := X.keeps k
  have hxL : hp.objs.size ≠ x := Nat.ne_of_gt (Heap.lt_size hx)
  have hx₁ := k _ _ hx
  have mS : List.lookup ("self" : Str) (List.reverse [(("self" : Str), Value.ref x), (fld, v)]) = some (.ref x) := by
    show List.lookup ("self" : Str) [(fld, v), (("self" : Str), Value.ref x)] = _
    have z : (("self" : Str) == fld) = false := by simpa using Ne.symm T.f1
    simp [List.lookup, z]
  have mF : List.lookup fld (List.reverse [(("self" : Str), Value.ref x), (fld, v)]) = some v := by
    show List.lookup fld [(fld, v), (("self" : Str), Value.ref x)] = _
    simp [List.lookup]
  refine ks_wpAt_execs_cons (ks_wpAt_Expr_any (ks_wpAt_MethodCall (o := iSup q) (name := "__init__") (he := hev _) ?_))
  have oC := X₁ _ _ hC
  refine ks_wpAt_super_base (env := callEnv (ksFn "__init__" qual (iA fld p1 p2) (iB fld msg q) (iS fld) .none kV doc pm an (.ref cda) ct cc) hp.objs.size fI) e4 e3 (by decide) rfl (X₁ _ _ ho) rfl rfl rfl (X₁ _ _ hcda) rfl hvs hfile T.htop ?_
  refine ks_loadName_global rfl e4 (loadGlobal_builtin (hG.keeps k) T.hsup (hB.keeps k) ((hbb _ (by decide +kernel)).trans (by first | boot_by_name | rfl | kernel_rfl)) ⟨rfl, ?_⟩)
  refine wpAny_loadName_free rfl e3 rfl ⟨_, X₁ _ _ hcc, rfl⟩ ?_
  refine wpAny_loadName_local rfl e2 hn mS ?_
  refine ks_wpAny_isType_cls oC rfl ⟨rfl, ?_⟩
  refine ks_wpAny_call_super oC rfl hx₁ rfl (fun c e => (nomatch e)) (looks_mroIn X₁ T.mroS) (fun h₂ hso k₂ => ?_)
  have X₂ : K.In h₂ := X₁.keeps k₂
  have hx₂ := k₂ _ _ hx₁
  have hsup : alongIn K "__init__" (((Value.ref C :: bm).dropWhile (· != .ref C)).drop 1) = some (some (.builtin "ValueError.__init__")) := by
    have z := T.sup
    unfold ks_superIn at z
    rw [hcl] at z
    exact z
  have I₂ : InstAt h₂ x (excO C t0) C none := ⟨hx₂, rfl, rfl, trivial⟩
  refine kxs_getMethod kxs_ValueError hso (looks_opaque X₂ T.opq) (l₀ := .ref C :: bm) ?_ rfl X₂ hsup (I₂.type.andThen (looks_subIn X₂ T.subV)) (ks_ne X₂ I₂ hcl) (by decide) ?_
  · exact fun A Q E s k q => wpAny_bind ((looks_clsIn X₂ hcl) A _ E s k (wpAny_pure q))
  have hu : (h₂.push (kxs_mw "ValueError.__init__" x)).get? h₂.objs.size = some (kxs_mw "ValueError.__init__" x) := Heap.get?_push_at rfl rfl
  have k₃ : ∀ b o, h₂.get? b = some o → (h₂.push (kxs_mw "ValueError.__init__" x)).get? b = some o := fun b o e => Heap.get?_push_of_some _ e
  have X₃ := X₂.keeps k₃
  have hn₃ : (h₂.push (kxs_mw "ValueError.__init__" x)).Ns hp.objs.size _ := (hn.keeps k₂).keeps k₃
  refine kxs_callWith (i := "ValueError.__init__") (x := x) rfl (evalArgs_plain ?_)
  show wpAny _ _ (spliced ((false, eval (iArg fld msg q) _) :: backTo q.h (starEach [] _))) _ _ _
  refine Calls.spliced_cons (told_ok hn₃ mF hr T.ml rfl e1 T.f4 fun u tk' => Calls.spliced_nil ⟨hu, ?_⟩)
  show wpAny _ _ (call (.ref h₂.objs.size) [u]) _ _ _
  refine call_mw (X₃ _ _ hC) (k₃ _ _ hx₂) hu (one_size _) fun h₄ t1 k₄ sz₄ hx₄ => ?_
  show wpAt _ _ _ (execs _ _) _ _ _
  refine wpAt_of_wpAny ?_
  have X₄ : K.In h₄ := kept_but X₃ hnx k₄
  have hn₄ : h₄.Ns hp.objs.size (fun x_1 => List.lookup x_1 (List.reverse [(("self" : Str), Value.ref x), (fld, v)])) := by
    obtain ⟨oL, es, ep, hL, r⟩ := hn₃
    exact ⟨oL, es, ep, k₄ _ _ hxL hL, r⟩
  refine wpAny_execs_cons (plainObj_wpAny_Assign_Attribute ?_)
  refine ESX.ldL hn₄ mF (ESX.ldL hn₄ mS ?_ rfl e2) rfl e1 T.f4
  refine set_plain X₄ (ox := excO C t1) (od := none) ⟨hx₄, rfl, rfl, trivial⟩ T.sa ?_
  refine exc_osa X₄ hx₄ hcl (show refsVE (.ref C :: bm) = true from hbm) rfl T.noN (fun h₅ tk₅ dx k₅ dn dne hx₅ hn₅ => ?_)
  show wpAny _ _ (execs _ _) _ _ _
  have z : hp.objs.size < h₄.objs.size := hn₄.lt
  exact wpAny_execs_nil (hq h₅ tk₅ dx ⟨fun b o hb e => k₅ b o hb (k₄ b o hb (k₃ b o (k₂ b o (k b o e)))), ⟨t1, hx₅⟩, Nat.le_of_lt (Nat.lt_of_lt_of_le z dn), dne, hn₅⟩)
end
section
variable {prog : Program} {w : World} {A : Around} {R : Result → Shared → Prop} {K : Frag} {mg mb : Str → Option Value} {nm fld msg : Str} {C fI : Addr}
theorem exc_made (T : ExTxt prog K mg nm fld msg C fI) {v : Value} {hp : Heap} {g : Array GenState} {dr : Drawn} {tk : Nat} {os : OsState} (X : K.In hp) (hlim : hp.NoLimit) (hG : hp.Ns mainGlobals mg) (hB : hp.Ns builtinsNs mb) (hbb : ∀ x : Str, x ≠ "__name__" → mb x = bootBuiltins x) (hroom : A.depth + 1 < recursionLimit) (hr : Rp v)
    (hq : ∀ h' tk' e d, OwnMade hp h' e C d fld v → R (.ok (.ret (.ref e))) ⟨h', g, dr, tk', os⟩) :
    codeAny (model prog w) A (.call (.ref C) ⟨[v], []⟩) R ⟨hp, g, dr, tk, os⟩ := by
  obtain ⟨nm', q', N, bs, bm, sn, sub, ab, col, dd, k0, k1, k2, k3, k5, hC, hbm⟩ := T.cls
  have k : ∀ b o, hp.get? b = some o → ((hp.push (kdv_tup [v])).push (excO C hp.objs.size)).get? b = some o := fun b o e => Heap.get?_push_of_some _ (Heap.get?_push_of_some _ e)
  have hget : ((hp.push (kdv_tup [v])).push (excO C hp.objs.size)).get? (hp.objs.size + 1) = some (excO C hp.objs.size) := by heap_get
  have hnx : K.lookup (hp.objs.size + 1) = none := by
    cases e : K.lookup (hp.objs.size + 1) with
    | none => rfl
    | some o =>
      have z : hp.get? (hp.objs.size + 1) = some o := X _ _ e
      exact absurd (Nat.lt_of_succ_lt (Heap.lt_size z)) (Nat.lt_irrefl _)
  refine call_own F.excBase_ValueError (fun X => refsVE_contains X bm hbm) (X _ _ hC) (looks_findIn X T.iC) (fun self => bind_fn X self T.tC) (one_size v) ?_
  refine exc_init (tk := tk) T (X.keeps k) (hlim.keeps k) (hG.keeps k) (hB.keeps k) hbb hget hnx ?_ hr fun h' tk' dx ⟨k', ⟨t1, hx⟩, dn, dne, hns⟩ => ?_
  · show A.depth + 1 < recursionLimit
    exact hroom
  · have old : ∀ b o, hp.get? b = some o → h'.get? b = some o := fun b o e => k' b o (Nat.ne_of_lt (Nat.lt_succ_of_lt (Heap.lt_size e))) (k b o e)
    have z : hp.objs.size + 1 + 1 ≤ dx := by
      first
        | (simpa only [Heap.size_push] using dn)
        | exact dn
        | (have q := dn; rw [Heap.size_push, Heap.size_push] at q; exact q)
    exact ⟨rfl, hq h' tk' (hp.objs.size + 1) dx ⟨old, Nat.le_succ _, ⟨_, _, hx, rfl, rfl, rfl, rfl⟩, Nat.le_trans (Nat.le_trans (Nat.le_succ _) (Nat.le_succ _)) z, dne, hns⟩⟩
end
end XExc
end PySem
namespace XL
open PySem PySem.Spec PyProof.Rows L2
/-! ### the error, over the abstract heap -/
def RpV (v : V) : Prop := (∃ y : Str, v = .str y ∧ (reprText y).length ≤ 100000) ∨ ∃ i : Int, v = .int i ∧ i.natAbs.log2 < 1920
theorem RpV.rp {v : V} {u : Value} (h : RpV v) (r : RelV v u) : PySem.XExc.Rp u := by
  rcases h with ⟨y, rfl, hz⟩ | ⟨i, rfl, hz⟩
  · obtain ⟨t, rfl⟩ := r
    exact .inl ⟨y, t, rfl, hz⟩
  · obtain ⟨t, rfl⟩ := r
    exact .inr ⟨i, t, rfl, hz⟩
theorem relO_one {fld : Str} {v : V} {v' : Value} (r : RelV v v') (f : Str) : RelO (List.lookup f [(fld, v)]) (if f = fld then some v' else none) := by
  by_cases hw : f = fld
  · subst hw
    rw [if_pos rfl]
    have q : List.lookup f [(f, v)] = some v := by simp [List.lookup]
    rw [q]
    exact r
  · rw [if_neg hw]
    have qw : (f == fld) = false := by simpa using hw
    have q2 : List.lookup f [(fld, v)] = none := by simp [List.lookup, qw]
    rw [q2]
    trivial
section
variable {X : Cx} {C fI : Addr} {nm fld msg : Str}
def tMkX (C : Addr) (fld : Str) (ta : TA) : L2.St → Hp → XK → Prop := fun σ H Q => ta σ H fun vs H1 => ∃ v, vs = [v] ∧ RpV v ∧ ∀ d, H1 d = none → Q (.ref C) (some d) (upd H1 d (.xd [(fld, v)]))
theorem pmk_x {a : Expr} {ta : TA} {p pos : Pos} {k : Nat} (T : PySem.XExc.ExTxt X.prog X.K X.mg nm fld msg C fI) (hr : Room (k + 1) X.A) (ha : PA X [a] ta) (hg : Gl X nm := by rfl) (hd : (nm == ("__debug__" : Str)) = false := by decide)
    (he : starEach (a :: []) X.env = (false, eval a X.env) :: starEach [] X.env := by rfl) (hpl : (backTo pos (starEach [] X.env)).any (·.1) = false := by rfl) :
    PMk X (.Call (.Name nm p) [a] [] pos) (tMkX C fld ta) := by
  intro pins s σ H Q I h
  refine wpAny_Call_Name_kw (ld_glob I hg T.gC ?_ hd)
  refine PySem.W.callWith_K (h₀ := X.base) I.ok.mod.kin T.kC (thn (ha.run pos pins s σ H _ I h) fun us s1 hh => ?_) he hpl
  obtain ⟨vs, H1, I1, r1, v, ev, rp, q1⟩ := hh
  subst ev
  refine ⟨I1.kIn, ?_⟩
  cases r1 with
  | cons rv rn =>
    rename_i v' us'
    cases rn
    show wpAny _ _ (call (.ref C) [v']) _ _ _
    have hlim := I1.nolimit
    have hG := I1.mod.glob.keeps I1.bk
    obtain ⟨mb, hB, hbb⟩ := I1.mod.blt
    have hB := hB.keeps I1.bk
    obtain ⟨hp, g, dr, tk, os⟩ := s1
    refine wpAny_call (PySem.XExc.exc_made T I1.kIn hlim hG hB hbb (by have := hr.dp; omega) (rp.rp rv) fun h' tk' e d M => ?_)
    show MkP X pins σ Q (.ref e) ⟨h', g, dr, tk', os⟩
    obtain ⟨oe, fv, hoe, hc, hd, hdat, h1⟩ := M.obj
    have hns := M.ns
    obtain ⟨G', g1, g2⟩ := restrict h' fun b => decide (b ≠ e)
    have gk : ∀ b, b ≠ e → G'.get? b = h'.get? b := fun b hb => g1 b (decide_eq_true hb)
    have ge : G'.get? e = none := g2 e (by simp)
    have old : ∀ b o, hp.get? b = some o → G'.get? b = some o := fun b o q => (gk b (Nat.ne_of_lt (Nat.lt_of_lt_of_le (Heap.lt_size q) M.new))).trans (M.keep b o q)
    have ob : ObjOk X.prog X.w (upd H1 d (.xd [(fld, v)])) G' d (.xd [(fld, v)]) :=
      ⟨_, hns.at (fun o q => (gk d M.dne).trans q), fun f => relO_one rv f⟩
    have J : Inv X pins σ (upd H1 d (.xd [(fld, v)])) ⟨G', g, dr, tk', os⟩ := I1.laid (t' := tk') old M.dbig ob
    refine ⟨e, oe, fv, ⟨G', g, dr, tk', os⟩, _, .ref C, some d, rfl, J, fun b o q => ?_, ge, hoe, ⟨hc, hd⟩, hdat, h1, ?_, rfl, I1.bare, raises_own T.exC T.tyC, q1 d (I1.hok.fresh M.dbig)⟩
    · by_cases hb : b = e
      · have q' : G'.get? b = some o := q
        rw [hb, ge] at q'; cases q'
      · exact (gk b hb).symm.trans q
    · rw [upd_ne (Ne.symm M.dne)]
      exact I1.hok.fresh M.new
def tRaiseX (C : Addr) (fld : Str) (W : WX) (ta : TA) : TS := fun _ σ H => tMkX C fld ta σ H fun cls d H' => W cls d σ H'
theorem ps_raiseX {a : Expr} {ta : TA} {W : WX} {p pos pos2 : Pos} {k : Nat} (hc : X.calm = true) (T : PySem.XExc.ExTxt X.prog X.K X.mg nm fld msg C fI) (hr : Room (k + 1) X.A) (tk : Takes X W) (ha : PA X [a] ta) (hg : Gl X nm := by rfl) (hd : (nm == ("__debug__" : Str)) = false := by decide)
    (he : starEach (a :: []) X.env = (false, eval a X.env) :: starEach [] X.env := by rfl) (hpl : (backTo pos (starEach [] X.env)).any (·.1) = false := by rfl) :
    PS X (.Raise (some (.Call (.Name nm p) [a] [] pos)) none pos2) (tRaiseX C fld W ta) := ps_raise hc tk (pmk_x T hr ha hg hd he hpl)
end
/-! ### isinstance(e, c), isinstance(e, (c, ..)) of a caught error -/
section
variable {X : Cx} {a : Addr} {oe : Obj} {cls : Value} {d : Option Addr} {pn : List (Addr × Obj)}
inductive ClsRs : List V → List Value → Prop where
  | nil : ClsRs [] []
  | cons {c : Addr} {cs : List V} {us : List Value} (h : ClsRs cs us) : ClsRs (.ref c :: cs) (.ref c :: us)
theorem ClsRs.eq : ∀ {cs : List V} {us : List Value}, ClsRs cs us → ∀ {ws : List Value}, Vals cs ws → ws = us
  | _, _, .nil, _, .nil => rfl
  | _, _, .cons h, _, .cons r rs => by
    cases r
    rw [h.eq rs]
def rIsX (K : PySem.W.Frag) (cls : Value) (d : Option Addr) (a : Addr) : List V → Hp → VK → Prop := fun xs H Q => ∃ (D dd : Addr) (fs : List (Str × V)) (b : Bool), cls = .ref D ∧ d = some dd ∧ H dd = some (.xd fs) ∧ ExcC K D ∧
  ((∃ (c : V) (cv : Value), xs = [.ref a, c] ∧ (∀ u, RelV c u → u = cv) ∧ PySem.W.kitOne K (.ref D) cv = some b) ∨ ∃ (p : Addr) (cs : List V) (us : List Value), xs = [.ref a, .ref p] ∧ H p = some (.tup cs) ∧ ClsRs cs us ∧ PySem.W.kitAny K (.ref D) us = some b) ∧ Q (.bl b) H
theorem call_isX (hz : Zc cls d oe) (hf : ∃ vs, oe.data = .fields vs) : CallR (X.suite a ((a, oe) :: pn)) (.builtin "isinstance") (rIsX X.K cls d a) := by
  intro pins s σ H xs us Q I r h
  obtain ⟨D, dd, fs, b, rfl, rfl, hd, C, hcs, q⟩ := h
  obtain ⟨hget, _⟩ := I.pin (a, oe) (List.mem_append.mpr (.inl List.mem_cons_self))
  obtain ⟨vs, hv⟩ := hf
  have hx : ObjOk X.prog X.w H s.heap dd (.xd fs) := I.hok dd _ hd
  obtain ⟨mA, hns, _⟩ := hx
  obtain ⟨od, ho, _⟩ := lookIn_ns hns
  have J : PySem.W.InstAt s.heap a oe D (some od) := ⟨hget, hz.1, by unfold PySem.W.notCls; rw [hv] <;> rfl, by rw [hz.2]; exact ho⟩
  have cl : (PySem.W.clsIn X.K D).isSome = true := by
    obtain ⟨cd, hc, _⟩ := PySem.W.any_some C.hd
    rw [hc]
    rfl
  have Z := PySem.W.kitx_exc (x := a) (ox := oe) (od := some od) cl C.hg C.hk C.hs C.ha C.hn C.ht C.hm
  rcases hcs with ⟨c, cv, rfl, hcv, e⟩ | ⟨p, cs, us2, rfl, hp, hc, e⟩
  · cases r with
    | cons rx rr =>
      cases rr with
      | cons rt rr =>
        cases rr
        cases rx
        have ec := hcv _ rt
        subst ec
        exact PySem.W.kia_one Z I.kIn J e (fun z => nomatch z) fun tk => ⟨.bl b, H, I.kept (t' := tk) fun _ _ z => z, rfl, q⟩
  · cases r with
    | cons rx rr =>
      cases rr with
      | cons rt rr =>
        cases rr
        cases rx
        cases rt
        obtain ⟨_, its, rv, o, h1, h2, n, h3⟩ := (show ObjOk X.prog X.w H s.heap p (.tup cs) from I.hok p _ hp)
        have ei := hc.eq rv
        subst ei
        obtain ⟨oc, od', oda, osl⟩ := o
        dsimp only at h2 h3
        subst h2 h3
        exact PySem.W.kia_tup Z I.kIn J h1 e (fun z => nomatch z) fun tk => ⟨.bl b, H, I.kept (t' := tk) fun _ _ z => z, rfl, q⟩
end
/-! ### own [ ] and [ ] = within a try -/
section
variable {X : Cx} {CX : CXT} {C f : Addr} {fd : FuncData} {ps : List Str} {sp : Sp} {E : L2.St → XK} {n : Nat} {o i e : Expr} {to ti te : TE} {pos pos' : Pos}
def tIxOS (C : Addr) (sp : Sp) (E : L2.St → XK) (to ti : TE) : TE := fun σ H Q => to σ H fun x H1 => ti σ H1 fun y H2 => ∃ a dx fs, x = .ref a ∧ H2 a = some (.ins C dx fs) ∧ sp [.ref a, y] H2 Q (E σ)
theorem pe_ixOS (ho : PE X o to) (hi : PE X i ti) (F : FnOk X.prog X.w X.K X.mg X.base CX n f fd ps sp) (hs : PySem.W.findIn X.K (.ref C) "__getitem__" = some (some (.ref f))) (hf : PySem.W.fnIn X.K f = true) (hfn : PySem.W.isFn X.K (.ref f) = true)
    (hb : Binds X.K fd ps []) (hx : ∀ σ, PassesAt CX X σ (E σ)) (hr : Room (n + 1) X.A) (hsl : ∀ x v, subscripted i true (.ref x) v = runValue (.builtin "lifetime.subscript" ⟨[.ref x, v], []⟩) := by intro _ _; with_unfolding_all rfl) :
    PE X (.Subscript o i pos) (tIxOS C sp E to ti) := by
  refine ⟨fun pins s σ H Q I h => ?_⟩
  refine Subscript_ (thn (ho.run pins s σ H _ I h) fun v s1 ⟨x, H1, I1, r1, q1⟩ => thn (hi.run pins s1 σ H1 _ I1 q1) fun u s2 ⟨y, H2, I2, r2, q2⟩ => ?_)
  obtain ⟨a, dx, fs, rfl, ha, hsp⟩ := q2
  cases r1
  obtain ⟨mA, J, _⟩ := ins_get I2.hok ha
  obtain ⟨od, J, _⟩ := J.look
  obtain ⟨m, hF⟩ := I2.fr
  refine PySem.W.sub_K hF I2.ok.mod.kin J hs hf hfn ?_ (hsl _ _)
  have hl : ([Value.ref a, u] ++ []).length = ps.length := F.len _ _ _ _ hsp
  refine wpAny_call (codeAny_mono (F.run X.A.in1 X.stack s2 H2 ⟨[.ref a, u], []⟩ [.ref a, u] [.ref a, y] Q (E σ) hr.in1 I2.env0.in1 (hb s2 [.ref a, u] I2.kIn hl) (.cons rfl (.cons r2 .nil)) hsp) fun r s' hq => ?_)
  cases r with
  | error e => exact hx σ pins H2 s2 e s' I2 hq
  | ok fl =>
    cases fl with
    | ret u => exact I2.after hq
    | next => exact False.elim hq
    | brk => exact False.elim hq
    | cont => exact False.elim hq
def gSubS (C : Addr) (sp : Sp) (E : L2.St → XK) (to ti : TE) : TG := fun v σ H Q => to σ H fun x H1 => ti σ H1 fun y H2 => ∃ a dx fs, x = .ref a ∧ H2 a = some (.ins C dx fs) ∧ sp [.ref a, y, v] H2 (fun _ H' => Q σ H') (E σ)
theorem pg_subOS (ho : PE X o to) (hi : PE X i ti) (F : FnOk X.prog X.w X.K X.mg X.base CX n f fd ps sp) (hq : PySem.W.noSeq X.K C = true) (hs : PySem.W.findIn X.K (.ref C) "__setitem__" = some (some (.ref f))) (hfn : PySem.W.isFn X.K (.ref f) = true)
    (hb : Binds X.K fd ps []) (hx : ∀ σ, PassesAt CX X σ (E σ)) (hr : Room n X.A)
    (ha : ∀ v, assign (.Subscript o i pos) X.env v = (do
      let ov ← holding [v] (eval o X.env)
      let iv ← holding [v, ov] (eval i X.env)
      standAt pos
      holding [v, ov, iv] (setItem ov iv v)
      release [v, ov, iv] []) := by intro _; rfl) : PG X (.Subscript o i pos) (gSubS C sp E to ti) := by
  refine ⟨fun pins s σ H v u Q I r h => ?_⟩
  rw [ha]
  refine wpAny_bind (wpAny_holding (thn (ho.run pins s σ H _ I h) fun ov s1 ⟨x, H1, I1, r1, q1⟩ => ?_))
  refine wpAny_bind (wpAny_holding (thn (hi.run pins s1 σ H1 _ I1 q1) fun iv s2 ⟨y, H2, I2, r2, q2⟩ => ?_))
  obtain ⟨a, dx, fs, rfl, ha2, hsp⟩ := q2
  cases r1
  obtain ⟨mA, J, _⟩ := ins_get I2.hok ha2
  obtain ⟨od, J, _⟩ := J.look
  obtain ⟨m, hF⟩ := I2.fr
  refine wpAny_bind (wpAny_standAt (wpAny_bind (wpAny_holding (PySem.W.ksp_setItem hF I2.ok.mod.kin J hq hs hfn ?_))))
  refine wpAny_mono (run_fnS (us := [.ref a, iv, u]) (vs := [.ref a, y, v]) (E := E) F hr hb (hx σ) I2 (.cons rfl (.cons r2 (.cons r .nil))) hsp) (fun r s' q => ?_) fun _ _ e => e
  obtain ⟨z, H', I', rz, q⟩ := q
  exact wpAny_release ⟨σ, H', I', q⟩
end
end XL
set_option Elab.async false
set_option linter.all false
set_option maxRecDepth 100000
set_option maxHeartbeats 4000000
/-! XOwnIt: list(o), o an object whose own __iter__ hands on iter(t), t a tuple. -/
namespace XL
open PySem PySem.Spec PyProof.Rows L2
/-- an iterator over the tuple at t, the next place is i -/
def ItT (t it : Addr) (i : Nat) : HO := .ext fun h => IsTupIter h it t i
/-- .. that has ended -/
def ItTE (it : Addr) : HO := .ext fun h => ∃ o, h.get? it = some o
theorem itT_ok {P : Program} {w : World} {H : Hp} {h : Heap} {t it : Addr} {i : Nat} (e : IsTupIter h it t i) : ObjOk P w H h it (ItT t it i) := by
  obtain ⟨o, h1, h2⟩ := e
  exact ⟨⟨o, h1, h2⟩, ⟨_, h1⟩, fun g1 g2 ⟨o', q1, q2⟩ k => ⟨o', k _ q1, q2⟩⟩
theorem itTE_ok {P : Program} {w : World} {H : Hp} {h : Heap} {it : Addr} {o : Obj} (e : h.get? it = some o) : ObjOk P w H h it (ItTE it) := ⟨⟨o, e⟩, ⟨_, e⟩, fun g1 g2 ⟨o', q1⟩ k => ⟨o', k _ q1⟩⟩
section
variable {X : Cx} {pins : List (Addr × Obj)} {σ : L2.St} {H : Hp} {s : Shared}
theorem itT_get {t it : Addr} {i : Nat} (I : Inv X pins σ H s) (e : H it = some (ItT t it i)) : IsTupIter s.heap it t i := (I.hok it _ e).1
theorem call_iter_tup {M : Program} {w : World} {A : Around} {E : Value → Shared → Prop} {s : Shared} {t : Addr} {items : Array Value} {Q : Value → Shared → Prop} (ht : IsTup s.heap t items)
    (h : Q (.ref s.heap.objs.size) { s with heap := s.heap.push { cls := .type "tuple_iterator", data := .fields #[.ref t, .int 0 0] } }) : wpAny (model M w) A (call (.builtin "iter") [.ref t]) Q E s := by
  refine Calls.call_function_entry (by decide +kernel) (by decide +kernel) PySem.W.kdk_entry_iter (PySem.W.kdk_args_iter _) ?_
  unfold Builtin.«iter»
  refine wpAny_bind (m := someArgs "iter" 1 2 _) (wpAny_of_eq (a := [Value.ref t]) (by first | rfl | kernel_rfl!) ?_)
  show wpAny _ _ (pyIter (.ref t) >>= _) _ _ _
  refine wpAny_bind (iter_tuple ht ?_)
  exact wpAny_pure ⟨_, rfl, h⟩
/-- iter(t) -/
def rIterT (K : PySem.W.Frag) : List V → Hp → VK → Prop := fun xs H Q => ∃ (t : Addr) (zs : List V), xs = [.ref t] ∧ SqT K H t zs ∧ ∀ it, H it = none → Q (.ref it) (upd H it (ItT t it 0))
theorem call_iterT : CallR X (.builtin "iter") (rIterT X.K) := by
  intro pins s σ H xs us Q I r h
  obtain ⟨t, zs, rfl, hq, q⟩ := h
  obtain rfl := Vals.ref1 r
  obtain ⟨its, rv, pl, hz⟩ := I.tuple hq
  refine call_iter_tup pl ?_
  exact ⟨.ref s.heap.objs.size, _, I.laid (t' := s.toks) (fun b u e => Heap.get?_push_of_some _ e) (Nat.le_refl _) (itT_ok ⟨_, Heap.get?_push_size _ rfl, rfl, rfl⟩), rfl, q _ (I.hok.fresh (Nat.le_refl _))⟩
theorem call_iterTK (K : PySem.W.Frag) (h : X.K = K := by rfl) : CallR X (.builtin "iter") (rIterT K) := h ▸ call_iterT
theorem sqT_upd {K : PySem.W.Frag} {H : Hp} {t x : Addr} {zs : List V} {o : HO} (h : SqT K H t zs) (hx : ∀ o' xs, H x ≠ some (.tup xs) ∧ H x ≠ some (.frz o' (.tup xs))) : SqT K (upd H x o) t zs := by
  rcases h with (h | ⟨ob, h⟩) | h
  · have ne : t ≠ x := fun z => (hx default zs).1 (by rw [← z]; exact h)
    exact .inl (.inl (by rw [upd_ne ne]; exact h))
  · have ne : t ≠ x := fun z => (hx ob zs).2 (by rw [← z]; exact h)
    exact .inl (.inr ⟨ob, by rw [upd_ne ne]; exact h⟩)
  · exact .inr h
/-- the end of a tuple: the iterator itself stays there -/
theorem next_tup_end {P : Program} {w : World} {A : Around} {E : Value → Shared → Prop} {s : Shared} {it t : Addr} {i : Nat} {items : Array Value} {Q : Option Value → Shared → Prop} (hh : A.handled = none)
    (hit : IsTupIter s.heap it t i) (ht : IsTup s.heap t items) (hx : items[i]? = none)
    (hQ : ∀ h', Heap.ExtBut it s.heap h' → (∃ o, h'.get? it = some o) → Q none { s with heap := h' }) : wpAny (model P w) A (pyNext (.ref it)) Q E s := by
  obtain ⟨o, ho, hc, hd⟩ := id hit
  obtain ⟨ol, hol, _, nl, hdl⟩ := ht
  unfold pyNext
  refine wpAny_bind (wpAny_attempt (wpAny_callSpecial?_slot (name := Str.ofString "__next__") hit.typeIs slot_tupleiter_next (wpAny_call_entry slot_tupleiter_next hit.typeIs entry_tupleiter_next ?_ (args_tupleiter_next _))))
  show wpAny _ _ (field (.ref it) 0 >>= _) _ _ s
  refine wpAny_bind (wpAny_field ho hd (x := .ref t) rfl (PySem.W.KFB.if_not rfl ?_))
  show wpAny _ _ (field (.ref it) 1 >>= _) _ _ s
  refine wpAny_bind (wpAny_field ho hd (x := .int i 0) rfl ?_)
  show wpAny _ _ (seqItems? (.ref t) >>= _) _ _ s
  refine wpAny_bind (wpAny_seqItems hol hdl ?_)
  simp only [Int.toNat_natCast, hx]
  refine wpAny_bind (wpAny_rule (wpAny_bind (wpAny_setField ho hd (by simp) ?_)))
  show wpAny _ _ (newExc (.type "StopIteration") [] >>= _) _ _ _
  refine wpAny_bind ?_
  simp only [newExc, newTuple]
  refine wpAny_bind (wpAny_newObj_type ?_ (by size_fits))
  refine wpAny_bind (m := firstArgMember _ _) (wpAny_of_eq (a := Value.none) (by first | rfl | (simp only [firstArgMember]; rfl)) ?_)
  refine wpAny_newObj_type ?_ (by size_fits)
  simp only [raiseNew]
  refine wpAny_bind (wpAny_handled ?_)
  first | rw [show A.in1.handled = none from hh] | rw [hh]
  refine wpAny_bind (wpAny_pure (wpAny_throw ?_))
  refine wpAny_bind (wpAny_isInstance (T := "StopIteration") (b := true) ⟨_, Heap.get?_push_size _ rfl, rfl⟩ isSubtype_stop ?_)
  exact wpAny_pure (hQ _ (((Heap.SameBut.update ..).extBut.push _).push _) ⟨_, Heap.get?_push_of_some _ (Heap.get?_push_of_some _ (Heap.get?_update_self _ ho (Obj.isFreed_of_fields (Obj.data_mapFields hd _))))⟩)
/-- the loop that fills the list at q -/
theorem loop_tup {A1 : Around} {Rs : Result → Shared → Prop} {q it t : Addr} {zs : List V} (hd : A1.in1.handled = none) (hne : q ≠ it) :
    ∀ (k i : Nat) (H : Hp) (s : Shared), zs.length - i = k → i ≤ zs.length → Inv X pins σ H s → H it = some (ItT t it i) → SqT X.K H t zs → H q = some (.lst (zs.take i)) →
      (∀ s', Inv X pins σ (upd (upd H it (ItTE it)) q (.lst zs)) s' → Rs (.ok (.ret .none)) s') → codeAny (model X.prog X.w) A1 (.builtin "list.extend.loop" ⟨[.ref q, .ref it, .none], []⟩) Rs s := by
  intro k
  induction k with
  | zero =>
    intro i H s hk hi I hit ht hq hR
    obtain ⟨its, rv, pl, hz⟩ := I.tuple ht
    have hin : zs.length = its.length := rv.length
    have mu : Mut (H it) := by rw [hit]; exact True.intro
    refine codeAny_builtin PySem.F.entry_extend_loop ?_
    rw [Around.under_plainId PySem.F.plain_extend_loop _]
    show wpAny _ A1.in1 (pyNext (.ref it) >>= _) _ _ s
    have ei : i = zs.length := by omega
    refine wpAny_bind (next_tup_end hd (itT_get I hit) pl (by rw [List.getElem?_toArray]; exact List.getElem?_eq_none (by omega)) fun h' eb ⟨o, ho⟩ => wpAny_pure ?_)
    have I2 : Inv X pins σ (upd H it (ItTE it)) { s with heap := h' } := I.write (x := it) (e := it) (t' := s.toks) mu (.inl rfl) (fun b o nb z => eb b o nb z) ⟨_, ho⟩ (itTE_ok ho)
    refine hR _ ?_
    have e : upd (upd H it (ItTE it)) q (.lst zs) = upd H it (ItTE it) := by
      funext b
      by_cases hb : b = q
      · rw [hb, upd_same, upd_ne hne, hq, ei, List.take_length]
      · rw [upd_ne hb]
    rw [e]
    exact I2
  | succ k ih =>
    intro i H s hk hi I hit ht hq hR
    obtain ⟨its, rv, pl, hz⟩ := I.tuple ht
    have hin : zs.length = its.length := rv.length
    have mu : Mut (H it) := by rw [hit]; exact True.intro
    have hlt : i < zs.length := by omega
    have hzi := List.getElem?_eq_getElem hlt
    obtain ⟨u, hu, ru⟩ := rv.get hzi
    refine codeAny_builtin PySem.F.entry_extend_loop ?_
    rw [Around.under_plainId PySem.F.plain_extend_loop _]
    show wpAny _ A1.in1 (pyNext (.ref it) >>= _) _ _ s
    refine wpAny_bind (next_tuple_item (itT_get I hit) pl (by rw [List.getElem?_toArray]; exact hu) fun h' hit' sb => ?_)
    obtain ⟨o, ho, _⟩ := id hit'
    have I2 : Inv X pins σ (upd H it (ItT t it (i + 1))) { s with heap := h' } := I.write (x := it) (e := it) (t' := s.toks) mu (.inl rfl) (fun b o nb z => (sb.2 b nb).trans z) ⟨_, ho⟩ (itT_ok hit')
    have hq2 : upd H it (ItT t it (i + 1)) q = some (.lst (zs.take i)) := by rw [upd_ne hne]; exact hq
    show wpAny _ A1.in1 (updateSeq q (·.push u) >>= _) _ _ _
    obtain ⟨z, its2, c, r2, hl, e⟩ := I2.lstM hq2
    have l2 : its2.length ≤ 16777215 := by
      rw [← hl, List.length_take]
      have := hz
      rw [sizeLine_eq] at this
      omega
    refine wpAny_bind (wpAny_updateSeq e rfl (wpAny_pure ⟨plainId_quiet PySem.F.plain_extend_loop _, ?_⟩) (by rw [List.size_toArray, sizeLine_eq]; omega) (by show (its2.toArray.push u).size ≤ sizeLine + 1; rw [Array.size_push, List.size_toArray, sizeLine_eq]; omega))
    have I3 := I2.lset (f := (·.push u)) (its' := its2 ++ [u]) (ys := zs.take i ++ [zs[i]]) (t' := s.toks) hq2 e (by simp) (r2.append (.cons ru .nil)) (by rw [List.length_append, List.length_singleton, List.length_take, sizeLine_eq]; rw [sizeLine_eq] at hz; omega)
    refine ih (i + 1) _ _ (by omega) (by omega) I3 ?_ ?_ ?_ fun s' I4 => hR s' ?_
    · rw [upd_ne (Ne.symm hne), upd_same]
    · exact sqT_upd (sqT_upd ht fun o' xs => ⟨by rw [hit]; exact fun z => (nomatch z), by rw [hit]; exact fun z => (nomatch z)⟩) fun o' xs => ⟨by rw [hq2]; exact fun z => (nomatch z), by rw [hq2]; exact fun z => (nomatch z)⟩
    · rw [upd_same, take_snoc hzi]
    · have e4 : upd (upd (upd (upd H it (ItT t it (i + 1))) q (.lst (zs.take i ++ [zs[i]]))) it (ItTE it)) q (.lst zs) = upd (upd H it (ItTE it)) q (.lst zs) := by
        funext b
        by_cases hb : b = q
        · rw [hb, upd_same, upd_same]
        · rw [upd_ne hb, upd_ne hb]
          by_cases hb2 : b = it
          · rw [hb2, upd_same, upd_same]
          · rw [upd_ne hb2, upd_ne hb2, upd_ne hb, upd_ne hb2]
      rw [← e4]
      exact I4
/-- list(o) -/
def rListIt (K : PySem.W.Frag) (C : Addr) (sp : Sp) (E : XK) : List V → Hp → VK → Prop := fun xs H Q => ∃ a dx fs, xs = [.ref a] ∧ H a = some (.ins C dx fs) ∧
  ∀ q, H q = none → sp [.ref a] (upd H q (.lst [])) (fun v H1 => ∃ (it t : Addr) (zs : List V), v = .ref it ∧ H1 it = some (ItT t it 0) ∧ SqT K H1 t zs ∧ H1 q = some (.lst []) ∧ (∃ dx' fs', H1 a = some (.ins C dx' fs')) ∧ Q (.ref q) (upd (upd H1 it (ItTE it)) q (.lst zs))) E
theorem hint_own {M : Model} {A : Around} {E : Value → Shared → Prop} {s : Shared} {Q : Bool → Shared → Prop} {K : PySem.W.Frag} {C a : Addr} {ox : Obj} {od : Option Obj} (h1 : PySem.W.findIn K (.ref C) "__len__" = some none) (h2 : PySem.W.findIn K (.ref C) "__length_hint__" = some none)
    (hK : K.In s.heap) (J : PySem.W.InstAt s.heap a ox C od) (h : Q true s) : wpAny M A (Builtin.List.listLengthHint (.ref a)) Q E s := by
  unfold Builtin.List.listLengthHint
  refine wpAny_bind (wpAny_bind (J.type.here ((PySem.W.looks_findIn hK h1).here (PySem.W.KFB.if_not rfl (PySem.W.KFB.if_not rfl ?_)))))
  exact wpAny_bind (wpAny_bind (J.type.here ((PySem.W.looks_findIn hK h2).here (wpAny_pure h))))
theorem call_listIt {C f : Addr} {fd : FuncData} {ps : List Str} {sp : Sp} {E : XK} {n : Nat} {CX : CXT} (hs : PySem.W.findIn X.K (.ref C) "__iter__" = some (some (.ref f))) (hfn : PySem.W.isFn X.K (.ref f) = true) (n1 : PySem.W.findIn X.K (.ref C) "__len__" = some none) (n2 : PySem.W.findIn X.K (.ref C) "__length_hint__" = some none)
    (F : FnOk X.prog X.w X.K X.mg X.base CX n f fd ps sp) (hb : Binds X.K fd ps []) (hx : Passes CX X E) (hr : Room (n + 2) X.A) : CallR X (.type "list") (rListIt X.K C sp E) := by
  intro pins s σ H xs us Q I rv h
  obtain ⟨a, dx, fs, rfl, ha, hq⟩ := h
  obtain ⟨u, rfl, ru⟩ := rv.one
  cases ru
  have sb : Sub X n X.A.in1.in1 := (Sub.in1 (Sub.in1 (⟨hr, rfl⟩ : Sub X (n + 2) X.A)))
  refine callType_codes (Q₁ := fun obj s₁ => obj = .ref s.heap.objs.size ∧ s₁ = { s with heap := s.heap.push { cls := .type "list", data := .seq #[] } }) PySem.F.called_list (PySem.F.typeCall_list_1 _) PySem.F.entry_list_init
    (code_list_new _ ⟨rfl, rfl⟩) fun obj s₁ h₁ => ?_
  obtain ⟨rfl, rfl⟩ := h₁
  have hS : (s.heap.push { cls := .type "list", data := .seq #[] }).get? s.heap.objs.size = some { cls := .type "list", data := .seq #[] } := Heap.get?_push_size _ rfl
  refine ⟨⟨_, hS, rfl⟩, PySem.F.args_list_init_2 _ _, ?_⟩
  have fr : H s.heap.objs.size = none := I.hok.fresh (Nat.le_refl _)
  have hsp := hq _ fr
  have I1 : Inv X pins σ (upd H s.heap.objs.size (.lst [])) { s with heap := s.heap.push { cls := .type "list", data := .seq #[] } } := I.lnew (its := []) (t' := s.toks) .nil (Nat.zero_le _)
  show wpAny _ _ (do let old ← Builtin.List.listItems (.ref s.heap.objs.size); Builtin.List.listUpdate (.ref s.heap.objs.size) (fun _ => #[]); letGo old.toList.reverse; Builtin.List.listExtendWith (.ref s.heap.objs.size) (.ref a) .none) _ _ _
  refine wpAny_bind ?_
  unfold Builtin.List.listItems
  refine wpAny_bind (wpAny_seqItems hS rfl (wpAny_pure ?_))
  show wpAny _ _ (updateSeq s.heap.objs.size (fun _ => #[]) >>= fun _ => letGo (#[] : Array Value).toList.reverse >>= fun _ => Builtin.List.listExtendWith (.ref s.heap.objs.size) (.ref a) .none) _ _ _
  refine wpAny_bind (wpAny_updateSeq hS rfl ?_)
  have I2 := I1.lset (f := fun _ => #[]) (its := []) (its' := []) (ys := []) (t' := s.toks) upd_same hS rfl .nil (Nat.zero_le _)
  rw [upd_upd] at I2
  refine wpAny_bind (wpAny_letGo ?_)
  have ha2 : upd H s.heap.objs.size (.lst []) a = some (.ins C dx fs) := by rw [upd_ne (ne_of_none ha fr)]; exact ha
  have hne : s.heap.objs.size ≠ a := Ne.symm (ne_of_none ha fr)
  generalize hH2 : upd H s.heap.objs.size (.lst []) = H2 at *
  generalize s.heap.objs.size = q at *
  obtain ⟨mA, J, _⟩ := ins_get I2.hok ha2
  obtain ⟨od, J, _⟩ := J.look
  obtain ⟨m0, hF⟩ := I2.fr
  unfold Builtin.List.listExtendWith
  refine wpAny_bind (J.type.here ?_)
  have h1 : Builtin.List.listSameRef (.ref q) (.ref a) = false := by simp [Builtin.List.listSameRef, hne]
  have h2 : (Value.ref C == Value.type "list") = false := rfl
  have h3 : (Value.ref C == Value.type "tuple") = false := rfl
  simp only [h1, h2, h3, Bool.or_false, Bool.false_eq_true, if_false]
  refine wpAny_bind (PySem.W.owit_iter hF I2.ok.mod.kin J hs hfn ?_)
  have e0 : ∀ {s : Shared} {H : Hp}, Inv X pins σ H s → Env0 X.prog X.w X.K X.mg X.base X.A.in1.in1 X.stack s H := fun {s H} I => by
    have e := I.env0
    exact ⟨by rw [sb.fr]; exact e.frames, e.mod, e.bs, e.bsz, e.funs, e.frf, e.hok, e.bare⟩
  have hl := F.len _ _ _ _ hsp
  have r2 : Vals [V.ref a] [Value.ref a] := .cons rfl .nil
  refine wpAny_call (codeAny_mono (F.run X.A.in1.in1 X.stack _ _ ⟨[.ref a], []⟩ [.ref a] [.ref a] _ E sb.room (e0 I2) (by
    have := hb _ [.ref a] I2.kIn (by simpa using hl)
    simpa using this) r2 hsp) fun r s' hq' => ?_)
  cases r with
  | error e => exact hx pins σ _ _ e s' I2 hq'
  | ok fl =>
    cases fl with
    | next => exact False.elim hq'
    | brk => exact False.elim hq'
    | cont => exact False.elim hq'
    | ret u =>
      obtain ⟨v, H', I', rv, it, t, zs, ev, hit, ht, hqq, ⟨dx', fs', ha'⟩, hQ⟩ := I2.after hq'
      subst ev
      cases rv
      have hT : s'.TypeIs (.ref it) "tuple_iterator" := (itT_get I' hit).typeIs
      have hqi : q ≠ it := fun z => by
        rw [z, hit] at hqq
        exact (nomatch hqq)
      show wpAny _ _ (specialOf (.ref it) "__next__") _ _ _
      refine wpAny_specialOf hT slot_tupleiter_next.lookup ?_
      obtain ⟨mA', J', _⟩ := ins_get I'.hok ha'
      obtain ⟨od', J', _⟩ := J'.look
      refine wpAny_bind (wpAny_holding (hint_own n1 n2 I'.kIn J' ?_))
      have go : ∀ s'', Inv X pins σ H' s'' → codeAny (model X.prog X.w) X.A.in1 (.builtin "list.extend.loop" ⟨[.ref q, .ref it, .none], []⟩) (wants (fun r s₂ => r = .none ∧ EP X pins σ Q (.ref q) s₂) X.xe) s'' := fun s'' I'' =>
        loop_tup (t := t) (zs := zs) sb.room.hd hqi zs.length 0 H' s'' (by simp) (Nat.zero_le _) I'' hit ht (by rw [hqq]; rfl) fun s3 I3 => ⟨rfl, .ref q, _, I3, rfl, hQ⟩
      obtain ⟨z, its, k, r3, hl3, e3⟩ := I'.lstM hqq
      cases r3
      refine wpAny_ite_split (fun _ => ?_) (fun _ => wpAny_pure ⟨plainId_quiet PySem.F.plain_extend_loop _, go s' I'⟩)
      refine wpAny_bind (wpAny_rule ?_)
      refine wpAny_bind ?_
      show wpAny _ _ (updateSeq q (·.push .none) >>= fun _ => updateSeq q (·.pop)) _ _ _
      refine wpAny_bind (wpAny_updateSeq e3 rfl ?_)
      have I3 := I'.lset (f := (·.push Value.none)) (its' := [Value.none]) (ys := [.non]) (t' := s'.toks) hqq e3 (by simp) (.cons rfl .nil) (by rw [List.length_singleton, sizeLine_eq]; decide)
      obtain ⟨z4, its4, k4, r4, hl4, e4⟩ := I3.lstM upd_same
      obtain ⟨u4, rfl, ru4⟩ := r4.one
      refine wpAny_updateSeq e4 rfl ?_ (by show 1 ≤ sizeLine; rw [sizeLine_eq]; decide) (by show 0 ≤ sizeLine + 1; exact Nat.zero_le _)
      have I4 := I3.lset (f := (·.pop)) (its := [u4]) (its' := []) (ys := []) (t' := s'.toks) upd_same e4 (by rfl) .nil (Nat.zero_le _)
      rw [upd_upd] at I4
      have hH : upd H' q (.lst []) = H' := by
        funext b
        by_cases hb : b = q
        · rw [hb, upd_same, hqq]
        · rw [upd_ne hb]
      rw [hH] at I4
      exact wpAny_pure ⟨plainId_quiet PySem.F.plain_extend_loop _, go _ I4⟩
end
end XL
set_option Elab.async false
set_option linter.all false
set_option maxRecDepth 100000
set_option maxHeartbeats 4000000
/-! XOr: two rules for one piece of text; what classes say of an own error. -/
namespace XL
open PySem PySem.Spec PyProof.Rows L2
section
variable {X : Cx}
theorem pe_or {e : Expr} {t u : TE} (h : PE X e t) (k : PE X e u) : PE X e (fun σ H Q => t σ H Q ∨ u σ H Q) := ⟨fun pins s σ H Q I q => q.elim (h.run pins s σ H Q I) (k.run pins s σ H Q I)⟩
theorem pg_or {e : Expr} {t u : TG} (h : PG X e t) (k : PG X e u) : PG X e (fun v σ H Q => t v σ H Q ∨ u v σ H Q) := ⟨fun pins s σ H v w Q I r q => q.elim (h.run pins s σ H v w Q I r) (k.run pins s σ H v w Q I r)⟩
theorem cr_or {f : Value} {t u : List V → Hp → VK → Prop} (h : CallR X f t) (k : CallR X f u) : CallR X f (fun xs H Q => t xs H Q ∨ u xs H Q) := fun pins s σ H xs us Q I r q => q.elim (h pins s σ H xs us Q I r) (k pins s σ H xs us Q I r)
end
section
variable {P : Program} {w : World} {K : PySem.W.Frag} {mg : Str → Option Value} {base : Heap} {CX : CXT} {k : Nat} {f : Addr} {fd : FuncData} {ps : List Str} {sp sq : Sp}
theorem fn_or (h : FnOk P w K mg base CX k f fd ps sp) (h2 : FnOk P w K mg base CX k f fd ps sq) : FnOk P w K mg base CX k f fd ps (fun vs H Q E => sp vs H Q E ∨ sq vs H Q E) :=
  ⟨fun vs H Q E q => q.elim (h.len vs H Q E) (h2.len vs H Q E), fun A outer s H args us vs Q E hr he hb hv q => q.elim (h.run A outer s H args us vs Q E hr he hb hv) (h2.run A outer s H args us vs Q E hr he hb hv)⟩
end
theorem kit_of {K : PySem.W.Frag} {D C : Addr} {b : Bool} (hne : (Value.ref D == Value.ref C) = false) (h2 : PySem.W.isClsIn K C = true) (h3 : PySem.W.typeIn K (.ref C) = some (.type "type")) (h4 : PySem.W.subIn K (.ref D) (.ref C) = some b) : PySem.W.kitOne K (.ref D) (.ref C) = some b := by
  have e2 : ((PySem.W.clsIn K C).isSome && PySem.W.typeIn K (.ref C) == some (.type "type")) = true := by
    have h2' : (PySem.W.clsIn K C).isSome = true := h2
    rw [h2', h3]
    rfl
  show (if (Value.ref D == Value.ref C) = true then some true else (if ((PySem.W.clsIn K C).isSome && PySem.W.typeIn K (.ref C) == some (.type "type")) = true then PySem.W.subIn K (.ref D) (.ref C) else none)) = some b
  rw [if_neg (by rw [hne]; decide), if_pos e2]
  exact h4
theorem exm_of {K : PySem.W.Frag} {S : Addr} {cls : Value} {b : Bool} (h1 : PySem.W.subIn K (.ref S) (.type "BaseException") = some true) (h2 : PySem.W.isClsIn K S = true) (h3 : PySem.W.typeIn K (.ref S) = some (.type "type")) (h4 : PySem.W.subIn K cls (.ref S) = some b) : PySem.W.exmOne K cls (.ref S) = some b := by
  have e1 : (PySem.W.subIn K (.ref S) (.type "BaseException") == some true) = true := by rw [h1] <;> rfl
  have e2 : ((PySem.W.clsIn K S).isSome && PySem.W.typeIn K (.ref S) == some (.type "type")) = true := by
    have h2' : (PySem.W.clsIn K S).isSome = true := h2
    rw [h2', h3] <;> rfl
  show (if (PySem.W.subIn K (.ref S) (.type "BaseException") == some true) = true then (if ((PySem.W.clsIn K S).isSome && PySem.W.typeIn K (.ref S) == some (.type "type")) = true then PySem.W.subIn K cls (.ref S) else none) else none) = some b
  rw [if_pos e1, if_pos e2]
  exact h4
end XL
set_option Elab.async false
set_option linter.all false
set_option maxRecDepth 100000
set_option maxHeartbeats 4000000
/-! XTxt: texts of small letters; a name that is not used. -/
namespace XL
open PySem PySem.Spec PyProof.Rows L2
def LS : Str := "abcdefghijklmnopqrstuvwxyz"
structure Lt (a b : Nat) (z : Str) : Prop where
  lo : a ≤ z.length
  hi : z.length ≤ b
  ch : ∀ c ∈ z.cps.toList, c ∈ LS.cps.toList
theorem len_tl (z : Str) : z.length = z.cps.toList.length := by
  show z.cps.size = _
  rw [Array.length_toList]
theorem Lt.one {c : Nat} (h : c ∈ LS.cps.toList) : Lt 1 1 ⟨#[c]⟩ := ⟨Nat.le_refl _, Nat.le_refl _, fun d hd => by
  have : d = c := by simpa using hd
  rw [this]
  exact h⟩
theorem Lt.wide {a b a' b' : Nat} {z : Str} (h : Lt a b z) (h1 : a' ≤ a) (h2 : b ≤ b') : Lt a' b' z := ⟨Nat.le_trans h1 h.lo, Nat.le_trans h.hi h2, h.ch⟩
theorem app_len (x y : Str) : (x ++ y).length = x.length + y.length := Str.length_append x y
theorem app_tl (x y : Str) : (x ++ y).cps.toList = x.cps.toList ++ y.cps.toList := by
  rw [Str.cps_append]
  simp
theorem Lt.app {a b c d : Nat} {x y : Str} (h : Lt a b x) (k : Lt c d y) : Lt (a + c) (b + d) (x ++ y) := by
  have h1 := h.lo; have h2 := h.hi; have h3 := k.lo; have h4 := k.hi
  refine ⟨by rw [app_len]; omega, by rw [app_len]; omega, fun e he => ?_⟩
  rw [app_tl] at he
  rcases List.mem_append.mp he with z | z
  · exact h.ch e z
  · exact k.ch e z
theorem cut_mem {z : Str} {lo hi : Option Int} {c : Nat} (h : c ∈ (cutS z lo hi).cps.toList) : c ∈ z.cps.toList := by
  have h2 : c ∈ (z.cps.toList.drop (HT.sIx z.length 0 lo)).take (HT.sIx z.length z.length hi - HT.sIx z.length 0 lo) := by simpa [cutS] using h
  exact List.mem_of_mem_drop (List.mem_of_mem_take h2)
theorem cut_to_len (z : Str) (k : Nat) : (cutS z none (some (k : Int))).length = min k z.length := by
  rw [len_tl]
  show ((z.cps.toList.drop (HT.sIx z.length 0 none)).take (HT.sIx z.length z.length (some (k : Int)) - HT.sIx z.length 0 none)).toArray.toList.length = _
  rw [HT.sIx_nat, HT.sIx_none]
  rw [Nat.sub_zero, List.drop_zero, List.length_take, ← len_tl]
  omega
theorem cut_from_len (z : Str) (k : Nat) (h : k ≤ z.length) : (cutS z (some (k : Int)) none).length = z.length - k := by
  rw [len_tl]
  show ((z.cps.toList.drop (HT.sIx z.length 0 (some (k : Int)))).take (HT.sIx z.length z.length none - HT.sIx z.length 0 (some (k : Int)))).toArray.toList.length = _
  rw [HT.sIx_nat, HT.sIx_none, List.length_take, List.length_drop, ← len_tl]
  omega
theorem Lt.to {a b : Nat} {z : Str} (h : Lt a b z) (k : Nat) : Lt (min k a) (min k b) (cutS z none (some (k : Int))) := by
  have h1 := h.lo; have h2 := h.hi
  exact ⟨by rw [cut_to_len]; omega, by rw [cut_to_len]; omega, fun c hc => h.ch c (cut_mem hc)⟩
theorem joinL_nil : ∀ ps : List (List Nat), TL.joinL [] ps = ps.flatten
  | [] => rfl
  | [p] => by simp [TL.joinL]
  | p :: q :: r => by
    show p ++ ([] ++ TL.joinL [] (q :: r)) = _
    rw [joinL_nil (q :: r)]
    simp
theorem Lt.join {ys : List Str} (h : ∀ y ∈ ys, Lt 1 1 y) : Lt ys.length ys.length (Txt.join "" ys) := by
  have e : (Txt.join "" ys).cps.toList = (ys.map fun y => y.cps.toList).flatten := by
    rw [TL.join_eq]
    exact (TL.tl_join "" ys).trans (joinL_nil _)
  have el : ∀ {ys : List Str}, (∀ y ∈ ys, Lt 1 1 y) → ((ys.map fun y => y.cps.toList).flatten).length = ys.length := by
    intro ys
    induction ys with
    | nil => intro _; rfl
    | cons y r ih =>
      intro h
      have h1 := h y List.mem_cons_self
      have z := ih fun y hy => h y (List.mem_cons_of_mem _ hy)
      have l1 := h1.lo; have l2 := h1.hi
      rw [len_tl] at l1 l2
      rw [List.map_cons, List.flatten_cons, List.length_append, z, List.length_cons]
      omega
  have l := el h
  refine ⟨by rw [len_tl, e, l]; exact Nat.le_refl _, by rw [len_tl, e, l]; exact Nat.le_refl _, fun c hc => ?_⟩
  rw [e] at hc
  obtain ⟨p, hp, hcp⟩ := List.mem_flatten.mp hc
  obtain ⟨y, hy, rfl⟩ := List.mem_map.mp hp
  exact (h y hy).ch c hcp
theorem sum_ones : ∀ {ys : List Str}, (∀ y ∈ ys, Lt 1 1 y) → (ys.map (·.length)).sum = ys.length
  | [], _ => rfl
  | y :: r, h => by
    have h1 := h y List.mem_cons_self
    have z := sum_ones fun y hy => h y (List.mem_cons_of_mem _ hy)
    have l1 := h1.lo; have l2 := h1.hi
    rw [List.map_cons, List.sum_cons, z, List.length_cons]
    omega
/-! ### one that is not used -/
theorem nd_sub {α : Type} [DecidableEq α] : ∀ {xs ys : List α}, xs.Nodup → (∀ x ∈ xs, x ∈ ys) → xs.length ≤ ys.length
  | [], _, _, _ => Nat.zero_le _
  | x :: r, ys, nd, h => by
    have hx := h x List.mem_cons_self
    have nd' := List.nodup_cons.mp nd
    have z := nd_sub (ys := ys.erase x) nd'.2 fun y hy => (List.mem_erase_of_ne (fun e : y = x => nd'.1 (by rw [← e]; exact hy))).mpr (h y (List.mem_cons_of_mem _ hy))
    rw [List.length_erase_of_mem hx] at z
    have : 0 < ys.length := List.length_pos_of_mem hx
    rw [List.length_cons]
    omega
def letter (k : Nat) : Nat := LS.cps.toList.getD k 0
theorem letter_at {k : Nat} (h : k < 26) : LS.cps.toList[k]? = some (letter k) := by
  have z : ∀ j : Nat, j < 26 → LS.cps.toList[j]? = some (letter j) := by decide +kernel
  exact z k h
theorem letter_inj {i j : Nat} (hi : i < 26) (hj : j < 26) (h : letter i = letter j) : i = j := by
  have z : ∀ i : Nat, i < 26 → ∀ j : Nat, j < 26 → letter i = letter j → i = j := by decide +kernel
  exact z i hi j hj h
def tail2 (k : Nat) : Str := (⟨#[letter (k / 26)]⟩ : Str) ++ ⟨#[letter (k % 26)]⟩
theorem tail2_inj {p : Str} {i j : Nat} (hi : i < 676) (hj : j < 676) (h : p ++ tail2 i = p ++ tail2 j) : i = j := by
  have e := congrArg (fun z : Str => z.cps.toList) h
  simp only [app_tl, tail2] at e
  have e2 := List.append_cancel_left e
  have e3 : [letter (i / 26), letter (i % 26)] = [letter (j / 26), letter (j % 26)] := by simpa using e2
  injection e3 with h1 h2
  injection h2 with h2 _
  have a := letter_inj (by omega) (by omega) h1
  have b := letter_inj (by omega) (by omega) h2
  omega
theorem tail2_lt {k : Nat} (h : k < 676) : Lt 2 2 (tail2 k) :=
  (Lt.one (List.mem_of_getElem? (letter_at (by omega)))).app (Lt.one (List.mem_of_getElem? (letter_at (by omega))))
theorem unused (p : Str) (us : List Str) (h : us.length < 676) : ∃ k, k < 676 ∧ p ++ tail2 k ∉ us := by
  apply Classical.byContradiction
  intro no
  have all : ∀ z ∈ (List.range 676).map (fun k => p ++ tail2 k), z ∈ us := fun z hz => by
    obtain ⟨k, hk, rfl⟩ := List.mem_map.mp hz
    apply Classical.byContradiction
    intro q
    exact no ⟨k, List.mem_range.mp hk, q⟩
  have nd : ((List.range 676).map (fun k => p ++ tail2 k)).Nodup := by
    unfold List.Nodup
    rw [List.pairwise_map]
    refine List.Pairwise.imp_of_mem ?_ (List.nodup_range (n := 676))
    intro a b ha hb hab e
    exact hab (tail2_inj (List.mem_range.mp ha) (List.mem_range.mp hb) e)
  have z := nd_sub nd all
  rw [List.length_map, List.length_range] at z
  omega
theorem inV_str {x : Str} (xs : List Str) : inV (.str x) (xs.map V.str) = decide (x ∈ xs) := by
  unfold inV
  induction xs with
  | nil => rfl
  | cons y r ih =>
    rw [List.map_cons, List.any_cons, ih]
    show ((y == x) || decide (x ∈ r)) = decide (x ∈ y :: r)
    by_cases e : x = y
    · subst e; simp
    · have e2 : ¬ y = x := fun q => e q.symm
      simp [e, e2]
theorem strs_flat (xs : List Str) : (xs.map V.str).all flatV = true := by
  rw [List.all_eq_true]
  intro x hx
  obtain ⟨n, _, rfl⟩ := List.mem_map.mp hx
  rfl
end XL
set_option Elab.async false
set_option linter.all false
set_option maxRecDepth 100000
set_option maxHeartbeats 4000000
/-! XLine: C(*row), a method within a try, zip with K said, classes of an own error. -/
namespace XL
open PySem PySem.Spec PyProof.Rows L2
section
variable {X : Cx} {CX : CXT} {k : Nat} {f C : Addr} {fd : FuncData} {ps : List Str} {ds : List Value} {dvs : List V} {sp : Sp} {x m : Str} {p pos apos sp_ : Pos} {e o : Expr} {es : List Expr} {te ta : TE} {t : TA}
def tMakeS (K : PySem.W.Frag) (C : Addr) (sp : Sp) (dvs : List V) (E : XK) (te : TE) : TE := fun σ H Q => te σ H fun y H1 => ∃ a xs, y = V.ref a ∧ (SqT K H1 a xs ∨ SqL K H1 a xs) ∧
  ∀ x dx, H1 x = none → H1 dx = none → dx ≠ x → sp (.ref x :: (xs ++ dvs)) (upd (upd H1 dx (.own x)) x (.ins C dx [])) (fun v H2 => v = .non ∧ Q (.ref x) H2) E
/-- C(*row) -/
theorem pe_makeS {E : XK} (K : PySem.W.Frag) (M : Mk X.K C f) (F : FnOk X.prog X.w X.K X.mg X.base CX k f fd ps sp) (hr : Room (k + 1) X.A) (hg : Gl X x) (hm : X.mg x = some (.ref C)) (hb : Binds X.K fd ps ds) (hd : Vals dvs ds) (hx : Passes CX X E) (he : PE X e te) (hK : X.K = K := by rfl) (hdb : (x == ("__debug__" : Str)) = false := by decide)
    (hst : starEach [.Starred e sp_] X.env = [(true, eval e X.env)] := by rfl) : PE X (.Call (.Name x p) [.Starred e sp_] [] pos) (tMakeS K C sp dvs E te) := by
  subst hK
  refine ⟨fun pins s σ H Q I h => ?_⟩
  refine wpAny_Call_Name_kw (ld_glob I hg hm ?_ hdb)
  refine PySem.W.callWith_S (h₀ := X.base) I.ok.mod.kin M.kp (thn (he.run pins s σ H _ I h) fun v s1 ⟨y, H1, I1, ry, a, xs, ey, hxs, q⟩ => ?_) hst
  subst ey
  obtain rfl : v = Value.ref a := ry
  exact StX.star_any I1 hxs fun us s2 I2 rv => ⟨I2.kIn, run_make M F hr hb hd hx I2 rv q⟩
def tMethS (C : Addr) (m : Str) (sp : Sp) (E : L2.St → XK) (ta : TE) (t : TA) : TE := fun σ H Q => ta σ H fun x H1 => ∃ a dx fs, x = .ref a ∧ H1 a = some (.ins C dx fs) ∧ fs.lookup m = none ∧
  t σ H1 fun vs H2 => sp (x :: vs) H2 Q (E σ)
/-- o.m(..) within a try -/
theorem pe_methT {E : L2.St → XK} {pl : Sem Bool} (he : PE X o ta) (c : Cls X.K C) (hm : Meth X.K C m f) (F : FnOk X.prog X.w X.K X.mg X.base CX k f fd ps sp) (hr : Room k X.A) (hb : Binds X.K fd ps []) (hx : ∀ σ, PassesAt CX X σ (E σ)) (ha : PA X (e :: es) t)
    (hst : starEach (e :: es) X.env = (false, eval e X.env) :: starEach es X.env := by rfl) (hpl : (backTo pos (starEach es X.env)).any (·.1) = false := by rfl)
    (ht : eval (.Call (.Attribute o m apos) (e :: es) [] pos) X.env = (do
      let ov ← eval o X.env
      standAt apos.atName
      let (f, first) ← holding [ov] (getMethod ov m pl)
      callWith pos f first (backTo pos (starEach (e :: es) X.env)) (backToKw pos (keywordEach [] X.env))) := by rfl) :
    PE X (.Call (.Attribute o m apos) (e :: es) [] pos) (tMethS C m sp E ta t) := by
  refine ⟨fun pins s σ H Q I h => ?_⟩
  refine PySem.W.methodCall_KW (pl := pl) (thn (he.run pins s σ H _ I h) fun u s1 ⟨x, H1, I1, rx, a, dx, fs, ex, ea, l, q⟩ => ?_) ht
  subst ex
  obtain rfl : u = Value.ref a := rx
  refine getmeth_ok I1 ea c hm l ?_
  refine PySem.W.callWith_K (first := [.ref a]) (h₀ := X.base) I.ok.mod.kin hm.kp (thn (ha.run pos pins s1 σ H1 _ I1 q) fun us s2 ⟨vs, H2, I2, r, q2⟩ => ⟨I2.kIn, ?_⟩) hst hpl
  exact run_fnS (us := .ref a :: us) (vs := .ref a :: vs) (E := E) F hr hb (hx σ) I2 (.cons rfl r) q2
theorem pe_methT0 {E : L2.St → XK} {pl : Sem Bool} (he : PE X o ta) (c : Cls X.K C) (hm : Meth X.K C m f) (F : FnOk X.prog X.w X.K X.mg X.base CX k f fd ps sp) (hr : Room k X.A) (hb : Binds X.K fd ps []) (hx : ∀ σ, PassesAt CX X σ (E σ))
    (ht : eval (.Call (.Attribute o m apos) [] [] pos) X.env = (do
      let ov ← eval o X.env
      standAt apos.atName
      let (f, first) ← holding [ov] (getMethod ov m pl)
      callWith pos f first (backTo pos (starEach [] X.env)) (backToKw pos (keywordEach [] X.env))) := by rfl) :
    PE X (.Call (.Attribute o m apos) [] [] pos) (tMethS C m sp E ta tNil) := by
  refine ⟨fun pins s σ H Q I h => ?_⟩
  refine PySem.W.methodCall_KW (pl := pl) (thn (he.run pins s σ H _ I h) fun u s1 ⟨x, H1, I1, rx, a, dx, fs, ex, ea, l, q⟩ => ?_) ht
  subst ex
  obtain rfl : u = Value.ref a := rx
  refine getmeth_ok I1 ea c hm l ?_
  exact PySem.W.callWith_K0 (first := [.ref a]) I1.kIn hm.kp (run_fnS (us := [.ref a]) (vs := [.ref a]) (E := E) F hr hb (hx σ) I1 (.cons rfl .nil) q)
theorem pi_zipK {e e2 : Expr} {ta : TA} {p pos tpos : Pos} {elts : List Expr} {kk : Nat} (K : PySem.W.Frag) (hg : Gl X "zip") (hm : X.mg "zip" = none) (ha : PA X [e, e2] ta) (hK : X.K = K := by rfl)
    (hs : starEach [e, e2] X.env = (false, eval e X.env) :: starEach [e2] X.env := by rfl) (hpl : (backTo pos (starEach [e2] X.env)).any (·.1) = false := by rfl) :
    PI X (.Tuple elts kk tpos) (.Call (.Name "zip" p) [e, e2] [] pos) (iZip K ta) := hK ▸ pi_zip hg hm ha hs hpl
end
theorem kit_ty_of {K : PySem.W.Frag} {D : Addr} {T : String} {b : Bool} (h1 : PySem.W.kitMeta T = true) (h2 : PySem.W.subIn K (.ref D) (.type T) = some b) : PySem.W.kitOne K (.ref D) (.type T) = some b := by
  show (if (Value.ref D == Value.type T) = true then some true else (if PySem.W.kitMeta T = true then PySem.W.subIn K (.ref D) (.type T) else none)) = some b
  rw [if_neg (fun h => by cases h), if_pos h1]
  exact h2
end XL
set_option Elab.async false
set_option linter.all false
set_option maxRecDepth 100000
set_option maxHeartbeats 4000000
/-! XHot: a def that raises nothing and walks nothing, called within an except suite. -/
namespace XL
open PySem PySem.Spec PyProof.Rows L2 L2H
/-- what a def promises there -/
structure FnQ (P : Program) (w : World) (K : PySem.W.Frag) (mg : Str → Option Value) (base : Heap) (k : Nat) (f : Addr) (fd : FuncData) (ps : List Str) (sp : Sp) : Prop where
  len : ∀ vs H Q E, sp vs H Q E → vs.length = ps.length
  run : ∀ (A : Around) (outer : List Env) (s : Shared) (H : Hp) (args : Args) (us : List Value) (vs : List V) (Q : VK) (E : XK) (p : Addr × Obj), RoomH k A → PinOk outer H s p → Env0 P w K mg base A outer s H → BindsTo s fd args (ps.zip us) → Vals vs us → sp vs H Q E →
    codeAny (model P w) A (.call (.ref f) args) (CR CX0 outer P w H s Q E) s
theorem okQ {P : Program} {w : World} {K : PySem.W.Frag} {mg : Str → Option Value} {base : Heap} {x qual : Str} {st : Stmt} {f : Addr} {fd : FuncData} {N ps : List Str} {k : Nat} {sp : Sp} (F : Fun K x qual st f fd) (S : FnScope N ps (defScope st)) (len : ∀ vs H Q E, sp vs H Q E → vs.length = ps.length)
    (hbody : ∀ (cdv : Value) (A : Around) (outer : List Env) (s : Shared) (H : Hp) (vs : List V) (Q : VK) (E : XK) (p : Addr × Obj), RoomH k (A.deeper (envOfC qual (defScope st) s.heap.objs.size f cdv)) → sp vs H Q E →
      ∃ t, PSs (cxH CX0 P w K mg base N qual (defScope st) f cdv A outer s H E p) (defBody st) t ∧ t { nx := fun _ H' => Q .non H', rt := Q } (L2.start N vs) H) : FnQ P w K mg base (k + 1) f fd ps sp := by
  obtain ⟨oc, od, kV, doc, pm, an, cdv, ct, osl, rfl, lk, hcd⟩ := F.ex
  refine ⟨len, fun A outer s H args us vs Q E p hr hpin e0 hb r hsp => ?_⟩
  have hl := len _ _ _ _ hsp
  have KX : K.In s.heap := e0.mod.kin.keeps fun b o e => (e0.bs b o e).1
  have lim : s.heap.NoLimit := e0.mod.nolimit.keeps fun b o e => (e0.bs b o e).1
  have hkind : ∀ y ∈ ps.zip us, (defScope st).names.lookup y.1 = some .local ∨ ((defScope st).names.lookup y.1 = some .cell ∧ ((cellsFrom (s.heap.objs.size + 1) (defScope st).names []).lookup y.1).isSome = true) := fun ⟨n, v⟩ hy => by
    rcases S.par n (List.of_mem_zip hy).1 with q | q
    · exact .inl q
    · exact .inr ⟨q, PySem.W.cellsFrom_some _ _ _ (.inl q)⟩
  refine codeAny_call_function hr.depth (KX _ _ lk) rfl S.co S.gen rfl (PySem.W.codeRec_of KX hcd) (hb _ _ _ _ ?_)
  refine wpAny_newFunctionEnv_cells S.kind hkind fun env he s1 x => ?_
  subst he
  refine ⟨lim.keeps x.toInCall.keep, codeAny_func ?_⟩
  obtain ⟨t, ht, hq⟩ := hbody cdv A outer s H vs Q E p (hr.deeper _) hsp
  have I : Inv (cxH CX0 P w K mg base N qual (defScope st) f cdv A outer s H E p) [] (L2.start N vs) H s1 := inv_startH S hpin e0 hl r x
  refine wpAny_mono (ht.run [] s1 (L2.start N vs) H _ I hq) (fun fl s' hs => ?_) fun e s' hs => hs
  have fin : ∀ {σ' : L2.St} {H' : Hp} {v : V} {u : Value}, Inv (cxH CX0 P w K mg base N qual (defScope st) f cdv A outer s H E p) [] σ' H' s' → RelV v u → Q v H' → CE outer P w H s Q u s' :=
    fun {σ' H' v u} J rv q => ⟨v, H', J.os, J.bare, J.base, J.hok, rv, q⟩
  cases fl with
  | ret u =>
    obtain ⟨v, σ', H', J, rv, q⟩ := hs
    exact fin J rv q
  | next =>
    obtain ⟨σ', H', J, q⟩ := hs
    exact fin (v := V.non) (u := Value.none) J rfl q
  | brk =>
    obtain ⟨_, _, _, q⟩ := hs
    exact False.elim q
  | cont =>
    obtain ⟨_, _, _, q⟩ := hs
    exact False.elim q
section
variable {X : Cx} {k : Nat} {f : Addr} {fd : FuncData} {ps : List Str} {sp : Sp} {E : XK} {x : Str} {q pos : Pos} {e : Expr} {es : List Expr} {t : TA}
theorem pe_callQ (F : FnQ X.prog X.w X.K X.mg X.base k f fd ps sp) (hr : RoomH k X.A) (hc : ∃ p, p ∈ X.pn) (hg : Gl X x) (hm : X.mg x = some (.ref f)) (hk : PySem.W.keepIn X.K (.ref f) = true) (hb : Binds X.K fd ps []) (hx : Passes CX0 X E)
    (ha : PA X (e :: es) t) (hdb : (x == ("__debug__" : Str)) = false := by decide) (he : starEach (e :: es) X.env = (false, eval e X.env) :: starEach es X.env := by rfl) (hpl : (backTo pos (starEach es X.env)).any (·.1) = false := by rfl) :
    PE X (.Call (.Name x q) (e :: es) [] pos) (fun σ H Q => t σ H fun vs H1 => sp vs H1 Q E) := by
  refine ⟨fun pins s σ H Q I h => ?_⟩
  refine wpAny_Call_Name_kw (ld_glob I hg hm ?_ hdb)
  refine PySem.W.callWith_K (h₀ := X.base) I.ok.mod.kin hk (thn (ha.run pos pins s σ H _ I h) fun us s1 ⟨vs, H1, I1, r, q⟩ => ⟨I1.kIn, ?_⟩) he hpl
  obtain ⟨p, hp⟩ := hc
  have hl : us.length = ps.length := by rw [← r.length]; exact F.len _ _ _ _ q
  have b := hb s1 us I1.kIn (by rw [List.append_nil]; exact hl)
  rw [List.append_nil] at b
  have P1 := I1.pin p (List.mem_append_left _ hp)
  have hpin : PinOk X.stack H1 s1 p := ⟨P1.1, P1.2.1, fun hm => (List.mem_cons.mp (I1.stkSub p.1 hm)).elim P1.2.2.1 P1.2.2.2.1, P1.2.2.2.2⟩
  refine wpAny_call (codeAny_mono (F.run X.A X.stack s1 H1 ⟨us, []⟩ us vs Q E p hr hpin I1.env0 b r q) fun r s' hq => ?_)
  cases r with
  | error e => exact hx pins σ _ _ e s' I1 hq
  | ok fl =>
    cases fl with
    | ret u => exact I1.after hq
    | next => exact False.elim hq
    | brk => exact False.elim hq
    | cont => exact False.elim hq
end
theorem roomQ {X : Cx} {k j : Nat} {a : Addr} {pn : List (Addr × Obj)} (hr : Room k X.A) (h : j ≤ k) : RoomH j (X.suite a pn).A := ⟨(hr.mono h).dp, (hr.mono h).un⟩
end XL
set_option Elab.async false
set_option linter.all false
set_option maxRecDepth 100000
set_option maxHeartbeats 4000000
/-! XGuard: defs that are called while no repr is under way (Around.guards is known to be empty); repr of data there. -/
namespace XL
open PySem PySem.Spec PyProof.Rows L2
/-- what a def promises when no repr is under way -/
structure FnG (P : Program) (w : World) (K : PySem.W.Frag) (mg : Str → Option Value) (base : Heap) (CX : CXT) (k : Nat) (f : Addr) (fd : FuncData) (ps : List Str) (sp : Sp) : Prop where
  len : ∀ vs H Q E, sp vs H Q E → vs.length = ps.length
  run : ∀ (A : Around) (outer : List Env) (s : Shared) (H : Hp) (args : Args) (us : List Value) (vs : List V) (Q : VK) (E : XK), Room k A → A.guards = some [] → Env0 P w K mg base A outer s H → BindsTo s fd args (ps.zip us) → Vals vs us → sp vs H Q E →
    codeAny (model P w) A (.call (.ref f) args) (CR CX outer P w H s Q E) s
section
variable {P : Program} {w : World} {K : PySem.W.Frag} {mg : Str → Option Value} {base : Heap} {CX : CXT}
theorem FnG.of {k : Nat} {f : Addr} {fd : FuncData} {ps : List Str} {sp : Sp} (F : FnOk P w K mg base CX k f fd ps sp) : FnG P w K mg base CX k f fd ps sp := ⟨F.len, fun A outer s H args us vs Q E hr _ => F.run A outer s H args us vs Q E hr⟩
theorem fnG_of {x qual : Str} {st : Stmt} {f : Addr} {fd : FuncData} {N ps : List Str} {k : Nat} {sp : Sp} (F : Fun K x qual st f fd) (S : FnScope N ps (defScope st)) (len : ∀ vs H Q E, sp vs H Q E → vs.length = ps.length)
    (hbody : ∀ (cdv : Value) (A : Around) (outer : List Env) (s : Shared) (H : Hp) (vs : List V) (Q : VK) (E : XK), Room k (A.deeper (envOfC qual (defScope st) s.heap.objs.size f cdv)) → A.guards = some [] → sp vs H Q E →
      ∃ t, PSs (cxOf CX P w K mg base N qual (defScope st) f cdv A outer s H E) (defBody st) t ∧ t { nx := fun _ H' => Q .non H', rt := Q } (L2.start N vs) H) : FnG P w K mg base CX (k + 1) f fd ps sp := by
  obtain ⟨oc, od, kV, doc, pm, an, cdv, ct, osl, rfl, lk, hcd⟩ := F.ex
  refine ⟨len, fun A outer s H args us vs Q E hr hg e0 hb r hsp => ?_⟩
  have hl := len _ _ _ _ hsp
  have KX : K.In s.heap := e0.mod.kin.keeps fun b o e => (e0.bs b o e).1
  have lim : s.heap.NoLimit := e0.mod.nolimit.keeps fun b o e => (e0.bs b o e).1
  have hkind : ∀ y ∈ ps.zip us, (defScope st).names.lookup y.1 = some .local ∨ ((defScope st).names.lookup y.1 = some .cell ∧ ((cellsFrom (s.heap.objs.size + 1) (defScope st).names []).lookup y.1).isSome = true) := fun ⟨n, v⟩ hy => by
    rcases S.par n (List.of_mem_zip hy).1 with q | q
    · exact .inl q
    · exact .inr ⟨q, PySem.W.cellsFrom_some _ _ _ (.inl q)⟩
  refine codeAny_call_function hr.depth (KX _ _ lk) rfl S.co S.gen rfl (PySem.W.codeRec_of KX hcd) (hb _ _ _ _ ?_)
  refine wpAny_newFunctionEnv_cells S.kind hkind fun env he s1 x => ?_
  subst he
  refine ⟨lim.keeps x.toInCall.keep, codeAny_func ?_⟩
  obtain ⟨t, ht, hq⟩ := hbody cdv A outer s H vs Q E (hr.deeper _) hg hsp
  have I : Inv (cxOf CX P w K mg base N qual (defScope st) f cdv A outer s H E) [] (L2.start N vs) H s1 := inv_start S hr.hd e0 hl r x
  refine wpAny_mono (ht.run [] s1 (L2.start N vs) H _ I hq) (fun fl s' hs => ?_) fun e s' hs => hs
  cases fl with
  | ret u =>
    obtain ⟨v, σ', H', J, rv, q⟩ := hs
    exact ⟨v, H', J.os, J.bare, J.base, J.hok, rv, q⟩
  | next =>
    obtain ⟨σ', H', J, q⟩ := hs
    exact ⟨V.non, H', J.os, J.bare, J.base, J.hok, rfl, q⟩
  | brk =>
    obtain ⟨_, _, _, q⟩ := hs
    exact False.elim q
  | cont =>
    obtain ⟨_, _, _, q⟩ := hs
    exact False.elim q
/-- a def that raises nothing -/
theorem okG {x qual : Str} {st : Stmt} {f : Addr} {fd : FuncData} {N ps : List Str} {k : Nat} {sp : Sp} (F : Fun K x qual st f fd) (S : FnScope N ps (defScope st)) (len : ∀ vs H Q E, sp vs H Q E → vs.length = ps.length)
    (hbody : ∀ (cdv : Value) (A : Around) (outer : List Env) (s : Shared) (H : Hp) (vs : List V) (Q : VK) (E : XK), Room k (A.deeper (envOfC qual (defScope st) s.heap.objs.size f cdv)) → A.guards = some [] → sp vs H Q E →
      ∃ t, PSs (cxOf CX0 P w K mg base N qual (defScope st) f cdv A outer s H E).nox (defBody st) t ∧ t { nx := fun _ H' => Q .non H', rt := Q } (L2.start N vs) H) : FnG P w K mg base CX0 (k + 1) f fd ps sp :=
  fnG_of F S len fun cdv A outer s H vs Q E hr hg hsp => let ⟨t, h, q⟩ := hbody cdv A outer s H vs Q E hr hg hsp; ⟨t, h.nox, q⟩
end
section
variable {X : Cx} {CX : CXT} {k : Nat} {f : Addr} {fd : FuncData} {ps : List Str} {sp : Sp} {E : XK} {x : Str} {p pos : Pos} {e : Expr} {es : List Expr} {t : TA}
theorem run_fnG {pins : List (Addr × Obj)} {σ : L2.St} {H : Hp} {s : Shared} {Q : VK} {us : List Value} {vs : List V} (F : FnG X.prog X.w X.K X.mg X.base CX k f fd ps sp) (hr : Room k X.A) (hg : X.A.guards = some []) (hb : Binds X.K fd ps []) (hx : Passes CX X E)
    (I : Inv X pins σ H s) (r : Vals vs us) (h : sp vs H Q E) : wpAny (model X.prog X.w) X.A (call (.ref f) us) (EP X pins σ Q) X.xe s := by
  have hl : us.length = ps.length := by rw [← r.length]; exact F.len _ _ _ _ h
  have b := hb s us I.kIn (by rw [List.append_nil]; exact hl)
  rw [List.append_nil] at b
  refine wpAny_call (codeAny_mono (F.run X.A X.stack s H ⟨us, []⟩ us vs Q E hr hg I.env0 b r h) fun r s' hq => ?_)
  cases r with
  | error e => exact hx pins σ _ _ e s' I hq
  | ok fl =>
    cases fl with
    | ret u => exact I.after hq
    | next => exact False.elim hq
    | brk => exact False.elim hq
    | cont => exact False.elim hq
theorem pe_callG (F : FnG X.prog X.w X.K X.mg X.base CX k f fd ps sp) (hr : Room k X.A) (hg : X.A.guards = some []) (hgl : Gl X x) (hm : X.mg x = some (.ref f)) (hk : PySem.W.keepIn X.K (.ref f) = true) (hb : Binds X.K fd ps []) (hx : Passes CX X E)
    (ha : PA X (e :: es) t) (hdb : (x == ("__debug__" : Str)) = false := by decide) (he : starEach (e :: es) X.env = (false, eval e X.env) :: starEach es X.env := by rfl) (hpl : (backTo pos (starEach es X.env)).any (·.1) = false := by rfl) :
    PE X (.Call (.Name x p) (e :: es) [] pos) (fun σ H Q => t σ H fun vs H1 => sp vs H1 Q E) := by
  refine ⟨fun pins s σ H Q I h => ?_⟩
  refine wpAny_Call_Name_kw (ld_glob I hgl hm ?_ hdb)
  refine PySem.W.callWith_K (h₀ := X.base) I.ok.mod.kin hk (thn (ha.run pos pins s σ H _ I h) fun us s1 ⟨vs, H1, I1, r, q⟩ => ⟨I1.kIn, ?_⟩) he hpl
  exact run_fnG F hr hg hb hx I1 r q
theorem u70 {k : Nat} {A : Around} (r : Room k A) : A.units + 70 < cLine := by have := r.un; omega
/-- repr of data -/
def rRepr (K : PySem.W.Frag) : List V → Hp → VK → Prop := fun xs H Q => ∃ v d, xs = [v] ∧ Dp K H v d ∧ d.showable = true ∧ d.hasDict = false ∧ d.depth ≤ 64 ∧ d.shown.length ≤ sizeLine ∧ Q (.str d.shown) H
theorem call_reprG (K : PySem.W.Frag) (hg : X.A.guards = some []) (hu : X.A.units + 70 < cLine) (hK : X.K = K := by rfl) : CallR X (.builtin "repr") (rRepr K) := by
  subst hK
  intro pins s σ H xs us Q I r h
  obtain ⟨v, d, rfl, hd, h1, h2, h3, h4, q⟩ := h
  obtain ⟨u, rfl, ru⟩ : ∃ u, us = [u] ∧ RelV v u := by
    cases r with
    | cons a b =>
      cases b
      exact ⟨_, rfl, a⟩
  obtain ⟨as, rd⟩ := Dp.reads I d v u hd ru
  have big : ∀ a : Addr, u = .ref a → wpAny (model X.prog X.w) X.A (call (.builtin "repr") [u]) (EP X pins σ Q) X.xe s := by
    rintro a rfl
    exact repr_of_reads' rd h1 (PyData.noDict_hsm h2) hg (by omega) (fun _ _ e => e) (fun h' t tk hk => ⟨.str d.shown, H, I.kept hk, ⟨_, rfl⟩, q⟩) h4
  cases hd with
  | non =>
    cases ru
    exact PySem.P.repr_of_none ⟨.str _, H, I.tok _, ⟨_, rfl⟩, by simpa only [PyData.shown] using q⟩
  | bl b =>
    cases ru
    exact PySem.P.repr_of_bool ⟨.str _, H, I.tok _, ⟨_, rfl⟩, by simpa only [PyData.shown] using q⟩
  | int i =>
    obtain ⟨t, rfl⟩ := ru
    exact PySem.P.repr_of_int (by simpa [PyData.showable] using h1) ⟨.str _, H, I.tok _, ⟨_, rfl⟩, by simpa only [PyData.shown] using q⟩
  | str x =>
    obtain ⟨t, rfl⟩ := ru
    exact PySem.P.repr_of_str ⟨.str _, H, I.tok _, ⟨_, rfl⟩, by simpa only [PyData.shown] using q⟩ (by simpa only [PyData.shown] using h4)
  | lst _ _ => exact big _ ru
  | tup _ _ => exact big _ ru
end
/-! ### the law's own call -/
theorem law_callG {P : Program} {w : World} {K : PySem.W.Frag} {mg mb : Str → Option Value} {CX : CXT} {k : Nat} {fa a : Addr} {fd : FuncData} {x : Str} {sp : Sp} {s₁ : Shared} {vs : List Value} {ns : List Int}
    (KX : K.In s₁.heap) (hns : s₁.heap.Ns mainGlobals mg) (hb : s₁.heap.Ns builtinsNs mb) (hbb : ∀ x : Str, x ≠ "__name__" → mb x = bootBuiltins x) (hlim : s₁.heap.NoLimit) (hg : s₁.gens = #[])
    (ha : s₁.heap.get? a = some { cls := .type "list", data := .seq vs.toArray }) (hi : IntsAre vs ns) (hl : ns.length ≤ sizeLine) (hr : Room k callerA)
    (F : ∀ base : Heap, K.In base → base.Ns mainGlobals mg → FnG P w K mg base CX k fa fd [x] sp) (hbind : ∀ (s : Shared) (u : Value), BindsTo s fd ⟨[u], []⟩ [(x, u)])
    (hsp : ∀ H : Hp, Only H → SqL K H a (ns.map V.int) → sp [.ref a] H (fun v _ => v = .bl true) fun _ _ _ => False)
    (hCX : ∀ H e s', CX [] H s₁ (fun _ _ _ => False) e s' → False) :
    codeAny (model P w) callerA (.call (.ref fa) ⟨[.ref a], []⟩) (fun r s' => r = .ok (.ret (.bool true)) ∧ OldK s₁.heap s'.heap ∧ s'.os = s₁.os ∧ AllBare s'.gens) s₁ := by
  have rv := vals_ints hi
  have lenV := hi.length
  -- nothing is tracked but the script
  have main : ∀ H : Hp, (∀ b, H b = none ∨ (b = a ∧ K.lookup a = none ∧ H b = some (.frz { cls := .type "list", data := .seq vs.toArray } (.lst (ns.map V.int))))) → SqL K H a (ns.map V.int) → HOk P w H s₁.heap →
      codeAny (model P w) callerA (.call (.ref fa) ⟨[.ref a], []⟩) (fun r s' => r = .ok (.ret (.bool true)) ∧ OldK s₁.heap s'.heap ∧ s'.os = s₁.os ∧ AllBare s'.gens) s₁ := by
    intro H hH hS hok
    have nsK : ∀ {b : Addr} {m : Str → Option Value}, s₁.heap.Ns b m → (hidT s₁.heap H).Ns b m := fun {b m} ⟨o, es, ep, e, d, r⟩ => by
      refine ⟨o, es, ep, hidT_get e ?_, d, r⟩
      rcases hH b with z | ⟨z, _⟩
      · exact z
      · rw [z, ha] at e
        cases e
        cases d
    have hKb : K.In (hidT s₁.heap H) := fun b o e => hidT_get (KX b o e) (by
      rcases hH b with z | ⟨z, z2, _⟩
      · exact z
      · rw [z, z2] at e
        cases e)
    have hM : Mod K mg (hidT s₁.heap H) := ⟨hKb, nsK hns, ⟨mb, nsK hb, hbb⟩, let ⟨mc, h1, h2⟩ := hlim; ⟨mc, nsK h1, h2⟩⟩
    have e0 : Env0 P w K mg (hidT s₁.heap H) callerA [] s₁ H := ⟨rfl, hM, fun b o e => of_hidT e, Nat.le_of_eq (hidT_size _ _), trivial, fun b hb => (nomatch hb), hok, .of_eq hg⟩
    have hO : Only H := fun b => (hH b).imp id fun z => ⟨_, _, z.2.2⟩
    refine codeAny_mono ((F _ hKb (nsK hns)).run callerA [] s₁ H ⟨[.ref a], []⟩ [.ref a] [.ref a] _ _ hr rfl e0 (hbind s₁ (.ref a)) (.cons rfl .nil) (hsp H hO hS)) fun r s' h => ?_
    cases r with
    | error e => exact (hCX H e s' h).elim
    | ok fl =>
      cases fl with
      | next => exact False.elim h
      | brk => exact False.elim h
      | cont => exact False.elim h
      | ret u =>
        obtain ⟨v, H', os, bare, un, hok', r', q⟩ := h
        have q' : v = .bl true := q
        subst q'
        obtain rfl : u = Value.bool true := r'
        refine ⟨rfl, OldK.of_keep fun b o e => ?_, os, bare⟩
        rcases hH b with z | ⟨_, _, z⟩
        · exact un.keep b o e z (fun y => nomatch y) (by simp)
        · obtain ⟨e1, _⟩ := hok b _ z
          obtain ⟨e2, _⟩ := hok' b _ (un.frzs b _ _ z)
          rw [e] at e1
          cases e1
          exact e2
  cases hk : K.lookup a with
  | some o =>
    have e := KX a o hk
    rw [ha] at e
    cases e
    exact main (fun _ => none) (fun _ => .inl rfl) (.inr ⟨_, vs.toArray, _, hk, rfl, rfl, rfl, by rw [List.size_toArray, lenV]; exact hl, by simpa using rv⟩) (fun b u z => nomatch z)
  | none =>
    refine main (fun b => if b = a then some (.frz { cls := .type "list", data := .seq vs.toArray } (.lst (ns.map V.int))) else none) (fun b => ?_) (.inl (.inr ⟨{ cls := .type "list", data := .seq vs.toArray }, if_pos rfl⟩)) (fun b u z => ?_)
    · by_cases hb : b = a
      · exact .inr ⟨hb, hk, if_pos hb⟩
      · exact .inl (if_neg hb)
    · by_cases hb : b = a
      · have z' := (if_pos hb).symm.trans z
        cases z'
        subst hb
        exact ⟨ha, by rw [List.length_map]; exact hl, vs, _, rv, ha⟩
      · have z' := (if_neg hb).symm.trans z
        cases z'
theorem walk_ofG {l : PySem.W.OpenLaw} {n k : Nat} {q : Program} {loose : List Str} {XP : (Str → Option Value) → Heap → Prop} {YP : World → Heap → Prop} {d : DefRec} {K : Params → PySem.W.Frag} {CX : World → CXT} {sp : World → Sp} {x : Str}
    (hn : l.most = some n) (hn2 : n ≤ sizeLine) (hdf : d.params.defaults = []) (hr : Room k callerA)
    (hY : ∀ (w : World) (h : Heap), YP w h → (K w.params).In h)
    (F : ∀ (w : World) (mg : Str → Option Value) (fa : Addr) (h : Heap), (K w.params).In h → h.Ns mainGlobals mg → mg d.name = some (.ref fa) →
      ∃ fd : FuncData, (∀ (s : Shared) (u : Value), BindsTo s fd ⟨[u], []⟩ [(x, u)]) ∧
        ∀ base : Heap, (K w.params).In base → base.Ns mainGlobals mg → FnG l.prog w (K w.params) mg base (CX w) k fa fd [x] (sp w))
    (hsp : ∀ (w : World) (H : Hp) (a : Addr) (ns : List Int), ns.length ≤ n → Only H → SqL (K w.params) H a (ns.map V.int) → sp w [.ref a] H (fun v _ => v = .bl true) fun _ _ _ => False)
    (hCX : ∀ (w : World) (H : Hp) (s : Shared) (e : Value) (s' : Shared), CX w [] H s (fun _ _ _ => False) e s' → False) :
    PySem.W.WalkO q loose XP YP l.row.toRowW d [] (fun f vs => PySem.call f vs) := by
  refine Att.attach_call hn hdf fun w s₀ s₁ mg mb fa o pm cd doc a vs ns G Y ho hd hcd hmg hobj hints hlen hg => ?_
  have KX := hY w _ Y
  obtain ⟨fd, hb, hF⟩ := F w mg fa _ KX G.T.g hmg
  exact law_callG KX G.T.g G.T.b G.T.builtins G.T.nolimit hg hobj hints (Nat.le_trans hlen hn2) hr hF hb (fun H hO hS => hsp w H a ns hlen hO hS) fun H e s' => hCX w H s₁ e s'
end XL
set_option Elab.async false
set_option linter.all false
set_option maxRecDepth 100000
set_option maxHeartbeats 4000000
/-! XStar: defs with a star parameter, called with plain arguments. -/
namespace XL
open PySem PySem.Spec PyProof.Rows L2
/-! ### list.extend of a tuple -/
theorem ext_tup (l : Addr) (items : Array Value) (n : Nat) (b : Addr) (items2 : Array Value) (n2 : Nat) (dc : Option Addr) (sl : Array (Option Value)) (hs0 : ¬(!items.isEmpty && Builtin.List.listTooLong (items.size + items2.size)) = true) (hs1 : items.size ≤ sizeLine) (hs2 : items.size + items2.size ≤ sizeLine + 1) :
    Meets (Builtin.«list.extend» ⟨[.ref l, .ref b], []⟩) (fun _ R s => s.heap.get? l = some { cls := .type "list", dict := none, data := .seq items n, slots := #[] } ∧ s.heap.get? b = some { cls := .type "tuple", dict := dc, data := .seq items2 n2, slots := sl } ∧ R (.ok (.ret Value.none)) { s with heap := s.heap.update l (Obj.mapSeq fun x => x ++ items2), toks := s.toks }) :=
  .of_wp fun prog w A R s h => by
    obtain ⟨hp, g, d, tk, os⟩ := s
    obtain ⟨hl, hb, h⟩ := h
    have f1 := AutoSeq1.idx_int; have f2 := AutoSeq1.sub_tuple_tuple; have f3 := AutoSeq1.sub_list_list; have f4 := AutoSeq1.sub_tuple_list; have f5 := AutoSeq1.sub_list_tuple
    have hz' : (items ++ items2).size ≤ sizeLine + 1 := by rw [Array.size_append]; exact hs2
    wp_walk using (wpAny_updateSeq hl rfl (hz := hs1) (_hz' := hz')), wpAny_loadPart' hl, wpAny_loadPart' hb
    exact ⟨_, rfl, h⟩
def rExtT (K : PySem.W.Frag) : V → List V → Hp → VK → Prop := fun x vs H Q => ∃ l b xs zs, x = .ref l ∧ vs = [.ref b] ∧ H l = some (.lst xs) ∧ SqT K H b zs ∧ xs.length + zs.length ≤ sizeLine ∧ Q .non (upd H l (.lst (xs ++ zs)))
theorem mt_extT {X : Cx} (K : PySem.W.Frag) (hK : X.K = K := by rfl) : MtM X "list.extend" (rExtT K) := by
  subst hK
  intro pins s σ H x vs v us Q I rx rv h
  obtain ⟨l, b, xs, zs, rfl, rfl, hH, hB, hz, q⟩ := h
  cases rx
  obtain ⟨u, rfl, ru⟩ := rv.one
  cases ru
  obtain ⟨z, its, n, r, hl, e⟩ := I.lstM hH
  obtain ⟨its2, r2, ⟨o2, e2, c2, n2, d2⟩, z2⟩ := I.tuple hB
  have hl2 := r2.length
  obtain ⟨oc, od, odt, osl⟩ := o2
  simp only at c2 d2
  subst c2 d2
  have hsz : its.toArray.size + its2.toArray.size ≤ sizeLine := by rw [List.size_toArray, List.size_toArray]; omega
  have hlong : ¬ (!its.toArray.isEmpty && Builtin.List.listTooLong (its.toArray.size + its2.toArray.size)) = true := by
    rw [notLongL hsz, Bool.and_false]
    exact Bool.false_ne_true
  refine call_meets F.slot_list_extend ⟨_, e, rfl⟩ F.entry_list_extend (F.args_list_extend_2 _ _)
    (ext_tup l its.toArray n b its2.toArray n2 od osl hlong (by rw [List.size_toArray]; omega) (by omega)) ⟨e, e2, ?_⟩
  refine ⟨.non, _, I.lset (its' := its ++ its2) hH e (by simp) (r.append r2) ?_, rfl, q⟩
  rw [List.length_append]
  omega
/-- what a def with a star parameter binds -/
def BindsS (fd : FuncData) (ps : List Str) (pv : Str) : Prop := ∀ us rest : List Value, us.length = ps.length → bindArgs fd ⟨us ++ rest, []⟩ = (newTuple rest >>= fun t => pure (ps.zip us ++ [(pv, t)]))
/-- the promise of a def with a star parameter, from that of its body -/
def spS (n : Nat) (sp : Sp) : Sp := fun vs H Q E => ∃ ws rest, vs = ws ++ rest ∧ ws.length = n ∧ rest.length ≤ sizeLine ∧ ∀ p, H p = Option.none → sp (ws ++ [V.ref p]) (upd H p (.tup rest)) Q E
section
variable {P : Program} {w : World} {K : PySem.W.Frag} {mg : Str → Option Value} {base : Heap}
theorem okS {x qual : Str} {st : Stmt} {f : Addr} {fd : FuncData} {N ps : List Str} {pv : Str} {k : Nat} {sp : Sp} (F : Fun K x qual st f fd) (S : FnScope N (ps ++ [pv]) (defScope st)) (hb : BindsS fd ps pv)
    (hbody : ∀ (cdv : Value) (A : Around) (outer : List Env) (s : Shared) (H : Hp) (vs : List V) (Q : VK) (E : XK), Room k (A.deeper (envOfC qual (defScope st) s.heap.objs.size f cdv)) → sp vs H Q E →
      ∃ t, PSs (cxOf CX0 P w K mg base N qual (defScope st) f cdv A outer s H E).nox (defBody st) t ∧ t { nx := fun _ H' => Q .non H', rt := Q } (L2.start N vs) H) : FnR P w K mg base CX0 (k + 1) f (spS ps.length sp) := by
  obtain ⟨oc, od, kV, doc, pm, an, cdv, ct, osl, rfl, lk, hcd⟩ := F.ex
  refine StX.fn_star (pv := pv) (ps := ps) lk hcd S StX.cxUp_none hb fun A outer s H vs Q E hr hsp => ?_
  obtain ⟨t, h, q⟩ := hbody cdv A outer s H vs Q E hr hsp
  exact ⟨t, h.nox, q⟩
end
section
variable {X : Cx} {CX : CXT} {k : Nat} {f : Addr} {sp : Sp} {E : XK} {x : Str} {p pos : Pos} {e : Expr} {es : List Expr} {t : TA}
/-- x(e, ..) by a positional promise -/
theorem pe_callP (F : FnR X.prog X.w X.K X.mg X.base CX k f sp) (hr : Room k X.A) (hgl : Gl X x) (hm : X.mg x = some (.ref f)) (hk : PySem.W.keepIn X.K (.ref f) = true) (hx : Passes CX X E)
    (ha : PA X (e :: es) t) (hdb : (x == ("__debug__" : Str)) = false := by decide) (he : starEach (e :: es) X.env = (false, eval e X.env) :: starEach es X.env := by rfl) (hpl : (backTo pos (starEach es X.env)).any (·.1) = false := by rfl) :
    PE X (.Call (.Name x p) (e :: es) [] pos) (fun σ H Q => t σ H fun vs H1 => sp vs H1 Q E) := by
  refine ⟨fun pins s σ H Q I h => ?_⟩
  refine wpAny_Call_Name_kw (ld_glob I hgl hm ?_ hdb)
  refine PySem.W.callWith_K (h₀ := X.base) I.ok.mod.kin hk (thn (ha.run pos pins s σ H _ I h) fun us s1 ⟨vs, H1, I1, r, q⟩ => ⟨I1.kIn, ?_⟩) he hpl
  exact wpAny_call (run_fnR F hr hx I1 r q)
/-- x() -/
theorem pe_callP0 (F : FnR X.prog X.w X.K X.mg X.base CX k f sp) (hr : Room k X.A) (hgl : Gl X x) (hm : X.mg x = some (.ref f)) (hk : PySem.W.keepIn X.K (.ref f) = true) (hx : Passes CX X E) (hdb : (x == ("__debug__" : Str)) = false := by decide) :
    PE X (.Call (.Name x p) [] [] pos) (fun _ H Q => sp [] H Q E) := by
  refine ⟨fun pins s σ H Q I h => ?_⟩
  refine wpAny_Call_Name_kw (ld_glob I hgl hm ?_ hdb)
  exact PySem.W.callWith_K0 I.kIn hk (wpAny_call (run_fnR (us := []) F hr hx I .nil h))
end
section
variable {B : List Value → Sem (List (Str × Value))} {p1 p2 p3 p4 pv : Str}
theorem bindS0 (h0 : B [] = (newTuple [] >>= fun t => pure [(pv, t)])) (h1 : ∀ r rs, B (r :: rs) = (newTuple (r :: rs) >>= fun t => pure [(pv, t)])) :
    ∀ us rest : List Value, us.length = ([] : List Str).length → B (us ++ rest) = (newTuple rest >>= fun t => pure (([] : List Str).zip us ++ [(pv, t)]))
  | [], [], _ => h0
  | [], r :: rs, _ => h1 r rs
theorem bindS1 (h0 : ∀ a, B [a] = (newTuple [] >>= fun t => pure [(p1, a), (pv, t)])) (h1 : ∀ a r rs, B (a :: r :: rs) = (newTuple (r :: rs) >>= fun t => pure [(p1, a), (pv, t)])) :
    ∀ us rest : List Value, us.length = [p1].length → B (us ++ rest) = (newTuple rest >>= fun t => pure ([p1].zip us ++ [(pv, t)]))
  | [a], [], _ => h0 a
  | [a], r :: rs, _ => h1 a r rs
theorem bindS4 (h0 : ∀ a b c d, B [a, b, c, d] = (newTuple [] >>= fun t => pure [(p1, a), (p2, b), (p3, c), (p4, d), (pv, t)])) (h1 : ∀ a b c d r rs, B (a :: b :: c :: d :: r :: rs) = (newTuple (r :: rs) >>= fun t => pure [(p1, a), (p2, b), (p3, c), (p4, d), (pv, t)])) :
    ∀ us rest : List Value, us.length = [p1, p2, p3, p4].length → B (us ++ rest) = (newTuple rest >>= fun t => pure ([p1, p2, p3, p4].zip us ++ [(pv, t)]))
  | [a, b, c, d], [], _ => h0 a b c d
  | [a, b, c, d], r :: rs, _ => h1 a b c d r rs
end
end XL
set_option Elab.async false
set_option linter.all false
set_option maxRecDepth 100000
set_option maxHeartbeats 4000000
/-! XTree: t[::-1] of a tuple; == of data of more levels; objects whose own __iter__ hands on iter(l), l a list. -/
namespace XL
open PySem PySem.Spec PyProof.Rows L2
section
variable {prog : Program} {w : World} {A : Around} {E : Value → Shared → Prop} {s : Shared}
theorem applied_rev {sl : Addr} {t : Tok} {n : Nat} {Q : Int × Int × Nat → Shared → Prop} (hs : s.heap.IsSliceOf sl .none .none (.int (-1) t)) (h : Q ((n : Int) - 1, -1, n) s) :
    wpAny (model prog w) A (Builtin.Slice.sliceApplied (.ref sl) (pure (n : Int))) Q E s := by
  obtain ⟨os, hos, hcs, hds⟩ := id hs
  unfold Builtin.Slice.sliceApplied Builtin.Slice.sliceFields
  refine wpAny_bind (wpAny_bind (wpAny_field hos hds (x := .none) rfl (wpAny_bind (wpAny_field hos hds (x := .none) rfl (wpAny_bind (wpAny_field hos hds (x := .int (-1) t) rfl (wpAny_pure ?_)))))))
  refine wpAny_bind (HT.slicePart_ (.int (-1) t) ?_)
  show wpAny _ _ (if ((-1 : Int) == 0) = true then _ else _) _ _ s
  rw [if_neg (by decide)]
  refine wpAny_bind (HT.slicePart_ .none (wpAny_bind (HT.slicePart_ .none (wpAny_bind (wpAny_pure ?_)))))
  show wpAny _ _ (pure ((n : Int) - 1, (-1 : Int), Builtin.Slice.slicePlaces ((n : Int) - 1) (-1) (-1))) _ _ s
  have e : Builtin.Slice.slicePlaces ((n : Int) - 1) (-1) (-1) = n := by
    unfold Builtin.Slice.slicePlaces
    have h1 : ¬ ((-1 : Int) > 0) := by decide
    simp only [h1, if_false]
    split
    · rw [show (- -1 : Int) = 1 by decide, Int.ediv_one]
      omega
    · omega
  rw [e]
  exact wpAny_pure h
theorem fm_congr {α β : Type} {f g : α → Option β} : ∀ {l : List α}, (∀ x ∈ l, f x = g x) → l.filterMap f = l.filterMap g
  | [], _ => rfl
  | x :: l, h => by
    rw [List.filterMap_cons, List.filterMap_cons, h x List.mem_cons_self, fm_congr (l := l) fun y hy => h y (List.mem_cons_of_mem _ hy)]
theorem pick_rev (xs : Array Value) : ((List.range xs.size).filterMap fun (k : Nat) => xs[(((xs.size : Int) - 1) + (k : Int) * (-1)).toNat]?).toArray = xs.toList.reverse.toArray := by
  have z := PySem.W.krv_pick xs
  rw [← z]
  unfold slicePick
  rw [PySem.W.krv_bounds]
  show _ = ((sliceRange ((xs.size : Int) - 1) (-1) (-1)).filterMap (xs[·]?)).toArray
  rw [PySem.W.krv_sliceRange, List.filterMap_map]
  congr 1
  refine fm_congr fun k hk => ?_
  have := List.mem_range.mp hk
  have e : (((xs.size : Int) - 1) + (k : Int) * (-1)).toNat = xs.size - 1 - k := by omega
  show xs[_]? = xs[xs.size - 1 - k]?
  rw [e]
theorem getItem_tuple_rev {t sl : Addr} {tk : Tok} {items : Array Value} {Q : Value → Shared → Prop} (ht : IsTup s.heap t items) (hs : s.heap.IsSliceOf sl .none .none (.int (-1) tk))
    (h : Q (.ref s.heap.objs.size) { s with heap := s.heap.push { cls := .type "tuple", data := .seq items.toList.reverse.toArray } }) (hsz : items.size ≤ sizeLine) : wpAny (model prog w) A (getItem (.ref t) (.ref sl)) Q E s := by
  have htake : sizeOk (.seq items.toList.reverse.toArray) := by
    show items.toList.reverse.toArray.size ≤ sizeLine
    rw [List.size_toArray, List.length_reverse, Array.length_toList]
    exact hsz
  obtain ⟨os, hos, hcs, hds⟩ := id hs
  have hTs : s.TypeIs (.ref sl) "slice" := ⟨os, hos, hcs⟩
  unfold getItem
  try with_reducible refine wpAny_holding ?_
  first | refine wpAny_bind (wpAny_pure ?_) | skip
  refine wpAny_bind (wpAny_sequenceKey ht.typeIs (by decide) ?_)
  refine wpAny_bind (wpAny_callSpecial?_slot (name := Str.ofString "__getitem__") ht.typeIs PyProof.Rows.slot_tuple_getitem
    (wpAny_call_entry PyProof.Rows.slot_tuple_getitem ht.typeIs entry_tuple_getitem ?_ (args_tuple_getitem _ _)))
  show wpAny _ _ (Builtin.Tuple.tupleItemsOf (.ref t) >>= _) _ _ s
  refine wpAny_bind (tupleItemsOf_ ht ?_)
  refine wpAny_bind (wpAny_typeOf hTs ?_)
  rw [if_pos (by decide)]
  refine wpAny_bind (applied_rev hs ?_)
  have hno : ¬ (((items.size : Int) - 1 == 0 && (-1 : Int) == 1 && items.size == items.size) = true) := by
    intro q
    rw [Bool.and_eq_true, Bool.and_eq_true] at q
    exact absurd q.1.2 (by decide)
  show wpAny _ _ (if ((items.size : Int) - 1 == 0 && (-1 : Int) == 1 && items.size == items.size) = true then _ else _) _ _ s
  rw [if_neg hno, pick_rev]
  first
    | exact wpAny_bind (m := Builtin.Tuple.tupleExact _) (wpAny_newObj_type (wpAny_pure ⟨_, rfl, wpAny_pure h⟩) htake)
    | exact wpAny_bind (m := Builtin.Tuple.tupleExact _) (wpAny_newObj_type (wpAny_bind (wpAny_pure (wpAny_pure ⟨_, rfl, wpAny_pure h⟩))) htake)
    | exact wpAny_bind (wpAny_bind (m := Builtin.Tuple.tupleExact _) (wpAny_newObj_type (wpAny_pure (wpAny_pure ⟨_, rfl, wpAny_pure h⟩)) htake))
    | exact wpAny_bind (wpAny_bind (m := Builtin.Tuple.tupleExact _) (wpAny_newObj_type (wpAny_pure ⟨_, rfl, wpAny_pure h⟩) htake))
end
def tRevT (K : PySem.W.Frag) (te : TE) : TE := fun σ H Q => te σ H fun x H1 => ∃ a xs, x = .ref a ∧ SqT K H1 a xs ∧ ∀ p, H1 p = none → Q (.ref p) (upd H1 p (.tup xs.reverse))
theorem pe_revT {X : Cx} {e m : Expr} {te : TE} {p2 pos : Pos} (he : PE X e te) (hm : PE X m (tC (.int (-1)))) : PE X (.Subscript e (.Slice none none (some m) p2) pos) (tRevT X.K te) := by
  refine ⟨fun pins s σ H Q I h => ?_⟩
  refine Subscript_ (thn (he.run pins s σ H _ I h) fun v s1 ⟨x, H1, I1, r1, q1⟩ => ?_)
  refine wpAny_Slice (wpAny_evalPart_none (wpAny_evalPart_none (wpAny_evalPart_some (thn (hm.run pins s1 σ H1 (fun y H2 => y = .int (-1) ∧ H2 = H1) I1 ⟨rfl, rfl⟩) fun vm s3 ⟨y, H3, I3, r3, ey, eH⟩ => ?_))))
  subst ey eH
  obtain ⟨t, rfl⟩ := r3
  obtain ⟨a, xs, rfl, hx, q⟩ := q1
  cases r1
  have I4 : L2.Inv X pins σ H3 { s3 with heap := s3.heap.push { cls := .type "slice", data := .fields #[.none, .none, .int (-1) t] } } := I3.kept (t' := s3.toks) fun b ob q => Heap.get?_push_of_some _ q
  obtain ⟨its, r, ht, hz⟩ := I4.tuple hx
  have hlen := r.length
  show wpAny (model X.prog X.w) X.A (subscriptTail e (.Slice none none (some m) p2) (.ref a) (.ref s3.heap.objs.size)) (EP X pins σ Q) X.xe { s3 with heap := s3.heap.push { cls := .type "slice", data := .fields #[.none, .none, .int (-1) t] } }
  refine tail_any (ops := [.ref a, .ref s3.heap.objs.size]) ht.typeIs PyProof.Rows.slot_tuple_getitem.lookup ?_ (by with_unfolding_all rfl)
  refine getItem_tuple_rev ht (Heap.IsSliceOf.new ..) ?_ (by rw [List.size_toArray] <;> omega)
  refine ⟨.ref _, _, I4.laid (t' := s3.toks) (o := .tup xs.reverse) (fun b ob q => Heap.get?_push_of_some _ q) (Nat.le_refl _) ?_, rfl, q _ (I4.hok.fresh (Nat.le_refl _))⟩
  exact ⟨by rw [List.length_reverse]; exact hz, its.reverse, r.reverse, ⟨_, Heap.get?_push_size _ rfl, rfl, _, rfl⟩⟩
theorem pe_revTK {X : Cx} {e m : Expr} {te : TE} {p2 pos : Pos} (K : PySem.W.Frag) (he : PE X e te) (hm : PE X m (tC (.int (-1)))) (h : X.K = K := by rfl) : PE X (.Subscript e (.Slice none none (some m) p2) pos) (tRevT K te) := h ▸ pe_revT he hm
/-! ### == of data of up to 190 levels -/
def rEqL (K : PySem.W.Frag) : R2 := fun x y H Q => ∃ d e, Dp K H x d ∧ Dp K H y e ∧ d.canLay0 = true ∧ e.canLay0 = true ∧ d.depth ≤ 190 ∧ Q (.bl (PyData.eqv d e)) H
theorem op_eqL {X : Cx} (K : PySem.W.Frag) (hu : X.A.units + 190 < cLine) (hK : X.K = K := by rfl) : OpR X (compareOp .Eq) (rEqL K) := by
  subst hK
  intro pins s σ H x y v u Q I rx ry h
  obtain ⟨d, e, hd, he, sd, se, dp, q⟩ := h
  obtain ⟨as, r1⟩ := Dp.reads I d x v hd rx
  obtain ⟨bs, r2⟩ := Dp.reads I e y u he ry
  exact SeqAt.compareEq_reads r1 r2 sd se (by have := Nat.min_le_left d.depth e.depth; omega) ⟨.bl _, H, I, rfl, q⟩
/-! ### a promise that knows how large the heap was -/
structure FnY (P : Program) (w : World) (K : PySem.W.Frag) (mg : Str → Option Value) (base : Heap) (CX : CXT) (k : Nat) (f : Addr) (fd : FuncData) (ps : List Str) (sp : Nat → Sp) : Prop where
  len : ∀ n vs H Q E, sp n vs H Q E → vs.length = ps.length
  run : ∀ (A : Around) (outer : List Env) (s : Shared) (H : Hp) (args : Args) (us : List Value) (vs : List V) (Q : VK) (E : XK), Room k A → Env0 P w K mg base A outer s H → BindsTo s fd args (ps.zip us) → Vals vs us → sp s.heap.objs.size vs H Q E →
    codeAny (model P w) A (.call (.ref f) args) (CR CX outer P w H s Q E) s
section
variable {P : Program} {w : World} {K : PySem.W.Frag} {mg : Str → Option Value} {base : Heap} {CX : CXT}
theorem fnY_of {x qual : Str} {st : Stmt} {f : Addr} {fd : FuncData} {N ps : List Str} {k : Nat} {sp : Nat → Sp} (F : Fun K x qual st f fd) (S : FnScope N ps (defScope st)) (len : ∀ n vs H Q E, sp n vs H Q E → vs.length = ps.length)
    (hbody : ∀ (cdv : Value) (A : Around) (outer : List Env) (s : Shared) (H : Hp) (vs : List V) (Q : VK) (E : XK), Room k (A.deeper (envOfC qual (defScope st) s.heap.objs.size f cdv)) → sp s.heap.objs.size vs H Q E →
      ∃ t, PSs (cxOf CX P w K mg base N qual (defScope st) f cdv A outer s H E) (defBody st) t ∧ t { nx := fun _ H' => Q .non H', rt := Q } (L2.start N vs) H) : FnY P w K mg base CX (k + 1) f fd ps sp := by
  obtain ⟨oc, od, kV, doc, pm, an, cdv, ct, osl, rfl, lk, hcd⟩ := F.ex
  refine ⟨len, fun A outer s H args us vs Q E hr e0 hb r hsp => ?_⟩
  have hl := len _ _ _ _ _ hsp
  have KX : K.In s.heap := e0.mod.kin.keeps fun b o e => (e0.bs b o e).1
  have lim : s.heap.NoLimit := e0.mod.nolimit.keeps fun b o e => (e0.bs b o e).1
  have hkind : ∀ y ∈ ps.zip us, (defScope st).names.lookup y.1 = some .local ∨ ((defScope st).names.lookup y.1 = some .cell ∧ ((cellsFrom (s.heap.objs.size + 1) (defScope st).names []).lookup y.1).isSome = true) := fun ⟨n, v⟩ hy => by
    rcases S.par n (List.of_mem_zip hy).1 with q | q
    · exact .inl q
    · exact .inr ⟨q, PySem.W.cellsFrom_some _ _ _ (.inl q)⟩
  refine codeAny_call_function hr.depth (KX _ _ lk) rfl S.co S.gen rfl (PySem.W.codeRec_of KX hcd) (hb _ _ _ _ ?_)
  refine wpAny_newFunctionEnv_cells S.kind hkind fun env he s1 x => ?_
  subst he
  refine ⟨lim.keeps x.toInCall.keep, codeAny_func ?_⟩
  obtain ⟨t, ht, hq⟩ := hbody cdv A outer s H vs Q E (hr.deeper _) hsp
  have I : Inv (cxOf CX P w K mg base N qual (defScope st) f cdv A outer s H E) [] (L2.start N vs) H s1 := inv_start S hr.hd e0 hl r x
  refine wpAny_mono (ht.run [] s1 (L2.start N vs) H _ I hq) (fun fl s' hs => ?_) fun e s' hs => hs
  cases fl with
  | ret u =>
    obtain ⟨v, σ', H', J, rv, q⟩ := hs
    exact ⟨v, H', J.os, J.bare, J.base, J.hok, rv, q⟩
  | next =>
    obtain ⟨σ', H', J, q⟩ := hs
    exact ⟨V.non, H', J.os, J.bare, J.base, J.hok, rfl, q⟩
  | brk =>
    obtain ⟨_, _, _, q⟩ := hs
    exact False.elim q
  | cont =>
    obtain ⟨_, _, _, q⟩ := hs
    exact False.elim q
theorem okY {x qual : Str} {st : Stmt} {f : Addr} {fd : FuncData} {N ps : List Str} {k : Nat} {sp : Nat → Sp} (F : Fun K x qual st f fd) (S : FnScope N ps (defScope st)) (len : ∀ n vs H Q E, sp n vs H Q E → vs.length = ps.length)
    (hbody : ∀ (cdv : Value) (A : Around) (outer : List Env) (s : Shared) (H : Hp) (vs : List V) (Q : VK) (E : XK), Room k (A.deeper (envOfC qual (defScope st) s.heap.objs.size f cdv)) → sp s.heap.objs.size vs H Q E →
      ∃ t, PSs (cxOf CX0 P w K mg base N qual (defScope st) f cdv A outer s H E).nox (defBody st) t ∧ t { nx := fun _ H' => Q .non H', rt := Q } (L2.start N vs) H) : FnY P w K mg base CX0 (k + 1) f fd ps sp :=
  fnY_of F S len fun cdv A outer s H vs Q E hr hsp => let ⟨t, h, q⟩ := hbody cdv A outer s H vs Q E hr hsp; ⟨t, h.nox, q⟩
end
/-! ### for x in o, o an object whose own __iter__ hands on iter(l) -/
theorem dropH_upd {H : Hp} {a : Addr} {o : HO} (h : H a = none) : ItX.dropH (upd H a o) a = H := by
  funext b
  by_cases e : b = a
  · rw [e, ItX.dropH_same, h]
  · rw [ItX.dropH_ne e, upd_ne e]
def iOwnL (K : PySem.W.Frag) (C : Addr) (sp : Nat → Sp) (E : XK) (te : TE) : TI := fun σ H R => te σ H fun x H1 => ∃ a dx fs, x = .ref a ∧ H1 a = some (.ins C dx fs) ∧
  ∀ n, sp n [.ref a] H1 (fun v H2 => ∃ (it l : Addr), v = .ref it ∧ n ≤ it ∧ H2 it = some (ItO l it 0) ∧ R (Itl K l) (ItX.dropH H2 it)) E
theorem pi_ownL {X : Cx} {CX : CXT} {C f : Addr} {fd : FuncData} {ps : List Str} {sp : Nat → Sp} {E : XK} {n : Nat} {tg e : Expr} {te : TE} (he : PE X e te) (F : FnY X.prog X.w X.K X.mg X.base CX n f fd ps sp)
    (hs : PySem.W.findIn X.K (.ref C) "__iter__" = some (some (.ref f))) (hfn : PySem.W.isFn X.K (.ref f) = true) (hb : Binds X.K fd ps []) (hx : Passes CX X E) (hr : Room n X.A) : PI X tg e (iOwnL X.K C sp E te) := by
  refine ⟨fun pins s σ H R I h => ?_⟩
  refine thn (he.run pins s σ H _ I h) fun u s1 ⟨x, H1, I1, r1, a, dx, fs, ex, ha, hsp0⟩ => ?_
  subst ex
  cases r1
  have hsp := hsp0 s1.heap.objs.size
  obtain ⟨mA, J, _⟩ := ins_get I1.hok ha
  obtain ⟨od, J, _⟩ := J.look
  obtain ⟨m0, hF⟩ := I1.fr
  refine PySem.W.owit_iter hF I1.ok.mod.kin J hs hfn ?_
  have hl := F.len _ _ _ _ _ hsp
  refine wpAny_call (codeAny_mono (F.run X.A X.stack s1 H1 ⟨[.ref a], []⟩ [.ref a] [.ref a] _ E hr I1.env0 (by
    have := hb s1 [.ref a] I1.kIn (by simpa using hl)
    simpa using this) (.cons rfl .nil) hsp) fun r s' hq => ?_)
  cases r with
  | error e => exact hx pins σ _ _ e s' I1 hq
  | ok fl =>
    cases fl with
    | next => exact False.elim hq
    | brk => exact False.elim hq
    | cont => exact False.elim hq
    | ret u =>
      obtain ⟨v, H', I', rv, it, l, ev, young, hit, hR⟩ := I1.after hq
      subst ev
      cases rv
      have eo := itO_get I' hit
      have st : s'.heap.IsListIter it l 0 := ⟨_, eo, rfl, rfl⟩
      show wpAny _ _ (specialOf (.ref it) "__next__") _ _ _
      refine wpAny_specialOf st.typeIs slot_listiter_next.lookup ?_
      have hi' := hit
      unfold ItO at hi'
      refine ⟨it, [it], _, _, ItX.dropH H' it, rfl, ItX.inv_drop I' hi', turn_list l it, st, fun b hb => ?_, hR⟩
      have e : b = it := by simpa using hb
      rw [e]
      exact ItX.inv_fp I' hit (Nat.le_trans I1.sz young)
theorem pi_ownLK {X : Cx} {CX : CXT} {C f : Addr} {fd : FuncData} {ps : List Str} {sp : Nat → Sp} {E : XK} {n : Nat} {tg e : Expr} {te : TE} (K : PySem.W.Frag) (he : PE X e te) (F : FnY X.prog X.w X.K X.mg X.base CX n f fd ps sp)
    (hs : PySem.W.findIn X.K (.ref C) "__iter__" = some (some (.ref f))) (hfn : PySem.W.isFn X.K (.ref f) = true) (hb : Binds X.K fd ps []) (hx : Passes CX X E) (hr : Room n X.A) (h : X.K = K := by rfl) : PI X tg e (iOwnL K C sp E te) := h ▸ pi_ownL he F hs hfn hb hx hr
/-! ### list(o) -/
theorem next_lst_end {P : Program} {w : World} {A : Around} {E : Value → Shared → Prop} {s : Shared} {it t : Addr} {i : Nat} {items : Array Value} {Q : Option Value → Shared → Prop} (hh : A.handled = none)
    (hit : s.heap.IsListIter it t i) (ht : s.heap.IsList t items) (hx : items[i]? = none)
    (hQ : ∀ h', Heap.ExtBut it s.heap h' → (∃ o, h'.get? it = some o) → Q none { s with heap := h' }) : wpAny (model P w) A (pyNext (.ref it)) Q E s := by
  obtain ⟨o, ho, hc, hd⟩ := id hit
  obtain ⟨ol, hol, _, nl, hdl⟩ := ht
  unfold pyNext
  refine wpAny_bind (wpAny_attempt (wpAny_callSpecial?_slot (name := Str.ofString "__next__") hit.typeIs slot_listiter_next (wpAny_call_entry slot_listiter_next hit.typeIs entry_listiter_next ?_ (args_listiter_next _))))
  show wpAny _ _ (field (.ref it) 0 >>= _) _ _ s
  refine wpAny_bind (wpAny_field ho hd (x := .ref t) rfl (PySem.W.KFB.if_not rfl ?_))
  show wpAny _ _ (field (.ref it) 1 >>= _) _ _ s
  refine wpAny_bind (wpAny_field ho hd (x := .int i 0) rfl ?_)
  show wpAny _ _ (seqItems? (.ref t) >>= _) _ _ s
  refine wpAny_bind (wpAny_seqItems hol hdl ?_)
  simp only [Int.toNat_natCast, hx]
  refine wpAny_bind (wpAny_rule (wpAny_bind (wpAny_setField ho hd (by simp) ?_)))
  show wpAny _ _ (newExc (.type "StopIteration") [] >>= _) _ _ _
  refine wpAny_bind ?_
  simp only [newExc, newTuple]
  refine wpAny_bind (wpAny_newObj_type ?_ (by size_fits))
  refine wpAny_bind (m := firstArgMember _ _) (wpAny_of_eq (a := Value.none) (by first | rfl | (simp only [firstArgMember]; rfl)) ?_)
  refine wpAny_newObj_type ?_ (by size_fits)
  simp only [raiseNew]
  refine wpAny_bind (wpAny_handled ?_)
  first | rw [show A.in1.handled = none from hh] | rw [hh]
  refine wpAny_bind (wpAny_pure (wpAny_throw ?_))
  refine wpAny_bind (wpAny_isInstance (T := "StopIteration") (b := true) ⟨_, Heap.get?_push_size _ rfl, rfl⟩ isSubtype_stop ?_)
  exact wpAny_pure (hQ _ (((Heap.SameBut.update ..).extBut.push _).push _) ⟨_, Heap.get?_push_of_some _ (Heap.get?_push_of_some _ (Heap.get?_update_self _ ho (Obj.isFreed_of_fields (Obj.data_mapFields hd _))))⟩)
def ItL (l it : Addr) (i : Nat) : HO := .ext fun h => h.IsListIter it l i
theorem itL_ok {P : Program} {w : World} {H : Hp} {h : Heap} {t it : Addr} {i : Nat} (e : h.IsListIter it t i) : ObjOk P w H h it (ItL t it i) := by
  obtain ⟨o, ho, r⟩ := id e
  exact ⟨e, ⟨_, ho⟩, fun g1 g2 q k => q.at fun o e => k o e⟩
section
variable {X : Cx} {pins : List (Addr × Obj)} {σ : L2.St} {H : Hp} {s : Shared}
theorem itL_get {t it : Addr} {i : Nat} (I : Inv X pins σ H s) (e : H it = some (ItL t it i)) : s.heap.IsListIter it t i := (I.hok it _ e).1
/-- the loop that fills the list at q -/
theorem loop_lst {A1 : Around} {Rs : Result → Shared → Prop} {q it t : Addr} {zs : List V} (hd : A1.in1.handled = none) (hne : q ≠ it) :
    ∀ (k i : Nat) (H : Hp) (s : Shared), zs.length - i = k → i ≤ zs.length → Inv X pins σ H s → H it = some (ItL t it i) → it ≠ t → q ≠ t → H t = some (.lst zs) → H q = some (.lst (zs.take i)) →
      (∀ s', Inv X pins σ (upd (upd H it (ItTE it)) q (.lst zs)) s' → Rs (.ok (.ret .none)) s') → codeAny (model X.prog X.w) A1 (.builtin "list.extend.loop" ⟨[.ref q, .ref it, .none], []⟩) Rs s := by
  intro k
  induction k with
  | zero =>
    intro i H s hk hi I hit nit nqt ht hq hR
    obtain ⟨its, rv, pl, hz⟩ := I.list (SqL.of ht)
    have hin : zs.length = its.length := rv.length
    have mu : Mut (H it) := by rw [hit]; exact True.intro
    refine codeAny_builtin PySem.F.entry_extend_loop ?_
    rw [Around.under_plainId PySem.F.plain_extend_loop _]
    show wpAny _ A1.in1 (pyNext (.ref it) >>= _) _ _ s
    have ei : i = zs.length := by omega
    refine wpAny_bind (next_lst_end hd (itL_get I hit) pl.isList (by rw [List.getElem?_toArray]; exact List.getElem?_eq_none (by omega)) fun h' eb ⟨o, ho⟩ => wpAny_pure ?_)
    have I2 : Inv X pins σ (upd H it (ItTE it)) { s with heap := h' } := I.write (x := it) (e := it) (t' := s.toks) mu (.inl rfl) (fun b o nb z => eb b o nb z) ⟨_, ho⟩ (itTE_ok ho)
    refine hR _ ?_
    have e : upd (upd H it (ItTE it)) q (.lst zs) = upd H it (ItTE it) := by
      funext b
      by_cases hb : b = q
      · rw [hb, upd_same, upd_ne hne, hq, ei, List.take_length]
      · rw [upd_ne hb]
    rw [e]
    exact I2
  | succ k ih =>
    intro i H s hk hi I hit nit nqt ht hq hR
    obtain ⟨its, rv, pl, hz⟩ := I.list (SqL.of ht)
    have hin : zs.length = its.length := rv.length
    have mu : Mut (H it) := by rw [hit]; exact True.intro
    have hlt : i < zs.length := by omega
    have hzi := List.getElem?_eq_getElem hlt
    obtain ⟨u, hu, ru⟩ := rv.get hzi
    refine codeAny_builtin PySem.F.entry_extend_loop ?_
    rw [Around.under_plainId PySem.F.plain_extend_loop _]
    show wpAny _ A1.in1 (pyNext (.ref it) >>= _) _ _ s
    refine wpAny_bind (wpAny_pyNext_list_item (itL_get I hit) pl.isList (by rw [List.getElem?_toArray]; exact hu) fun h' hit' sb => ?_)
    obtain ⟨o, ho, _⟩ := id hit'
    have I2 : Inv X pins σ (upd H it (ItL t it (i + 1))) { s with heap := h' } := I.write (x := it) (e := it) (t' := s.toks) mu (.inl rfl) (fun b o nb z => (sb.2 b nb).trans z) ⟨_, ho⟩ (itL_ok hit')
    have hq2 : upd H it (ItL t it (i + 1)) q = some (.lst (zs.take i)) := by rw [upd_ne hne]; exact hq
    show wpAny _ A1.in1 (updateSeq q (·.push u) >>= _) _ _ _
    obtain ⟨z, its2, c, r2, hl, e⟩ := I2.lstM hq2
    have l2 : its2.length ≤ 16777215 := by
      rw [← hl, List.length_take]
      have := hz
      rw [sizeLine_eq] at this
      omega
    refine wpAny_bind (wpAny_updateSeq e rfl (wpAny_pure ⟨plainId_quiet PySem.F.plain_extend_loop _, ?_⟩) (by rw [List.size_toArray, sizeLine_eq]; omega) (by show (its2.toArray.push u).size ≤ sizeLine + 1; rw [Array.size_push, List.size_toArray, sizeLine_eq]; omega))
    have I3 := I2.lset (f := (·.push u)) (its' := its2 ++ [u]) (ys := zs.take i ++ [zs[i]]) (t' := s.toks) hq2 e (by simp) (r2.append (.cons ru .nil)) (by rw [List.length_append, List.length_singleton, List.length_take, sizeLine_eq]; rw [sizeLine_eq] at hz; omega)
    refine ih (i + 1) _ _ (by omega) (by omega) I3 ?_ nit nqt ?_ ?_ fun s' I4 => hR s' ?_
    · rw [upd_ne (Ne.symm hne), upd_same]
    · rw [upd_ne (Ne.symm nqt), upd_ne (Ne.symm nit)]
      exact ht
    · rw [upd_same, take_snoc hzi]
    · have e4 : upd (upd (upd (upd H it (ItL t it (i + 1))) q (.lst (zs.take i ++ [zs[i]]))) it (ItTE it)) q (.lst zs) = upd (upd H it (ItTE it)) q (.lst zs) := by
        funext b
        by_cases hb : b = q
        · rw [hb, upd_same, upd_same]
        · rw [upd_ne hb, upd_ne hb]
          by_cases hb2 : b = it
          · rw [hb2, upd_same, upd_same]
          · rw [upd_ne hb2, upd_ne hb2, upd_ne hb, upd_ne hb2]
      rw [← e4]
      exact I4
def rListItL (C : Addr) (sp : Nat → Sp) (E : XK) : List V → Hp → VK → Prop := fun xs H Q => ∃ a dx fs, xs = [.ref a] ∧ H a = some (.ins C dx fs) ∧
  ∀ q n, H q = none → sp n [.ref a] (upd H q (.lst [])) (fun v H1 => ∃ (it t : Addr) (zs : List V), v = .ref it ∧ H1 it = some (ItO t it 0) ∧ it ≠ t ∧ q ≠ t ∧ H1 t = some (.lst zs) ∧ H1 q = some (.lst []) ∧ (∃ dx' fs', H1 a = some (.ins C dx' fs')) ∧ Q (.ref q) (upd (upd H1 it (ItTE it)) q (.lst zs))) E
theorem call_listItL {C f : Addr} {fd : FuncData} {ps : List Str} {sp : Nat → Sp} {E : XK} {n : Nat} {CX : CXT} (hs : PySem.W.findIn X.K (.ref C) "__iter__" = some (some (.ref f))) (hfn : PySem.W.isFn X.K (.ref f) = true) (n1 : PySem.W.findIn X.K (.ref C) "__len__" = some none) (n2 : PySem.W.findIn X.K (.ref C) "__length_hint__" = some none)
    (F : FnY X.prog X.w X.K X.mg X.base CX n f fd ps sp) (hb : Binds X.K fd ps []) (hx : Passes CX X E) (hr : Room (n + 2) X.A) : CallR X (.type "list") (rListItL C sp E) := by
  intro pins s σ H xs us Q I rv h
  obtain ⟨a, dx, fs, rfl, ha, hq⟩ := h
  obtain ⟨u, rfl, ru⟩ := rv.one
  cases ru
  have sb : Sub X n X.A.in1.in1 := (Sub.in1 (Sub.in1 (⟨hr, rfl⟩ : Sub X (n + 2) X.A)))
  refine callType_codes (Q₁ := fun obj s₁ => obj = .ref s.heap.objs.size ∧ s₁ = { s with heap := s.heap.push { cls := .type "list", data := .seq #[] } }) PySem.F.called_list (PySem.F.typeCall_list_1 _) PySem.F.entry_list_init
    (code_list_new _ ⟨rfl, rfl⟩) fun obj s₁ h₁ => ?_
  obtain ⟨rfl, rfl⟩ := h₁
  have hS : (s.heap.push { cls := .type "list", data := .seq #[] }).get? s.heap.objs.size = some { cls := .type "list", data := .seq #[] } := Heap.get?_push_size _ rfl
  refine ⟨⟨_, hS, rfl⟩, PySem.F.args_list_init_2 _ _, ?_⟩
  have fr : H s.heap.objs.size = none := I.hok.fresh (Nat.le_refl _)
  have hsp := fun n => hq _ n fr
  have I1 : Inv X pins σ (upd H s.heap.objs.size (.lst [])) { s with heap := s.heap.push { cls := .type "list", data := .seq #[] } } := I.lnew (its := []) (t' := s.toks) .nil (Nat.zero_le _)
  show wpAny _ _ (do let old ← Builtin.List.listItems (.ref s.heap.objs.size); Builtin.List.listUpdate (.ref s.heap.objs.size) (fun _ => #[]); letGo old.toList.reverse; Builtin.List.listExtendWith (.ref s.heap.objs.size) (.ref a) .none) _ _ _
  refine wpAny_bind ?_
  unfold Builtin.List.listItems
  refine wpAny_bind (wpAny_seqItems hS rfl (wpAny_pure ?_))
  show wpAny _ _ (updateSeq s.heap.objs.size (fun _ => #[]) >>= fun _ => letGo (#[] : Array Value).toList.reverse >>= fun _ => Builtin.List.listExtendWith (.ref s.heap.objs.size) (.ref a) .none) _ _ _
  refine wpAny_bind (wpAny_updateSeq hS rfl ?_)
  have I2 := I1.lset (f := fun _ => #[]) (its := []) (its' := []) (ys := []) (t' := s.toks) upd_same hS rfl .nil (Nat.zero_le _)
  rw [upd_upd] at I2
  refine wpAny_bind (wpAny_letGo ?_)
  have ha2 : upd H s.heap.objs.size (.lst []) a = some (.ins C dx fs) := by rw [upd_ne (ne_of_none ha fr)]; exact ha
  have hne : s.heap.objs.size ≠ a := Ne.symm (ne_of_none ha fr)
  generalize hH2 : upd H s.heap.objs.size (.lst []) = H2 at *
  generalize s.heap.objs.size = q at *
  obtain ⟨mA, J, _⟩ := ins_get I2.hok ha2
  obtain ⟨od, J, _⟩ := J.look
  obtain ⟨m0, hF⟩ := I2.fr
  unfold Builtin.List.listExtendWith
  refine wpAny_bind (J.type.here ?_)
  have h1 : Builtin.List.listSameRef (.ref q) (.ref a) = false := by simp [Builtin.List.listSameRef, hne]
  have h2 : (Value.ref C == Value.type "list") = false := rfl
  have h3 : (Value.ref C == Value.type "tuple") = false := rfl
  simp only [h1, h2, h3, Bool.or_false, Bool.false_eq_true, if_false]
  refine wpAny_bind (PySem.W.owit_iter hF I2.ok.mod.kin J hs hfn ?_)
  have e0 : ∀ {s : Shared} {H : Hp}, Inv X pins σ H s → Env0 X.prog X.w X.K X.mg X.base X.A.in1.in1 X.stack s H := fun {s H} I => by
    have e := I.env0
    exact ⟨by rw [sb.fr]; exact e.frames, e.mod, e.bs, e.bsz, e.funs, e.frf, e.hok, e.bare⟩
  have hl := F.len _ _ _ _ _ (hsp 0)
  have r2 : Vals [V.ref a] [Value.ref a] := .cons rfl .nil
  refine wpAny_call (codeAny_mono (F.run X.A.in1.in1 X.stack _ _ ⟨[.ref a], []⟩ [.ref a] [.ref a] _ E sb.room (e0 I2) (by
    have := hb _ [.ref a] I2.kIn (by simpa using hl)
    simpa using this) r2 (hsp _)) fun r s' hq' => ?_)
  cases r with
  | error e => exact hx pins σ _ _ e s' I2 hq'
  | ok fl =>
    cases fl with
    | next => exact False.elim hq'
    | brk => exact False.elim hq'
    | cont => exact False.elim hq'
    | ret u =>
      obtain ⟨v, H', I', rv, it, t, zs, ev, hit, nit, nqt, ht, hqq, ⟨dx', fs', ha'⟩, hQ⟩ := I2.after hq'
      subst ev
      cases rv
      have stt : ∀ s'', Inv X pins σ H' s'' → s''.heap.IsListIter it t 0 := fun s'' I'' => ⟨_, itO_get I'' hit, rfl, rfl⟩
      have hT : s'.TypeIs (.ref it) "list_iterator" := (stt s' I').typeIs
      have hqi : q ≠ it := fun z => by
        rw [z, hit] at hqq
        exact (nomatch hqq)
      show wpAny _ _ (specialOf (.ref it) "__next__") _ _ _
      refine wpAny_specialOf hT slot_listiter_next.lookup ?_
      obtain ⟨mA', J', _⟩ := ins_get I'.hok ha'
      obtain ⟨od', J', _⟩ := J'.look
      refine wpAny_bind (wpAny_holding (hint_own n1 n2 I'.kIn J' ?_))
      have go : ∀ s'', Inv X pins σ H' s'' → codeAny (model X.prog X.w) X.A.in1 (.builtin "list.extend.loop" ⟨[.ref q, .ref it, .none], []⟩) (wants (fun r s₂ => r = .none ∧ EP X pins σ Q (.ref q) s₂) X.xe) s'' := fun s'' I'' =>
by
        have mu : Mut (H' it) := by rw [hit]; exact True.intro
        obtain ⟨oi, ei, _⟩ := id (stt s'' I'')
        have I5 : Inv X pins σ (upd H' it (ItL t it 0)) s'' := I''.write (x := it) (e := it) (t' := s''.toks) mu (.inl rfl) (fun b o nb z => z) ⟨_, ei⟩ (itL_ok (stt s'' I''))
        refine loop_lst (t := t) (zs := zs) sb.room.hd hqi zs.length 0 _ s'' (by simp) (Nat.zero_le _) I5 upd_same nit nqt (by rw [upd_ne (Ne.symm nit)]; exact ht) (by rw [upd_ne hqi, hqq]; rfl) fun s3 I3 => ?_
        rw [upd_upd] at I3
        exact ⟨rfl, .ref q, _, I3, rfl, hQ⟩
      obtain ⟨z, its, k, r3, hl3, e3⟩ := I'.lstM hqq
      cases r3
      refine wpAny_ite_split (fun _ => ?_) (fun _ => wpAny_pure ⟨plainId_quiet PySem.F.plain_extend_loop _, go s' I'⟩)
      refine wpAny_bind (wpAny_rule ?_)
      refine wpAny_bind ?_
      show wpAny _ _ (updateSeq q (·.push .none) >>= fun _ => updateSeq q (·.pop)) _ _ _
      refine wpAny_bind (wpAny_updateSeq e3 rfl ?_)
      have I3 := I'.lset (f := (·.push Value.none)) (its' := [Value.none]) (ys := [.non]) (t' := s'.toks) hqq e3 (by simp) (.cons rfl .nil) (by rw [List.length_singleton, sizeLine_eq]; decide)
      obtain ⟨z4, its4, k4, r4, hl4, e4⟩ := I3.lstM upd_same
      obtain ⟨u4, rfl, ru4⟩ := r4.one
      refine wpAny_updateSeq e4 rfl ?_ (by show 1 ≤ sizeLine; rw [sizeLine_eq]; decide) (by show 0 ≤ sizeLine + 1; exact Nat.zero_le _)
      have I4 := I3.lset (f := (·.pop)) (its := [u4]) (its' := []) (ys := []) (t' := s'.toks) upd_same e4 (by rfl) .nil (Nat.zero_le _)
      rw [upd_upd] at I4
      have hH : upd H' q (.lst []) = H' := by
        funext b
        by_cases hb : b = q
        · rw [hb, upd_same, hqq]
        · rw [upd_ne hb]
      rw [hH] at I4
      exact wpAny_pure ⟨plainId_quiet PySem.F.plain_extend_loop _, go _ I4⟩
end
theorem u190 {k : Nat} {A : Around} (r : Room k A) : A.units + 190 < cLine := by have := r.un; omega
end XL
set_option Elab.async false
set_option linter.all false
set_option maxRecDepth 100000
set_option maxHeartbeats 4000000
/-! XFoc: o.f = v by an own property's setter; C(..) within a try; a call that raises within a def that lets it out; a written tuple. -/
namespace XL
open PySem PySem.Spec PyProof.Rows L2
structure PSet (K : PySem.W.Frag) (C : Addr) (f : Str) (p g : Addr) : Prop where
  tk : PySem.W.takerIn K C f = some (some (.ref p))
  ty : PySem.W.typeIn K (.ref p) = some (.type "property")
  rec_ : ∃ a rest, PySem.W.recIn K p "property" = some (a :: .ref g :: rest)
def sPSet (C : Addr) (sp : Sp) (E : XK) (ta tv : TE) : TS := fun D σ H => tv σ H fun y H1 => ta σ H1 fun x H2 => ∃ a dx fs, x = .ref a ∧ H2 a = some (.ins C dx fs) ∧ sp [.ref a, y] H2 (fun _ H3 => D.nx σ H3) E
section
variable {X : Cx} {CX : CXT} {k : Nat} {C p g : Addr} {f : Str} {fd : FuncData} {ps : List Str} {sp : Sp} {E : XK} {o value : Expr} {pos pos' : Pos} {ta tv : TE}
theorem Room.in2 {k : Nat} {A : Around} (r : Room (k + 2) A) : Room k A.in1.in1 := (Room.in1 (Room.in1 r))
/-- o.f = v, f a property with a setter -/
theorem ps_pset (ha : PE X o ta) (hv : PE X value tv) (c : Cls X.K C) (hp : PSet X.K C f p g) (F : FnOk X.prog X.w X.K X.mg X.base CX k g fd ps sp) (hr : Room (k + 2) X.A) (hb : Binds X.K fd ps []) (hx : Passes CX X E)
    (hs : swapsWith value (some (.Attribute o f pos')) pos.line X.env = pure false) : PS X (.Assign [.Attribute o f pos'] value pos) (sPSet C sp E ta tv) := by
  refine ⟨fun pins s σ H D I h => ?_⟩
  refine plainObj_wpAny_Assign_Attribute (thn (hv.run pins s σ H _ I h) fun u s1 ⟨y, H1, I1, ry, q⟩ => thn (ha.run pins s1 σ H1 _ I1 q) fun ov s2 ⟨x, H2, I2, rx, a, dx, fs, ex, ea, q2⟩ => ?_) hs
  subst ex
  obtain rfl : ov = Value.ref a := rx
  obtain ⟨mA, O, _, _, _, _⟩ := ins_get I2.hok ea
  obtain ⟨od, J, _⟩ := O.look
  obtain ⟨a0, rest, hrec⟩ := hp.rec_
  have I3 := I2.tok (s2.toks + 1)
  have hl : ([Value.ref a, u] : List Value).length = ps.length := by
    rw [← F.len _ _ _ _ q2]
    rfl
  refine PySem.W.set_plain I2.kIn J c.sa (PySem.W.osa_descr PySem.W.KF.slot_pset I3.kIn J c.po hp.tk hp.ty (PySem.W.prop_set I3.kIn hrec ?_))
  have b := hb { s2 with toks := s2.toks + 1 } [.ref a, u] I3.kIn (by rw [List.append_nil]; exact hl)
  rw [List.append_nil] at b
  refine codeAny_mono (F.run X.A.in1.in1 X.stack { s2 with toks := s2.toks + 1 } H2 ⟨[.ref a, u], []⟩ [.ref a, u] [.ref a, y] _ E (Room.in2 hr) I3.env0.in1.in1 b (.cons rfl (.cons ry .nil)) q2) fun r s' hq => ?_
  cases r with
  | error e => exact hx pins σ _ _ e s' I3 hq
  | ok fl =>
    cases fl with
    | ret u =>
      obtain ⟨v, H', I', rv, q3⟩ := I3.after hq
      exact ⟨σ, H', I', q3⟩
    | next => exact False.elim hq
    | brk => exact False.elim hq
    | cont => exact False.elim hq
end
/-- what leaves a def by its own promise -/
theorem passO {X : Cx} {E : XK} (tk : Takes X (fun cls d _ H => E cls d H)) : Passes (L2.CX X.prog X.w) X E := fun pins σ H s e s' I c => passes_call tk (fun _ _ _ _ h => h) pins σ H s e s' I c
section
variable {X : Cx} {CX : CXT} {k : Nat} {f C : Addr} {fd : FuncData} {ps : List Str} {ds : List Value} {dvs : List V} {sp : Sp} {E : L2.St → XK} {x : Str} {p pos : Pos} {e : Expr} {es : List Expr} {t : TA}
theorem run_makeT {pins : List (Addr × Obj)} {σ : L2.St} {H : Hp} {s : Shared} {Q : VK} {us : List Value} {vs : List V} (M : Mk X.K C f) (F : FnOk X.prog X.w X.K X.mg X.base CX k f fd ps sp) (hr : Room (k + 1) X.A) (hb : Binds X.K fd ps ds) (hd : Vals dvs ds)
    (hx : PassesAt CX X σ (E σ)) (I : Inv X pins σ H s) (r : Vals vs us)
    (h : ∀ x dx, H x = none → H dx = none → dx ≠ x → sp (.ref x :: (vs ++ dvs)) (upd (upd H dx (.own x)) x (.ins C dx [])) (fun v H2 => v = .non ∧ Q (.ref x) H2) (E σ)) :
    wpAny (model X.prog X.w) X.A (call (.ref C) us) (EP X pins σ Q) X.xe s := by
  have hq := h (s.heap.objs.size + 1) s.heap.objs.size (I.hok.fresh (Nat.le_succ _)) (I.hok.fresh (Nat.le_refl _)) (Nat.ne_of_lt (Nat.lt_succ_self _))
  have I2 := Inv.made (C := C) I
  have r2 : Vals (V.ref (s.heap.objs.size + 1) :: (vs ++ dvs)) (Value.ref (s.heap.objs.size + 1) :: (us ++ ds)) := .cons rfl (r.append hd)
  have hl : (Value.ref (s.heap.objs.size + 1) :: us ++ ds).length = ps.length := by
    have e := r2.length
    rw [F.len _ _ _ _ hq] at e
    exact e.symm
  refine wpAny_call (make_map (f := f) I.kIn M.makes M.init (beq_iff_eq.mp M.fn) (codeAny_mono (F.run _ X.stack _ _ ⟨Value.ref (s.heap.objs.size + 1) :: us, []⟩ (Value.ref (s.heap.objs.size + 1) :: (us ++ ds)) _ _ (E σ) (hr.make C us [])
    (I2.env0.make C us []) (hb _ (Value.ref (s.heap.objs.size + 1) :: us) I2.kIn hl) r2 hq) fun r s' hq' => ?_))
  cases r with
  | error e => exact hx pins _ _ e s' I2 hq'
  | ok fl =>
    cases fl with
    | ret u =>
      obtain ⟨v, H', I3, rv, ev, q3⟩ := I2.after hq'
      subst ev
      exact ⟨rv, ⟨V.ref (s.heap.objs.size + 1), H', I3, rfl, q3⟩⟩
    | next => exact False.elim hq'
    | brk => exact False.elim hq'
    | cont => exact False.elim hq'
def tMakeT (C : Addr) (sp : Sp) (dvs : List V) (E : L2.St → XK) (t : TA) : TE := fun σ H Q => t σ H fun vs H1 => ∀ x dx, H1 x = none → H1 dx = none → dx ≠ x → sp (.ref x :: (vs ++ dvs)) (upd (upd H1 dx (.own x)) x (.ins C dx [])) (fun v H2 => v = .non ∧ Q (.ref x) H2) (E σ)
/-- C(e, ..) within a try -/
theorem pe_makeT (M : Mk X.K C f) (F : FnOk X.prog X.w X.K X.mg X.base CX k f fd ps sp) (hr : Room (k + 1) X.A) (hg : Gl X x) (hm : X.mg x = some (.ref C)) (hb : Binds X.K fd ps ds) (hd : Vals dvs ds) (hx : ∀ σ, PassesAt CX X σ (E σ))
    (ha : PA X (e :: es) t) (hdb : (x == ("__debug__" : Str)) = false := by decide) (he : starEach (e :: es) X.env = (false, eval e X.env) :: starEach es X.env := by rfl) (hpl : (backTo pos (starEach es X.env)).any (·.1) = false := by rfl) :
    PE X (.Call (.Name x p) (e :: es) [] pos) (tMakeT C sp dvs E t) := by
  refine ⟨fun pins s σ H Q I h => ?_⟩
  refine wpAny_Call_Name_kw (ld_glob I hg hm ?_ hdb)
  refine PySem.W.callWith_K (h₀ := X.base) I.ok.mod.kin M.kp (thn (ha.run pos pins s σ H _ I h) fun us s1 ⟨vs, H1, I1, r, q⟩ => ⟨I1.kIn, ?_⟩) he hpl
  exact run_makeT M F hr hb hd (hx σ) I1 r q
end
/-- the calls of a def with one default: with and without it -/
structure Dfl1 (K : PySem.W.Frag) (fd : FuncData) (ps : List Str) (dv : V) : Prop where
  all : Binds K fd ps []
  one : ∃ ds, Vals [dv] ds ∧ Binds K fd ps ds
end XL
namespace XL
open PySem PySem.Spec PyProof.Rows L2
section
variable {X : Cx} {pos : Pos}
theorem pg_unlK (K : PySem.W.Frag) (n : Nat) {es : List Expr} {k : Nat} {t : TGs} (h : PGs X es t) (hc : X.calm = true := by rfl) (hK : X.K = K := by rfl)
    (hn : (assignEach es X.env).length = n := by rfl) (hst : (assignEach es X.env).findIdx? (·.1) = none := by rfl) : PG X (.Tuple es k pos) (gUnl K n t) := hK ▸ pg_unl hc h hn hst
theorem mt_indexK (K : PySem.W.Frag) (hK : X.K = K := by rfl) : MtR X "list.index" (rIndex K) := hK ▸ mt_index
end
end XL
set_option Elab.async false
set_option linter.all false
set_option maxRecDepth 100000
set_option maxHeartbeats 4000000
/-! XDel: del xs[a:]. -/
namespace XL
open PySem PySem.Spec PyProof.Rows L2
section
variable {prog : Program} {w : World} {A : Around} {E : Value → Shared → Prop} {s : Shared}
def selF (a n : Int) (i : Nat) : Bool := if (1 : Int) > 0 then a ≤ i && i < n && ((i : Int) - a) % 1 == 0 else n < i && i ≤ a && (a - i) % (-1) == 0
theorem selF_eq (a n i : Nat) : selF (a : Int) (n : Int) i = (decide (a ≤ i) && decide (i < n)) := by
  unfold selF
  rw [if_pos (by decide)]
  have h : (((i : Int) - (a : Int)) % 1 == 0) = true := by rw [Int.emod_one]; rfl
  rw [h, Bool.and_true]
  congr 1
  · exact decide_eq_decide.mpr Int.ofNat_le
  · exact decide_eq_decide.mpr Int.ofNat_lt
theorem zip_keep : ∀ (xs : List Value) (j a n : Nat), j + xs.length ≤ n → ((xs.zipIdx j).filterMap fun (p : Value × Nat) => if (selF (a : Int) (n : Int) p.2) = true then none else some p.1) = xs.take (a - j)
  | [], _, _, _, _ => by simp
  | x :: r, j, a, n, h => by
    rw [List.length_cons] at h
    rw [List.zipIdx_cons, List.filterMap_cons, selF_eq]
    have ih := zip_keep r (j + 1) a n (by omega)
    by_cases hj : a ≤ j
    · have e1 : (decide (a ≤ j) && decide (j < n)) = true := by rw [decide_eq_true hj, decide_eq_true (by omega)]; rfl
      have e0 : a - j = 0 := by omega
      have e2 : a - (j + 1) = 0 := by omega
      rw [e2, List.take_zero] at ih
      rw [e0, List.take_zero]
      simp only [e1, if_true]
      exact ih
    · have e1 : (decide (a ≤ j) && decide (j < n)) = false := by rw [decide_eq_false hj]; rfl
      have e0 : a - j = a - (j + 1) + 1 := by omega
      rw [e0, List.take_succ_cons, ← ih]
      simp only [e1, Bool.false_eq_true, if_false]
theorem bounds_from {a n : Nat} (h : a ≤ n) : sliceBounds (some (a : Int)) none none n = ((a : Int), (n : Int), 1) := by
  simp only [sliceBounds, Option.getD_none]
  have h1 : ¬ ((a : Int) < 0) := by omega
  simp only [h1, if_false, show (1 : Int) > 0 by decide, if_true]
  congr 1
  omega
/-- list.__delitem__ with a slice from a place on -/
theorem delItem_from {l sl : Addr} {items : Array Value} {n : Nat} {vl : Value} {a : Nat} {Q : Unit → Shared → Prop}
    (e : s.heap.get? l = some { cls := .type "list", data := .seq items n }) (hs : s.heap.IsSliceOf sl vl .none .none) (pl : IsPart vl (some (a : Int))) (hac : a ≤ items.size) (hsz : items.size ≤ sizeLine)
    (h : Q () { s with heap := s.heap.update l (Obj.mapSeq fun xs => (xs.toList.zipIdx.filterMap fun (p : Value × Nat) => if (selF (a : Int) (items.size : Int) p.2) = true then none else some p.1).toArray) }) :
    wpAny (model prog w) A (delItem (.ref l) (.ref sl)) Q E s := by
  have hl : s.heap.IsList l items := PySem.IsL.isList e
  obtain ⟨os, hos, hcs, hds⟩ := id hs
  have hTs : s.TypeIs (.ref sl) "slice" := ⟨os, hos, hcs⟩
  have hstep : ¬ ((rawPart none == rawInt 0) = true) := Bool.false_ne_true
  have hz' : ((fun xs : Array Value => (xs.toList.zipIdx.filterMap fun (p : Value × Nat) => if (selF (a : Int) (items.size : Int) p.2) = true then none else some p.1).toArray) items).size ≤ sizeLine + 1 := by
    show (_ : List Value).toArray.size ≤ _
    rw [List.size_toArray, zip_keep items.toList 0 a items.size (by rw [Array.length_toList]; omega), List.length_take, Array.length_toList]
    omega
  unfold delItem
  try with_reducible refine wpAny_holding ?_
  first | refine wpAny_bind (wpAny_pure ?_) | skip
  refine wpAny_bind (wpAny_sequenceKey hl.typeIs (by decide) ?_)
  refine wpAny_bind (wpAny_callSpecial?_slot (name := Str.ofString "__delitem__") hl.typeIs PySem.F.slot_list_delitem
    (wpAny_call_entry PySem.F.slot_list_delitem hl.typeIs PySem.F.entry_list_delitem ?_ (PySem.F.args_list_delitem_2 _ _)))
  show wpAny _ _ (Builtin.List.listSubscript? (.ref sl) >>= _) _ _ s
  refine wpAny_bind ?_
  unfold Builtin.List.listSubscript?
  refine wpAny_bind (wpAny_specialOf hTs slice_no_index ?_)
  simp only [Option.isNone_none, if_true]
  refine wpAny_pure ?_
  show wpAny _ _ (typeOf (.ref sl) >>= _) _ _ s
  refine wpAny_bind (wpAny_typeOf hTs ?_)
  first
    | rw [if_neg (by decide)]
    | refine PySem.W.KFB.if_not (by decide) ?_
  rw [listSliceParts_eq]
  refine wpAny_bind (wpAny_bind (wpAny_field hos hds (x := .none) rfl (wpAny_bind (wpAny_listPart .none ?_))))
  rw [if_neg hstep]
  refine wpAny_bind (wpAny_field hos hds (x := vl) rfl (wpAny_bind (wpAny_listPart pl ?_)))
  refine wpAny_bind (wpAny_field hos hds (x := .none) rfl (wpAny_bind (wpAny_listPart .none (wpAny_pure ?_))))
  unfold Builtin.List.listItems
  refine wpAny_bind (wpAny_bind (wpAny_seqItems e rfl (wpAny_pure ?_)))
  refine wpAny_bind (wpAny_of_eq ((sliceIndices_raw (some (a : Int)) none none items.size (by simp)).trans (congrArg (pure : Int × Int × Int → Sem (Int × Int × Int)) (bounds_from hac))) ?_)
  refine wpAny_bind (wpAny_rule ?_)
  show wpAny _ _ (updateSeq l (fun xs => (xs.toList.zipIdx.filterMap fun (p : Value × Nat) => if (selF (a : Int) (items.size : Int) p.2) = true then none else some p.1).toArray) >>= _) _ _ s
  refine wpAny_bind (wpAny_updateSeq (hz := hsz) (_hz' := hz') e rfl ?_)
  refine wpAny_bind (wpAny_letGo ?_)
  first
    | exact wpAny_bind (wpAny_pure (wpAny_pure ⟨.none, rfl, wpAny_pure h⟩))
    | exact wpAny_pure ⟨.none, rfl, wpAny_pure h⟩
end
section
variable {X : Cx} {pos : Pos}
def tDelF (to ti : TE) : TS := fun D σ H => to σ H fun x H1 => ti σ H1 fun y H2 => ∃ (l : Addr) (xs : List V) (k : Nat), x = .ref l ∧ y = .int (k : Nat) ∧ H2 l = some (.lst xs) ∧ k ≤ xs.length ∧ D.nx σ (upd H2 l (.lst (xs.take k)))
theorem ps_delFrom {o lo : Expr} {to ti : TE} {p2 tpos : Pos} (ho : PE X o to) (hi : PE X lo ti) : PS X (.Delete [.Subscript o (.Slice (some lo) none none p2) tpos] pos) (tDelF to ti) := by
  refine ⟨fun pins s σ H D I h => ?_⟩
  refine wpAny_Delete (wpAny_deleteEach_cons (wpAny_delete_Subscript (thn (ho.run pins s σ H _ I h) fun u s1 ⟨x, H1, I1, rx, q1⟩ => ?_)))
  refine wpAny_Slice (wpAny_evalPart_some (thn (hi.run pins s1 σ H1 _ I1 q1) fun iv s2 ⟨y, H2, I2, ry, q2⟩ => wpAny_evalPart_none (wpAny_evalPart_none ?_)))
  obtain ⟨l, xs, k, rfl, rfl, hH, hk, q2⟩ := q2
  cases (show u = Value.ref l from rx)
  obtain ⟨t, rfl⟩ := (show ∃ t, iv = Value.int (k : Nat) t from ry)
  have I4 : L2.Inv X pins σ H2 { s2 with heap := s2.heap.push { cls := .type "slice", data := .fields #[.int (k : Nat) t, .none, .none] } } := I2.kept (t' := s2.toks) fun b ob q => Heap.get?_push_of_some _ q
  obtain ⟨z, its, n, r, hl, e⟩ := I4.lstM hH
  refine delItem_from (a := k) e (Heap.IsSliceOf.new ..) (.int _ _) (by rw [List.size_toArray, ← hl]; exact hk) (by rw [List.size_toArray]; omega) ?_
  refine wpAny_deleteEach_nil ⟨σ, _, I4.lset (its' := its.take k) (t' := s2.toks) hH e ?_ (r.take k) ?_, q2⟩
  · show (_ : List Value).toArray = _
    rw [zip_keep its 0 k _ (by rw [List.size_toArray]; omega)]
    rfl
  · rw [List.length_take]
    omega
end
theorem Sep.setAt {G H : Hp} {M : List (Addr × HO)} {i : Nat} {a : Addr} {o o' : HO} (S : Sep G M H) (h : M[i]? = some (a, o)) : Sep G (M.set i (a, o')) (upd H a o') := by
  have hi := (List.getElem?_eq_some_iff.mp h).1
  have S1 := S.perm (perm_erase h).symm
  have S2 := S1.set (o' := o')
  have e : (M.set i (a, o'))[i]? = some (a, o') := List.getElem?_set_self hi
  have p := perm_erase e
  rw [List.eraseIdx_set_eq] at p
  exact S2.perm p
end XL
namespace XL
open PySem PySem.Spec PyProof.Rows L2
/-! ### a text, several times -/
def repS (x : Str) (k : Nat) : Str := ⟨(List.replicate k x.cps).foldl (· ++ ·) #[]⟩
theorem foldl_cps : ∀ (k : Nat) (a : Array Nat) (x : Array Nat), ((List.replicate k x).foldl (· ++ ·) a).toList = a.toList ++ (List.replicate k x.toList).flatten
  | 0, a, x => by simp
  | k + 1, a, x => by
    rw [List.replicate_succ, List.foldl_cons, foldl_cps k, List.replicate_succ, List.flatten_cons]
    simp
theorem repS_tl (x : Str) (k : Nat) : (repS x k).cps.toList = (List.replicate k x.cps.toList).flatten := by
  have := foldl_cps k #[] x.cps
  simpa [repS] using this
theorem repS_len (x : Str) : ∀ k : Nat, (repS x k).length = k * x.length := by
  intro k
  rw [len_tl, repS_tl]
  induction k with
  | zero => simp
  | succ k ih =>
    rw [List.replicate_succ, List.flatten_cons, List.length_append, ih, ← len_tl, Nat.succ_mul]
    omega
theorem repS_mem {x : Str} {k c : Nat} (h : c ∈ (repS x k).cps.toList) : c ∈ x.cps.toList := by
  rw [repS_tl] at h
  obtain ⟨l, hl, hc⟩ := List.mem_flatten.mp h
  rw [(List.mem_replicate.mp hl).2] at hc
  exact hc
def yMulS : R2 := fun x y H Q => match x, y with
  | .str z, .int k => 2 ≤ k ∧ k ≤ 1000 ∧ 1 ≤ z.length ∧ z.length ≤ 1000 ∧ Q (.str (repS z k.toNat)) H
  | _, _ => False
theorem op_mulS {X : Cx} : OpR X (binaryOp .Mult) yMulS := by
  intro pins s σ H x y v u Q I rx ry h
  unfold yMulS at h
  split at h
  · rename_i z k
    obtain ⟨h1, h2, h3, h4, q⟩ := h
    obtain ⟨t, rfl⟩ := rx
    obtain ⟨t', rfl⟩ := ry
    have hk : ¬ k < 1 := by omega
    have hc : (k == 1 || z.length == 0) = false := by
      rw [Bool.or_eq_false_iff]
      exact ⟨beq_eq_false_iff_ne.mpr (by omega), beq_eq_false_iff_ne.mpr (by omega)⟩
    have hl : z.length * k.toNat ≤ 1000 * 1000 := Nat.mul_le_mul h4 (by omega)
    refine P.mul_str (by rw [decide_eq_false (by omega), decide_eq_false (by omega)]; rfl) (fun _ _ h => ?_) (fun _ _ => ?_) ?_
    · have : (z.length : Int) ≤ (2 ^ 63 - 1) / k := by
        rw [Int.le_ediv_iff_mul_le (by omega)]
        have e : (z.length : Int) * k = ((z.length * k.toNat : Nat) : Int) := by rw [Int.natCast_mul, Int.toNat_of_nonneg (by omega)]
        rw [e]
        omega
      omega
    · unfold Builtin.Str.tooLong
      exact decide_eq_false (by rw [sizeLine_eq]; omega)
    · rw [if_neg hk, if_neg (by rw [hc]; decide)]
      refine ⟨?_, .str (repS z k.toNat), H, I.tok _, ⟨_, rfl⟩, q⟩
      show (repS z k.toNat).length ≤ sizeLine
      rw [repS_len, sizeLine_eq, Nat.mul_comm]
      omega
  · exact h.elim
end XL
set_option Elab.async false
set_option linter.all false
set_option maxRecDepth 100000
set_option maxHeartbeats 4000000
/-! XPage: x in o by an own __contains__. -/
namespace XL
open PySem PySem.Spec PyProof.Rows L2
section
variable {X : Cx} {CX : CXT} {C f : Addr} {fd : FuncData} {ps : List Str} {sp : Sp} {E : XK} {n : Nat}
def yInO (C : Addr) (sp : Sp) (E : XK) (ng : Bool) : R2 := fun x y H Q => ∃ a dx fs, y = .ref a ∧ H a = some (.ins C dx fs) ∧ sp [.ref a, x] H (fun v H' => match v with
  | .bl b => Q (.bl (if ng = true then !b else b)) H'
  | _ => False) E
theorem op_inO (F : FnOk X.prog X.w X.K X.mg X.base CX n f fd ps sp) (hs : PySem.W.findIn X.K (.ref C) "__contains__" = some (some (.ref f))) (hf : PySem.W.isFn X.K (.ref f) = true) (hb : Binds X.K fd ps []) (hx : Passes CX X E) (hr : Room n X.A) : OpR X (compareOp .In) (yInO C sp E false) := by
  intro pins s σ H x y u v Q I rx ry h
  obtain ⟨a, dx, fs, rfl, ha, hsp⟩ := h
  cases ry
  obtain ⟨mA, J1, _⟩ := ins_get I.hok ha
  obtain ⟨od, J1, _⟩ := J1.look
  obtain ⟨m, hF⟩ := I.fr
  refine PySem.W.in_K hF I.ok.mod.kin J1 hs hf (wpAny_mono (run_fn (us := [.ref a, u]) (vs := [.ref a, x]) (dvs := []) F hr hb .nil hx I (.cons rfl (.cons rx .nil)) hsp) (fun r s' q => ?_) fun _ _ e => e)
  obtain ⟨z, H', I', rz, q⟩ := q
  cases z with
  | bl b =>
    cases rz
    exact wpAny_truthy_bool ⟨.bl b, H', I', rfl, q⟩
  | _ => exact q.elim
theorem op_ninO (F : FnOk X.prog X.w X.K X.mg X.base CX n f fd ps sp) (hs : PySem.W.findIn X.K (.ref C) "__contains__" = some (some (.ref f))) (hf : PySem.W.isFn X.K (.ref f) = true) (hb : Binds X.K fd ps []) (hx : Passes CX X E) (hr : Room n X.A) : OpR X (compareOp .NotIn) (yInO C sp E true) := by
  intro pins s σ H x y u v Q I rx ry h
  obtain ⟨a, dx, fs, rfl, ha, hsp⟩ := h
  cases ry
  obtain ⟨mA, J1, _⟩ := ins_get I.hok ha
  obtain ⟨od, J1, _⟩ := J1.look
  obtain ⟨m, hF⟩ := I.fr
  refine PySem.W.notIn_K hF I.ok.mod.kin J1 hs hf (wpAny_mono (run_fn (us := [.ref a, u]) (vs := [.ref a, x]) (dvs := []) F hr hb .nil hx I (.cons rfl (.cons rx .nil)) hsp) (fun r s' q => ?_) fun _ _ e => e)
  obtain ⟨z, H', I', rz, q⟩ := q
  cases z with
  | bl b =>
    cases rz
    exact wpAny_truthy_bool ⟨.bl (!b), H', I', rfl, q⟩
  | _ => exact q.elim
end
theorem _root_.L2.Room.u190 {k : Nat} {A : Around} (r : L2.Room k A) : A.units + 190 < cLine := by have := r.un; omega
/-! ### == and != of data of up to 190 levels, and of plain values -/
def rNeL (K : PySem.W.Frag) : R2 := fun x y H Q => ∃ d e, Dp K H x d ∧ Dp K H y e ∧ d.canLay0 = true ∧ e.canLay0 = true ∧ d.depth ≤ 190 ∧ Q (.bl (!PyData.eqv d e)) H
theorem op_neL {X : Cx} (K : PySem.W.Frag) (hu : X.A.units + 190 < cLine) (hK : X.K = K := by rfl) : OpR X (compareOp .NotEq) (rNeL K) := by
  subst hK
  intro pins s σ H x y v u Q I rx ry h
  obtain ⟨d, e, hd, he, sd, se, dp, q⟩ := h
  obtain ⟨as, r1⟩ := Dp.reads I d x v hd rx
  obtain ⟨bs, r2⟩ := Dp.reads I e y u he ry
  exact SeqAt.compareNe_reads r1 r2 sd se (by have := Nat.min_le_left d.depth e.depth; omega) ⟨.bl _, H, I, rfl, q⟩
def yEqL (K : PySem.W.Frag) : R2 := fun x y H Q => match x, y with
  | .int i, .int j => Q (.bl (decide (i = j))) H
  | .str i, .str j => Q (.bl (decide (i = j))) H
  | .bl i, .bl j => Q (.bl (decide (i = j))) H
  | .ref a, .ref b => rEqL K (.ref a) (.ref b) H Q
  | x, y => scal x y = true ∧ Q (.bl (decide (x = y))) H
def yNeL (K : PySem.W.Frag) : R2 := fun x y H Q => match x, y with
  | .int i, .int j => Q (.bl (!decide (i = j))) H
  | .str i, .str j => Q (.bl (!decide (i = j))) H
  | .bl i, .bl j => Q (.bl (!decide (i = j))) H
  | .ref a, .ref b => rNeL K (.ref a) (.ref b) H Q
  | x, y => scal x y = true ∧ Q (.bl (!decide (x = y))) H
theorem op_eqLK {X : Cx} (K : PySem.W.Frag) (hu : X.A.units + 190 < cLine) (hK : X.K = K := by rfl) : OpR X (compareOp .Eq) (yEqL K) := by
  refine or_str (OpR.or (op_eq (X := X)) (op_eqL K hu hK)) fun x y H Q h => ?_
  unfold yEqL at h
  split at h
  · exact .inl ⟨rfl, by rw [deci]; exact h⟩
  · exact .inl ⟨rfl, by rw [decs]; exact h⟩
  · exact .inl ⟨rfl, by rw [decb]; exact h⟩
  · exact .inr h
  · exact .inl h
theorem op_neLK {X : Cx} (K : PySem.W.Frag) (hu : X.A.units + 190 < cLine) (hK : X.K = K := by rfl) : OpR X (compareOp .NotEq) (yNeL K) := by
  refine or_str (OpR.or (op_ne (X := X)) (op_neL K hu hK)) fun x y H Q h => ?_
  unfold yNeL at h
  split at h
  · exact .inl ⟨rfl, by rw [deci]; exact h⟩
  · exact .inl ⟨rfl, by rw [decs]; exact h⟩
  · exact .inl ⟨rfl, by rw [decb]; exact h⟩
  · exact .inr h
  · exact .inl h
end XL
set_option Elab.async false
set_option linter.all false
set_option maxRecDepth 100000
set_option maxHeartbeats 4000000
/-! XCnt: xs.count(x) of data. -/
namespace XL
open PySem PySem.Spec PyProof.Rows L2
theorem _root_.L2.Room.u65 {k : Nat} {A : Around} (r : L2.Room k A) : A.units + 65 < cLine := by have := r.un; omega
def rCntD (K : PySem.W.Frag) : V → List V → Hp → VK → Prop := fun x xs H Q => ∃ (a : Addr) (y : V) (ys : List V) (d : PyData) (ds : List PyData), x = V.ref a ∧ xs = [y] ∧ SqL K H a ys ∧ DpAll K H ys ds ∧ Dp K H y d ∧
  PyData.canLayAll0 ds = true ∧ SeqAt.shaped d = true ∧ Q (.int ((ds.countP fun z => PyData.eqv z d : Nat) : Int)) H
theorem mt_countD {X : Cx} (K : PySem.W.Frag) (hu : X.A.units + 65 < cLine) (h : X.K = K := by rfl) : MtR X "list.count" (rCntD K) := by
  subst h
  intro pins s σ H x xs v us Q I rx rxs h
  obtain ⟨a, y, ys, d, ds, rfl, rfl, hs, ha, hy, hxs, sd, q⟩ := h
  cases rx
  cases rxs with
  | cons ry rt =>
    rename_i uy ut
    cases rt
    obtain ⟨bs, r1⟩ := Dp.reads I d y uy hy ry
    have hroom : X.A.units + 1 + min (PyData.depthAll ds) d.depth < cLine := room_in_shaped sd hu
    obtain ⟨its, rv, ⟨⟨cls, dd, data, sl⟩, n, ho, hc, hdn, hd⟩, hlen⟩ := I.list hs
    simp only at hc hd
    subst hc hd
    obtain ⟨as, h4⟩ := Dp.readsAll I ds _ its ha rv
    have hmap : its.map (SeqAt.readOf s.heap) = ds := SeqAt.readsAll_map ds its as hxs h4
    refine call_meets PySem.F.slot_list_count ⟨_, ho, rfl⟩ PySem.F.entry_list_count (PySem.F.args_list_count_2 _ _)
      (SeqAt.list_countAt a its.toArray n dd sl uy (fun u => PyData.eqv (SeqAt.readOf s.heap u) d)) ⟨ho, SeqAt.items_eqAt (vs := its.toArray) (show ReadsAll s.heap its.toArray.toList ds as from h4) r1 hxs (SeqAt.canLay_of_shaped sd) hroom, ?_⟩
    have ec : its.toArray.toList.countP (fun u => PyData.eqv (SeqAt.readOf s.heap u) d) = ds.countP fun z => PyData.eqv z d := by
      rw [← hmap, List.countP_map]
      rfl
    refine ⟨.int ((ds.countP fun z => PyData.eqv z d : Nat) : Int), H, I.tok _, ⟨s.toks, ?_⟩, q⟩
    show Value.int ((its.toArray.toList.countP (fun u => PyData.eqv (SeqAt.readOf s.heap u) d) : Nat) : Int) s.toks = Value.int ((ds.countP fun z => PyData.eqv z d : Nat) : Int) s.toks
    rw [ec]
end XL
set_option Elab.async false
set_option linter.all false
set_option maxRecDepth 100000
set_option maxHeartbeats 4000000
/-! XPat: tuples that are put together and cut. -/
namespace XL
open PySem PySem.Spec PyProof.Rows L2
section
variable {K : PySem.W.Frag} {G H : Hp} {M : List (Addr × HO)} {a b : Addr} {xs ys : List V} {Q : VK}
theorem op_catAK {X : Cx} (K : PySem.W.Frag) (h : X.K = K := by rfl) : OpR X (binaryOp .Add) (rCatA K) := h ▸ op_catA
theorem cat_ok (S : Sep G M H) (ha : SqT K G a xs) (hb : SqT K G b ys) (hl : xs.length + ys.length ≤ sizeLine) (q : ∀ c G' H', Same G G' → SqT K G' c (xs ++ ys) → Sep G' M H' → Q (.ref c) H') : rCatA K (.ref a) (.ref b) H Q := by
  refine ⟨a, b, xs, ys, rfl, rfl, S.t ha, S.t hb, hl, fun e => ?_, fun _ e => ?_, fun _ _ p np => ?_⟩
  · subst e
    exact q b G H (Same.refl G) hb S
  · subst e
    exact q a G H (Same.refl G) (by rw [List.append_nil]; exact ha) S
  · exact q p _ _ (S.grow np) (SqT.of upd_same) (S.newG np)
theorem cutA_ok {lo hi : Option Int} (S : Sep G M H) (ha : SqT K G a xs) (q : ∀ c G' H', Same G G' → SqT K G' c (cutV xs lo hi) → Sep G' M H' → Q (.ref c) H') : rSlA K (.ref a) lo hi H Q := by
  refine ⟨a, xs, rfl, S.t ha, fun e => ?_, fun _ p np => ?_⟩
  · refine q a G H (Same.refl G) ?_ S
    have : cutV xs lo hi = xs := by
      unfold cutV
      rw [e.1, e.2, Nat.sub_zero, List.drop_zero, List.take_length]
    rw [this]
    exact ha
  · exact q p _ _ (S.grow np) (SqT.of upd_same) (S.newG np)
end
theorem sqT_ty {K : PySem.W.Frag} {H : Hp} {a : Addr} {xs : List V} (h : SqT K H a xs) : TyX K H (.ref a) (.type "tuple") := by
  rcases h with (h | ⟨o, h⟩) | ⟨o, _, _, h, c, _⟩
  · exact .base (.tup h)
  · exact .fTuple h
  · exact .kTuple h c
end XL
set_option Elab.async false
set_option linter.all false
set_option maxRecDepth 100000
set_option maxHeartbeats 4000000
/-! XArith: -x and x + y by own methods, x != y by an own __eq__ alone. -/
namespace PySem.W
open PyProof.Rows
section
variable {prog : Program} {w : World} {M : Model} {A : Around} {E : Value → Shared → Prop} {s : Shared} {K : Frag} {x C L f : Addr} {h₀ : Heap} {m : Str → Option Value} {ox : Obj} {od : Option Obj} {b : Value}
def firstIn (K : Frag) (C : Addr) : Bool := match clsIn K C with
  | some cd => (match cd.mro with | .ref D :: _ => D == C | _ => false)
  | none => false
theorem firstIn_self {K : Frag} {C : Addr} (h : selfFirst K C = true) : firstIn K C = true := by
  unfold selfFirst at h
  unfold firstIn
  cases e : clsIn K C with
  | none => rw [e] at h; cases h
  | some cd =>
    rw [e] at h
    have h2 : (cd.mro.head? == some (Value.ref C)) = true := h
    show (match cd.mro with | .ref D :: _ => D == C | _ => false) = true
    cases e2 : cd.mro with
    | nil => rw [e2] at h2; cases h2
    | cons v r =>
      rw [e2] at h2
      have h3 : some v = some (Value.ref C) := eq_of_beq h2
      cases h3
      exact beq_self_eq_true C
theorem fills_own {nm : String} {Q : Bool → Shared → Prop} (X : K.In s.heap) (hm : firstIn K C = true) (hs : findIn K (.ref C) (PySem.dunder nm) = some (some (.ref f))) (q : Q true s) : wpAny M A (fillsNumberSlot (.ref C) nm) Q E s := by
  unfold firstIn at hm
  split at hm
  · rename_i cd hc
    split at hm
    · rename_i D r hr
      have e : D = C := by simpa using hm
      subst e
      have LM : Looks M s.heap (mroOf (.ref D)) cd.mro := (looks_clsIn X hc).andThen .now
      unfold fillsNumberSlot
      refine wpAny_bind (LM.here ?_)
      rw [hr]
      unfold List.anyM
      refine wpAny_bind ?_
      unfold List.anyM
      refine wpAny_bind (wpAny_bind ((looks_findIn X hs).here ?_))
      simp only [ownNameWrapper]
      exact wpAny_pure (wpAny_pure (wpAny_pure q))
    · cases hm
  · cases hm
theorem special_own {name : Str} {args : List Value} {Q : Option Value → Shared → Prop} (X : K.In s.heap) (I : InstAt s.heap x ox C od) (hs : findIn K (.ref C) name = some (some (.ref f))) (hf : isFn K (.ref f) = true)
    (h : wpAny M A (call (.ref f) (.ref x :: args)) (fun v => Q (some v)) E s) : wpAny M A (callSpecial? (.ref x) name args) Q E s := special_fn X I hs (beq_iff_eq.mp hf) h
theorem add_K {Q : Value → Shared → Prop} {y : Addr} {oy : Obj} {ody : Option Obj} (F : Fr h₀ L s.heap m) (X₀ : K.In h₀) (I : InstAt s.heap x ox C od) (J : InstAt s.heap y oy C ody) (hm : firstIn K C = true)
    (hs : findIn K (.ref C) "__add__" = some (some (.ref f))) (hf : isFn K (.ref f) = true) (h : wpAny (model prog w) A (call (.ref f) [.ref x, .ref y]) (CmpBack Q) E s) : wpAny (model prog w) A (binaryOp .Add (.ref x) (.ref y)) Q E s := by
  have X := X₀.keeps F.keep
  unfold binaryOp
  refine wpAny_holding (wpAny_bind ?_)
  unfold binaryOp1
  refine wpAny_bind (I.type.here (wpAny_bind (J.type.here (wpAny_bind (fills_own X hm hs ?_)))))
  simp only [beq_self_eq_true, if_true]
  refine wpAny_bind (wpAny_pure ?_)
  simp only [Bool.and_false, Bool.false_eq_true, if_false, Bool.false_and, if_true]
  have one : wpAny (model prog w) A (tryMethod (.ref x) (PySem.dunder "add") (.ref y)) (fun r s' => ∃ v, r = some v ∧ Q v s') E s := by
    unfold tryMethod
    refine wpAny_bind (special_own X I hs hf (wpAny_mono h (fun v s' hv => ?_) fun _ _ e => e))
    cases v <;> first | exact hv.elim | exact wpAny_pure ⟨_, rfl, hv⟩
  refine wpAny_bind (wpAny_pure ?_)
  simp only [Bool.false_eq_true, if_false]
  refine wpAny_bind (wpAny_mono one (fun r s' z => ?_) fun _ _ e => e)
  obtain ⟨v, rfl, hq⟩ := z
  exact wpAny_pure (wpAny_pure hq)
theorem neg_K {Q : Value → Shared → Prop} (F : Fr h₀ L s.heap m) (X₀ : K.In h₀) (I : InstAt s.heap x ox C od)
    (hs : findIn K (.ref C) "__neg__" = some (some (.ref f))) (hf : isFn K (.ref f) = true) (h : wpAny (model prog w) A (call (.ref f) [.ref x]) Q E s) : wpAny (model prog w) A (unaryOp .USub (.ref x)) Q E s := by
  have X := X₀.keeps F.keep
  unfold unaryOp
  refine wpAny_holding ?_
  simp only []
  refine wpAny_bind (special_own X I hs hf (wpAny_mono h (fun v s' hv => wpAny_pure hv) fun _ _ e => e))
/-- object.__ne__ over an own __eq__ -/
theorem ne_entry {Q : Fin → Shared → Prop} {y : Addr} {b : Bool} (hu : A.units < cLine) (X : K.In s.heap) (I : InstAt s.heap x ox C od) (hs : findIn K (.ref C) "__eq__" = some (some (.ref f))) (hf : isFn K (.ref f) = true)
    (h : wpAny (model prog w) A (call (.ref f) [.ref x, .ref y]) (fun v s' => ∃ c, v = .bool c ∧ Q (.done (.ret (.bool (!c)))) s') E s) : wpAny (model prog w) A (Builtin.«object.__ne__» ⟨[.ref x, .ref y], []⟩) Q E s := by
  unfold Builtin.«object.__ne__»
  refine wpAny_bind (m := slotArgs "__ne__" 1 _) (wpAny_pure ?_)
  refine wpAny_bind (m := cRoomFor _ _) (wpAny_cRoomFor hu ?_)
  refine wpAny_bind (m := callSpecialIfBound? (.ref x) (Str.ofString "__eq__") _) (ifBound_K X I hs hf (wpAny_mono h (fun r s' hq => ?_) fun _ _ y => y))
  obtain ⟨c, rfl, hq⟩ := hq
  refine wpAny_bind (wpAny_truthy_bool ?_)
  exact wpAny_pure hq
theorem ifBound_B {name : Str} {id : String} {args : List Value} {Q : Option Value → Shared → Prop} (X : K.In s.heap) (I : InstAt s.heap x ox C od) (hs : findIn K (.ref C) name = some (some (.builtin id)))
    (hb : ∀ self, bindSpecial (.builtin id) self = pure (.builtin id, [self])) (h : wpAny M A (call (.builtin id) (.ref x :: args)) (fun v => Q (some v)) E s) : wpAny M A (callSpecialIfBound? (.ref x) name args) Q E s := by
  simp only [callSpecialIfBound?, bindSpecialIfBound?]
  refine wpAny_holding (wpAny_bind (wpAny_bind (wpAny_bind (I.type.here ((looks_findIn X hs).here ?_)))))
  refine wpAny_bind (wpAny_askSetting (wpAny_ite ?_))
  have fin : wpAny M A (call (.builtin id) ([.ref x] ++ args) >>= fun v => pure (some v)) Q E s := wpAny_bind (wpAny_mono h (fun v s' h' => wpAny_pure h') fun _ _ h' => h')
  split
  · exact wpAny_bind ((Looks.of_pure (hb _)).here (wpAny_pure (by exact fin)))
  · exact wpAny_tryCatch (wpAny_bind ((Looks.of_pure (hb _)).here (wpAny_pure (by exact fin))))
theorem ne_K {Q : Value → Shared → Prop} {y : Addr} {oy : Obj} {ody : Option Obj} (hu : A.units < cLine) (hu1 : A.in1.units < cLine) (F : Fr h₀ L s.heap m) (X₀ : K.In h₀) (I : InstAt s.heap x ox C od) (J : InstAt s.heap y oy C ody)
    (hn : findIn K (.ref C) "__ne__" = some (some (.builtin "object.__ne__"))) (hm : mroIn K C (.type "object") = some true)
    (hs : findIn K (.ref C) "__eq__" = some (some (.ref f))) (hf : isFn K (.ref f) = true)
    (h : wpAny (model prog w) A.in1 (call (.ref f) [.ref x, .ref y]) (fun v s' => ∃ c, v = .bool c ∧ Q (.bool (!c)) s') E s) : wpAny (model prog w) A (richCompare .NotEq (.ref x) (.ref y)) Q E s := by
  have X := X₀.keeps F.keep
  have one : wpAny (model prog w) A (tryCompare (.ref x) (cmpInfo .NotEq).2.1 (.ref y)) (fun r s' => ∃ v, r = some v ∧ Q v s') E s := by
    unfold tryCompare
    refine wpAny_bind (ifBound_B X I hn PySem.F.slot_object_ne.bind (wpAny_call (codeAny_call_builtin PySem.F.slot_object_ne.plain PySem.F.cmpEntry_ne (check_slot (i := "object.__ne__") (owner := "object") (n := "__ne__") (by decide +kernel) (by decide +kernel) (I.type.andThen (looks_mroIn X hm)) (PySem.F.cmpArgs_ne _ _) (ne_entry (b := true) hu1 X I hs hf (wpAny_mono h (fun v s' hv => ?_) fun _ _ e => e))))))
    obtain ⟨c, rfl, hq⟩ := hv
    refine ⟨c, rfl, ?_⟩
    exact wpAny_pure ⟨_, rfl, hq⟩
  unfold richCompare
  simp only [oneThing_ref]
  refine wpAny_holding (wpAny_bind (wpAny_cRoomFor hu ?_))
  refine wpAny_bind (I.type.here (wpAny_bind (J.type.here ?_)))
  rw [if_neg (by simp)]
  refine wpAny_bind (wpAny_pure ?_)
  simp only [Bool.false_eq_true, if_false]
  refine wpAny_bind (wpAny_mono one (fun r s' z => ?_) fun _ _ e => e)
  obtain ⟨v, rfl, hq⟩ := z
  exact wpAny_pure hq
end
end PySem.W
namespace XL
open PySem PySem.Spec PyProof.Rows L2
section
variable {X : Cx} {CX : CXT} {C f : Addr} {fd : FuncData} {ps : List Str} {sp : Sp} {E : XK} {n : Nat}
/-- -x by an own __neg__ -/
def yNegO (C : Addr) (sp : Sp) (E : XK) : V → Hp → VK → Prop := fun x H Q => ∃ a dx fs, x = .ref a ∧ H a = some (.ins C dx fs) ∧ sp [.ref a] H Q E
theorem un_negO (F : FnOk X.prog X.w X.K X.mg X.base CX n f fd ps sp) (hs : PySem.W.findIn X.K (.ref C) "__neg__" = some (some (.ref f))) (hf : PySem.W.isFn X.K (.ref f) = true) (hb : Binds X.K fd ps []) (hx : Passes CX X E) (hr : Room n X.A) : UnR X (unaryOp .USub) (yNegO C sp E) := by
  intro pins s σ H x v Q I rx h
  obtain ⟨a, dx, fs, rfl, ha, hsp⟩ := h
  cases rx
  obtain ⟨mA, J1, _⟩ := ins_get I.hok ha
  obtain ⟨od, J1, _⟩ := J1.look
  obtain ⟨m, hF⟩ := I.fr
  exact PySem.W.neg_K hF I.ok.mod.kin J1 hs hf (run_fn (us := [.ref a]) (vs := [.ref a]) (dvs := []) F hr hb .nil hx I (.cons rfl .nil) hsp)
/-- x + y by an own __add__, both of class C -/
def yAddO (C : Addr) (sp : Sp) (E : XK) : R2 := yOwn C sp E
theorem op_addO (F : FnOk X.prog X.w X.K X.mg X.base CX n f fd ps sp) (hm : PySem.W.firstIn X.K C = true) (hs : PySem.W.findIn X.K (.ref C) "__add__" = some (some (.ref f))) (hf : PySem.W.isFn X.K (.ref f) = true) (hb : Binds X.K fd ps []) (hx : Passes CX X E) (hr : Room n X.A) : OpR X (binaryOp .Add) (yAddO C sp E) := by
  intro pins s σ H x y u v Q I rx ry h
  obtain ⟨a, b, dx, dy, fs, gs, rfl, rfl, ha, hb', hsp⟩ := h
  cases rx
  cases ry
  obtain ⟨mA, J1, _⟩ := ins_get I.hok ha
  obtain ⟨mB, J2, _⟩ := ins_get I.hok hb'
  obtain ⟨od, J1, _⟩ := J1.look
  obtain ⟨od', J2, _⟩ := J2.look
  obtain ⟨m, hF⟩ := I.fr
  refine PySem.W.add_K hF I.ok.mod.kin J1 J2 hm hs hf ?_
  refine wpAny_mono (run_fn (us := [.ref a, .ref b]) (vs := [.ref a, .ref b]) (dvs := []) F hr hb .nil hx I (.cons rfl (.cons rfl .nil)) hsp) (fun v s' q => ?_) fun _ _ e => e
  obtain ⟨z, H', I', rz, q⟩ := q
  have fin : EP X pins σ Q v s' := ⟨z, H', I', rz, q⟩
  cases v <;> first | exact fin | (cases z <;> first | exact absurd (show _ = _ from rz) (by intro e; cases e) | (obtain ⟨_, e⟩ := rz; cases e))
theorem run_in1 {pins : List (Addr × Obj)} {σ : L2.St} {H : Hp} {s : Shared} {Q : VK} {us : List Value} {vs : List V} (F : FnOk X.prog X.w X.K X.mg X.base CX n f fd ps sp) (hr : Room n X.A.in1) (hb : Binds X.K fd ps []) (hx : Passes CX X E)
    (I : Inv X pins σ H s) (r : Vals vs us) (h : sp vs H Q E) : wpAny (model X.prog X.w) X.A.in1 (call (.ref f) us) (EP X pins σ Q) X.xe s := by
  have hl : us.length = ps.length := by rw [← r.length]; exact F.len _ _ _ _ h
  have b := hb s us I.kIn (by rw [List.append_nil]; exact hl)
  rw [List.append_nil] at b
  refine wpAny_call (codeAny_mono (F.run X.A.in1 X.stack s H ⟨us, []⟩ us vs Q E hr I.env0.in1 b r h) fun r s' hq => ?_)
  cases r with
  | error e => exact hx pins σ _ _ e s' I hq
  | ok fl =>
    cases fl with
    | ret u => exact I.after hq
    | next => exact False.elim hq
    | brk => exact False.elim hq
    | cont => exact False.elim hq
/-- x != y by an own __eq__ alone, both of class C -/
def yNeO (C : Addr) (sp : Sp) (E : XK) : R2 := fun x y H Q => ∃ a b dx dy fs gs, x = .ref a ∧ y = .ref b ∧ H a = some (.ins C dx fs) ∧ H b = some (.ins C dy gs) ∧ sp [.ref a, .ref b] H (fun v H' => match v with
  | .bl b => Q (.bl (!b)) H'
  | _ => False) E
theorem op_neO (F : FnOk X.prog X.w X.K X.mg X.base CX n f fd ps sp) (hn : PySem.W.findIn X.K (.ref C) "__ne__" = some (some (.builtin "object.__ne__"))) (hm : PySem.W.mroIn X.K C (.type "object") = some true)
    (hs : PySem.W.findIn X.K (.ref C) "__eq__" = some (some (.ref f))) (hf : PySem.W.isFn X.K (.ref f) = true) (hb : Binds X.K fd ps []) (hx : Passes CX X E) (hr : Room (n + 1) X.A) : OpR X (compareOp .NotEq) (yNeO C sp E) := by
  intro pins s σ H x y u v Q I rx ry h
  obtain ⟨a, b, dx, dy, fs, gs, rfl, rfl, ha, hb', hsp⟩ := h
  cases rx
  cases ry
  show wpAny _ _ (richCompare .NotEq (.ref a) (.ref b)) _ _ _
  obtain ⟨mA, J1, _⟩ := ins_get I.hok ha
  obtain ⟨mB, J2, _⟩ := ins_get I.hok hb'
  obtain ⟨od, J1, _⟩ := J1.look
  obtain ⟨od', J2, _⟩ := J2.look
  obtain ⟨m, hF⟩ := I.fr
  refine PySem.W.ne_K hr.units0 hr.in1.units0 hF I.ok.mod.kin J1 J2 hn hm hs hf ?_
  refine wpAny_mono (run_in1 (us := [.ref a, .ref b]) (vs := [.ref a, .ref b]) F hr.in1 hb hx I (.cons rfl (.cons rfl .nil)) hsp) (fun v s' q => ?_) fun _ _ e => e
  obtain ⟨z, H', I', rz, q⟩ := q
  cases z with
  | bl c =>
    cases rz
    exact ⟨c, rfl, .bl (!c), H', I', rfl, q⟩
  | _ => exact q.elim
/-- x + y within a try -/
def tAddOT (C : Addr) (sp : Sp) (E : L2.St → XK) (ta tb : TE) : TE := fun σ H Q => ta σ H fun x H1 => tb σ H1 fun y H2 => yOwn C sp (E σ) x y H2 Q
theorem pe_addOT {E : L2.St → XK} {a b : Expr} {ta tb : TE} {pos : Pos} (hla : PE X a ta) (hlb : PE X b tb) (F : FnOk X.prog X.w X.K X.mg X.base CX n f fd ps sp) (hm : PySem.W.firstIn X.K C = true) (hs : PySem.W.findIn X.K (.ref C) "__add__" = some (some (.ref f))) (hf : PySem.W.isFn X.K (.ref f) = true) (hb : Binds X.K fd ps []) (hx : ∀ σ, PassesAt CX X σ (E σ)) (hr : Room n X.A) :
    PE X (.BinOp a .Add b pos) (tAddOT C sp E ta tb) := by
  refine ⟨fun pins s σ H Q I h => ?_⟩
  refine wpAny_BinOp (binT hla hlb I h fun v u s2 x y H2 I2 rx ry q => ?_)
  obtain ⟨a, b, dx, dy, fs, gs, rfl, rfl, ha, hb', hsp⟩ := q
  cases rx
  cases ry
  obtain ⟨mA, J1, _⟩ := ins_get I2.hok ha
  obtain ⟨mB, J2, _⟩ := ins_get I2.hok hb'
  obtain ⟨od, J1, _⟩ := J1.look
  obtain ⟨od', J2, _⟩ := J2.look
  obtain ⟨m, hF⟩ := I2.fr
  refine PySem.W.add_K hF I2.ok.mod.kin J1 J2 hm hs hf ?_
  have hl : ([Value.ref a, .ref b] ++ []).length = ps.length := F.len _ _ _ _ hsp
  refine wpAny_mono (Q := EP X pins σ Q) (wpAny_call (codeAny_mono (F.run X.A X.stack s2 H2 ⟨[.ref a, .ref b], []⟩ [.ref a, .ref b] [.ref a, .ref b] Q (E σ) hr I2.env0 (hb s2 [.ref a, .ref b] I2.kIn hl) (.cons rfl (.cons rfl .nil)) hsp) fun r s' hq => ?_)) (fun v s' q => ?_) fun _ _ e => e
  · cases r with
    | error e => exact hx σ pins H2 s2 e s' I2 hq
    | ok fl =>
      cases fl with
      | ret u => exact I2.after hq
      | next => exact False.elim hq
      | brk => exact False.elim hq
      | cont => exact False.elim hq
  obtain ⟨z, H', I', rz, q⟩ := q
  have fin : EP X pins σ Q v s' := ⟨z, H', I', rz, q⟩
  cases v <;> first | exact fin | (cases z <;> first | exact absurd (show _ = _ from rz) (by intro e; cases e) | (obtain ⟨_, e⟩ := rz; cases e))
end
end XL
set_option Elab.async false
set_option linter.all false
set_option maxRecDepth 100000
set_option maxHeartbeats 4000000
/-! XSuper: super().m(..); instances of classes without __init__; x <= y of unlike classes by an inherited __le__. -/
namespace PySem.W
open PySem PySem.Calls PyProof.Rows
section
variable {prog : Program} {w : World} {A : Around} {E : Value → Shared → Prop} {s : Shared} {K : Frag} {x C C' L f : Addr} {h₀ : Heap} {m : Str → Option Value} {ox : Obj} {od : Option Obj}
/-- x <= y, y's class below x's, the reflected __ge__ is object's -/
theorem le_sub {Q : Value → Shared → Prop} {y : Addr} {oy : Obj} {ody : Option Obj} (hu : A.units < cLine) (F : Fr h₀ L s.heap m) (X₀ : K.In h₀) (I : InstAt s.heap x ox C od) (J : InstAt s.heap y oy C' ody) (hne : C ≠ C')
    (hsub : subIn K (.ref C') (.ref C) = some true) (hge : findIn K (.ref C') "__ge__" = some (some (.builtin "object.__ge__"))) (hm : mroIn K C' (.type "object") = some true)
    (hs : findIn K (.ref C) "__le__" = some (some (.ref f))) (hf : isFn K (.ref f) = true)
    (h : wpAny (model prog w) A (call (.ref f) [.ref x, .ref y]) (CmpBack Q) E s) : wpAny (model prog w) A (richCompare .LtE (.ref x) (.ref y)) Q E s := by
  have X := X₀.keeps F.keep
  have one : wpAny (model prog w) A (tryCompare (.ref x) (cmpInfo .LtE).2.1 (.ref y)) (fun r s' => ∃ v, r = some v ∧ Q v s') E s := by
    unfold tryCompare
    refine wpAny_bind (ifBound_K X I hs hf (wpAny_mono h (fun v s' hv => ?_) fun _ _ e => e))
    cases v <;> first | exact hv.elim | exact wpAny_pure ⟨_, rfl, hv⟩
  have two : wpAny (model prog w) A (tryCompare (.ref y) (cmpInfo .LtE).2.2 (.ref x)) (fun r s' => r = none ∧ s' = s) E s := by
    unfold tryCompare
    refine wpAny_bind (ifBound_B X J hge PySem.F.slot_object_ge_refl.bind (wpAny_call (codeAny_call_builtin PySem.F.slot_object_ge_refl.plain PySem.F.entry_object_ge (check_slot (i := "object.__ge__") (owner := "object") (n := "__ge__") (by decide +kernel) (by decide +kernel) (J.type.andThen (looks_mroIn X hm)) (PySem.F.args_object_ge_2 _ _) ?_))))
    exact wpAny_pure (wpAny_pure ⟨rfl, rfl⟩)
  unfold richCompare
  simp only [oneThing_ref]
  refine wpAny_holding (wpAny_bind (wpAny_cRoomFor hu ?_))
  refine wpAny_bind (I.type.here (wpAny_bind (J.type.here ?_)))
  rw [if_pos (by simpa using hne)]
  refine wpAny_bind ((looks_subIn X hsub).here ?_)
  simp only [if_true]
  refine wpAny_bind (wpAny_mono two (fun r s' z => ?_) fun _ _ e => e)
  obtain ⟨rfl, rfl⟩ := z
  refine wpAny_bind (wpAny_mono one (fun r s' z => ?_) fun _ _ e => e)
  obtain ⟨v, rfl, hq⟩ := z
  exact wpAny_pure hq
end
end PySem.W
namespace XL
open PySem PySem.Spec PyProof.Rows L2
/-! ### an instance of a class without __init__ -/
structure Mk0 (K : PySem.W.Frag) (C : Addr) : Prop where
  makes : PySem.W.makesIn K C = true
  init : PySem.W.findIn K (.ref C) "__init__" = some (some (.builtin "object.__init__"))
  kp : PySem.W.keepIn K (.ref C) = true
section
variable {X : Cx} {CX : CXT} {C C' f : Addr} {fd : FuncData} {ps : List Str} {sp : Sp} {E : XK} {n : Nat} {x : Str} {p pos : Pos}
def tMk0 (C : Addr) : TE := fun _ H Q => ∀ a dx, H a = none → H dx = none → dx ≠ a → Q (.ref a) (upd (upd H dx (.own a)) a (.ins C dx []))
theorem pe_mk0 (M : Mk0 X.K C) (hg : Gl X x) (hm : X.mg x = some (.ref C)) (hdb : (x == ("__debug__" : Str)) = false := by decide) : PE X (.Call (.Name x p) [] [] pos) (tMk0 C) := by
  refine ⟨fun pins s σ H Q I h => ?_⟩
  refine wpAny_Call_Name_kw (ld_glob I hg hm ?_ hdb)
  have hq := h (s.heap.objs.size + 1) s.heap.objs.size (I.hok.fresh (Nat.le_succ _)) (I.hok.fresh (Nat.le_refl _)) (Nat.ne_of_lt (Nat.lt_succ_self _))
  have I2 := Inv.made (C := C) I
  have kin := I.kIn
  obtain ⟨hh, g, d, t, os⟩ := s
  have Y := PySem.W.makes_of (M := model X.prog X.w) kin M.makes
  refine PySem.W.callWith_K0 kin M.kp (wpAny_call ?_)
  refine PySem.W.make_core Y (PySem.W.looks_findIn kin M.init) (fun self => PySem.W.Looks.of_pure (PySem.W.oi_bind self)) (.inr ⟨rfl, rfl⟩) ?_
  have hx : ((hh.push PySem.W.emptyDict).push (PySem.W.instObj C hh.objs.size)).get? (hh.objs.size + 1) = some (PySem.W.instObj C hh.objs.size) := by heap_get
  have t1 : PySem.W.Looks (model X.prog X.w) ((hh.push PySem.W.emptyDict).push (PySem.W.instObj C hh.objs.size)) (typeOf (.ref (hh.objs.size + 1))) (.ref C) := (PySem.W.Looks.ld hx).andThen .now
  have t2 : PySem.W.Looks (model X.prog X.w) ((hh.push PySem.W.emptyDict).push (PySem.W.instObj C hh.objs.size)) (isInstance (.ref (hh.objs.size + 1)) (.type "object")) true := t1.andThen (Y.top.keeps fun b o e => Heap.get?_push_of_some _ (Heap.get?_push_of_some _ e))
  show codeAny _ _ (.call (.builtin "object.__init__") ⟨[Value.ref (hh.objs.size + 1)], []⟩) _ _
  refine codeAny_call_builtin PySem.W.oi_plain PySem.W.entry_oi (@PySem.W.check_slot (model X.prog X.w) _ _ _ "object.__init__" "object" "__init__" (.ref (hh.objs.size + 1)) [] [] _ PySem.W.oi_kind PySem.W.oi_split t2 (PySem.W.oi_args (.ref (hh.objs.size + 1))) ?_)
  rw [PySem.W.oi_run]
  exact wpAny_pure ⟨rfl, V.ref (hh.objs.size + 1), _, I2, rfl, hq⟩
/-! ### x <= y -/
/-- the class C' of y against the class C of x: the same, not below, or below with object's __ge__ -/
def LeOk (K : PySem.W.Frag) (C C' : Addr) : Prop := PySem.W.notFirst K C (.ref C') = true ∨ (C ≠ C' ∧ PySem.W.subIn K (.ref C') (.ref C) = some true ∧ PySem.W.findIn K (.ref C') "__ge__" = some (some (.builtin "object.__ge__")) ∧ PySem.W.mroIn K C' (.type "object") = some true)
def yLeO (K : PySem.W.Frag) (f : Addr) (sp : Sp) (E : XK) : R2 := fun x y H Q => ∃ a b C C' dx dy fs gs, x = .ref a ∧ y = .ref b ∧ H a = some (.ins C dx fs) ∧ H b = some (.ins C' dy gs) ∧ PySem.W.findIn K (.ref C) "__le__" = some (some (.ref f)) ∧ LeOk K C C' ∧ sp [.ref a, .ref b] H (fun v H' => match v with
  | .bl c => Q (.bl c) H'
  | _ => False) E
theorem op_leO (K : PySem.W.Frag) (F : FnOk X.prog X.w X.K X.mg X.base CX n f fd ps sp) (hf : PySem.W.isFn X.K (.ref f) = true) (hb : Binds X.K fd ps []) (hx : Passes CX X E) (hr : Room n X.A) (hK : X.K = K := by rfl) : OpR X (compareOp .LtE) (yLeO K f sp E) := by
  subst hK
  intro pins s σ H x y u v Q I rx ry h
  obtain ⟨a, b, C, C', dx, dy, fs, gs, rfl, rfl, ha, hb', hs, hle, hsp⟩ := h
  cases rx
  cases ry
  show wpAny _ _ (richCompare .LtE (.ref a) (.ref b)) _ _ _
  obtain ⟨mA, J1, _⟩ := ins_get I.hok ha
  obtain ⟨mB, J2, _⟩ := ins_get I.hok hb'
  obtain ⟨od, J1, _⟩ := J1.look
  obtain ⟨od', J2, _⟩ := J2.look
  obtain ⟨m, hF⟩ := I.fr
  have back : wpAny (model X.prog X.w) X.A (call (.ref f) [.ref a, .ref b]) (PySem.W.CmpBack (EP X pins σ Q)) X.xe s := by
    refine wpAny_mono (run_fn (us := [.ref a, .ref b]) (vs := [.ref a, .ref b]) (dvs := []) F hr hb .nil hx I (.cons rfl (.cons rfl .nil)) hsp) (fun v s' q => ?_) fun _ _ e => e
    obtain ⟨z, H', I', rz, q⟩ := q
    cases z with
    | bl c =>
      cases rz
      exact ⟨.bl c, H', I', rfl, q⟩
    | _ => exact q.elim
  rcases hle with hn | ⟨hne, h1, h2, h3⟩
  · exact PySem.W.cmp_K (op := .LtE) (tb := .ref C') hr.units0 hF I.ok.mod.kin J1 J2.type hn hs hf back
  · exact PySem.W.le_sub hr.units0 hF I.ok.mod.kin J1 J2 hne h1 h2 h3 hs hf back
end
/-! ### super().m(..) -/
/-- the names of a def that tells its class's cell: the parameters, the cell's name, further ones -/
structure SupScope (ps : List Str) (sc : Scope) : Prop where
  kind : sc.kind = .function
  co : sc.isCoroutine = false
  gen : sc.isGenerator = false
  nd : ps.Nodup
  par : ∀ x ∈ ps, sc.names.lookup x = some .local
  cell : ∀ y ∈ sc.names, y.2 ≠ .cell
  free : ∀ y ∈ sc.names, y.2 = .free → y.1 = "__class__"
  cls : sc.names.lookup ("__class__" : Str) = some .free
  sup : sc.names.lookup ("super" : Str) = some .globalImplicit
  one : ps.head? = some ("self" : Str)
/-- such a def at f, of the class at D: its code's object at cda, its cell at cc -/
def SupI (K : PySem.W.Frag) (D f : Addr) (name qual : Str) (params : Arguments) (body : List Stmt) (scope : Scope) (file : Str) (fd : FuncData) (cda cc : Addr) : Prop :=
  ∃ (oc kV doc pm ct ccl cl : Value) (od an cdd cld : Option Addr) (osl ccs csl : Array (Option Value)) (vs : Array Value) (tf : Tok),
    fd = PySem.W.ksFn name qual params body scope .none kV doc pm an (.ref cda) ct cc ∧ K.lookup f = some ⟨oc, od, .func fd, osl⟩ ∧ PySem.W.codeIn K (.ref cda) qual = true ∧ K.lookup cda = some ⟨ccl, cdd, .fields vs, ccs⟩ ∧ vs[2]? = some (.str file tf) ∧
    K.lookup cc = some ⟨cl, cld, .cell (some (.ref D)), csl⟩
def SupF (K : PySem.W.Frag) (D f : Addr) (name qual : Str) (params : Arguments) (body : List Stmt) (scope : Scope) (file : Str) (fd : FuncData) : Prop := ∃ cda cc, SupI K D f name qual params body scope file fd cda cc
/-- from the class at D on, in an instance of C, m is the def at g -/
structure Sup (K : PySem.W.Frag) (C D : Addr) (m : Str) (g : Addr) : Prop where
  sup : PySem.W.ks_superIn K C D m = some (some (.ref g))
  mro : PySem.W.mroIn K C (.ref D) = some true
  clsD : PySem.W.isClsIn K D = true
  opq : PySem.W.nsIn K cStatics "thirdparty.any" = some none
  ty : PySem.W.typeIn K (.ref g) = some (.type "function")
  fn : PySem.W.fnIn K g = true
/-- the context of its body -/
def cxS (P : Program) (w : World) (K : PySem.W.Frag) (mg : Str → Option Value) (base : Heap) (ps : List Str) (qual : Str) (scope : Scope) (f : Addr) (cd : Value) (cc : Addr) (A : Around) (outer : List Env) (s : Shared) (H : Hp) : Cx where
  prog := P
  w := w
  K := K
  mg := mg
  base := base
  A := A.deeper (PySem.W.ksEnv qual scope s.heap.objs.size f cd cc)
  N := ps
  s_0 := s
  H_0 := H
  env := PySem.W.ksEnv qual scope s.heap.objs.size f cd cc
  outer := outer
  stack := PySem.W.ksEnv qual scope s.heap.objs.size f cd cc :: outer
  ex := []
  calm := true
  fn := fun x => !(x == ("__class__" : Str))
  pn := []
  xe := fun _ _ => False
/-- an expression right in a def's body -/
structure PEa (X : Cx) (body : List Stmt) (e : Expr) (te : TE) : Prop where
  run : ∀ (pins : List (Addr × Obj)) (s : Shared) (σ : L2.St) (H : Hp) (Q : VK), Inv X pins σ H s → te σ H Q → PySem.wpAt (model X.prog X.w) X.A (.func body X.env) (eval e X.env) (EP X pins σ Q) X.xe s
theorem pea_of {X : Cx} {body : List Stmt} {e : Expr} {te : TE} (h : PE X e te) : PEa X body e te := ⟨fun pins s σ H Q I q => PySem.wpAt_of_wpAny (h.run pins s σ H Q I q)⟩
/-- a and b, a a truth -/
theorem pea_and {X : Cx} {body : List Stmt} {a b : Expr} {ta tb : TE} {pos : Pos} (ha : PE X a ta) (hb : PEa X body b tb) :
    PEa X body (.BoolOp .And [a, b] pos) (fun σ H Q => ta σ H fun x H1 => ∃ c, x = .bl c ∧ (c = true → tb σ H1 Q) ∧ (c = false → Q (.bl false) H1)) := by
  refine ⟨fun pins s σ H Q I h => ?_⟩
  rw [arm_eval_BoolOp]
  show PySem.wpAt _ _ _ (boolOp pos .And [eval a X.env, eval b X.env]) _ _ s
  show PySem.wpAt _ _ _ (eval a X.env >>= fun v => standAt pos >>= fun _ => holding [v] (truthy v) >>= fun t => match BoolOp.And, t with | .And, false | .Or, true => pure v | _, _ => boolOp pos .And [eval b X.env]) _ _ s
  refine PySem.wpAt_bind (PySem.wpAt_mono (PySem.wpAt_of_wpAny (ha.run pins s σ H _ I h)) (fun v s1 hv => ?_) fun _ _ z => z)
  obtain ⟨x, H1, I1, rv, c, rfl, q1, q2⟩ := hv
  cases rv
  refine PySem.wpAt_bind (PySem.wpAt_of_wpAny (wpAny_standAt ?_))
  refine PySem.wpAt_bind (PySem.wpAt_of_wpAny (wpAny_holding (wpAny_truthy_bool ?_)))
  cases c with
  | false => exact PySem.wpAt_of_wpAny (wpAny_pure ⟨.bl false, H1, I1, rfl, q2 rfl⟩)
  | true => exact hb.run pins s1 σ H1 Q I1 (q1 rfl)
section
variable {P : Program} {w : World} {K : PySem.W.Frag} {mg : Str → Option Value} {base : Heap} {ps : List Str} {name qual : Str} {params : Arguments} {body : List Stmt} {scope : Scope} {f g D C : Addr} {cda cc : Addr} {A : Around} {outer : List Env} {s : Shared} {H : Hp} {fd2 : FuncData} {ps2 : List Str} {sp : Sp} {k : Nat} {file : Str}
theorem lookup_snoc {y p : Str} {u : Value} : ∀ l : List (Str × Value), (l ++ [(p, u)]).lookup y = match l.lookup y with | some v => some v | none => if y = p then some u else none
  | [] => by
    show (match y == p with | true => some u | false => none) = if y = p then some u else none
    by_cases h : y = p
    · rw [if_pos h, beq_iff_eq.mpr h]
    · rw [if_neg h, beq_eq_false_iff_ne.mpr h]
  | (q, v) :: r => by
    show (match y == q with | true => some v | false => (r ++ [(p, u)]).lookup y) = match (match y == q with | true => some v | false => r.lookup y) with | some v => some v | none => if y = p then some u else none
    cases e : (y == q) with
    | true => rfl
    | false => exact lookup_snoc r
theorem lookup_none {y : Str} : ∀ {l : List (Str × Value)}, (∀ p ∈ l, p.1 ≠ y) → l.lookup y = none
  | [], _ => rfl
  | (q, v) :: r, h => by
    show (match y == q with | true => some v | false => r.lookup y) = none
    rw [beq_eq_false_iff_ne.mpr (Ne.symm (h (q, v) List.mem_cons_self))]
    exact lookup_none fun p hp => h p (List.mem_cons_of_mem _ hp)
theorem zip_rev_lookup : ∀ {ps : List Str} {us : List Value} {i : Nat} {y : Str} {u : Value}, ps.Nodup → ps[i]? = some y → us[i]? = some u → (ps.zip us).reverse.lookup y = some u
  | p :: r, w :: ws, 0, y, u, nd, h1, h2 => by
    simp only [List.getElem?_cons_zero, Option.some.injEq] at h1 h2
    subst h1
    subst h2
    rw [List.zip_cons_cons, List.reverse_cons, lookup_snoc, lookup_none, if_pos rfl]
    intro q hq e
    have := List.of_mem_zip (List.mem_reverse.mp hq)
    rw [← e] at nd
    exact (List.nodup_cons.mp nd).1 this.1
  | p :: r, w :: ws, i + 1, y, u, nd, h1, h2 => by
    rw [List.zip_cons_cons, List.reverse_cons, lookup_snoc, zip_rev_lookup (i := i) (List.nodup_cons.mp nd).2 (by simpa using h1) (by simpa using h2)]
  | [], _, _, _, _, _, h1, _ => by simp at h1
  | _ :: _, [], _, _, _, _, _, h2 => by simp at h2
theorem inv_sup {us : List Value} {vs : List V} {h₁ : Heap} {tk : Nat} {fc : Value} (S : SupScope ps scope) (hd : A.handled = none) (e0 : Env0 P w K mg base A outer s H) (hl : vs.length = ps.length) (r : Vals vs us) {ccl : Value} {ccd : Option Addr} {ccs : Array (Option Value)} {v0 : Option Value}
    (hcc : K.lookup cc = some ⟨ccl, ccd, .cell v0, ccs⟩) (hns : h₁.Ns s.heap.objs.size (fun x => (ps.zip us).reverse.lookup x)) (hk : ∀ b o, s.heap.get? b = some o → h₁.get? b = some o) :
    Inv (cxS P w K mg base ps qual scope f fc cc A outer s H) [] (L2.start ps vs) H { s with heap := h₁, toks := tk } := by
  have noA : ∀ b : Addr, b ∉ (cxS P w K mg base ps qual scope f fc cc A outer s H).ex := fun b z => absurd (show b ∈ ([] : List Addr) from z) (by simp)
  have cells : ∀ y c, (cxS P w K mg base ps qual scope f fc cc A outer s H).env.cells.lookup y = some c → y = "__class__" ∧ c = cc := fun y c h => by
    have h : List.lookup y [(("__class__" : Str), cc)] = some c := h
    rw [List.lookup_cons] at h
    split at h
    · rename_i e
      exact ⟨beq_iff_eq.mp e, (Option.some.inj h).symm⟩
    · exact nomatch h
  have bcc := e0.mod.kin _ _ hcc
  refine ⟨⟨e0.mod, S.kind, rfl, rfl, Nat.le_refl _, fun y z c h1 h2 => ((cells y c h1).1).trans ((cells z c h2).1).symm, fun y hy => ?_, fun y c hf h => ?_, fun _ => hd, Around.frames_deeper e0.frames, .inr ⟨rfl, rfl⟩, fun b z => absurd z (noA b), e0.bs, e0.bsz, fun b _ _ => noA b, fun b z => absurd z (noA b), e0.funs, e0.frf⟩,
    rfl, e0.bare, Un.kept hk, ⟨_, hns, fun i y v h1 h2 h3 => ?_⟩, fun y c h => ?_, e0.hok.fresh (Nat.le_refl _), fun y c h => ?_, fun p hp => absurd (show p ∈ ([] : List (Addr × Obj)) from hp) (by simp), e0.hok.kept hk, ?_⟩
  · have hy : scope.names.lookup y = some .cell ∨ scope.names.lookup y = some .free := hy
    rcases hy with hy | hy
    · exact absurd rfl (S.cell _ (PySem.mem_of_lookup hy))
    · have e := S.free _ (PySem.mem_of_lookup hy) rfl
      refine ⟨cc, ?_⟩
      show List.lookup y [(("__class__" : Str), cc)] = some cc
      rw [show y = "__class__" from e]
      rfl
  · obtain ⟨e, _⟩ := cells y c h
    have hf : (!(y == ("__class__" : Str))) = true := hf
    rw [e] at hf
    exact absurd hf (by decide)
  · have hi : i < vs.length := by
      have := (List.getElem?_eq_some_iff.mp h1).1
      have e : (cxS P w K mg base ps qual scope f fc cc A outer s H).N = ps := rfl
      rw [e] at this
      omega
    have h1 : ps[i]? = some y := h1
    have ha : vs[i]? = some v := by
      unfold L2.start at h2
      rw [List.getElem?_append_left (by simpa using hi), List.getElem?_map] at h2
      cases e : vs[i]? with
      | none => rw [e] at h2; cases h2
      | some a => rw [e] at h2; cases h2; rfl
    obtain ⟨u, hu, rv⟩ := r.get ha
    exact ⟨u, rv, .inl ⟨S.par y (List.mem_of_getElem? h1), zip_rev_lookup S.nd h1 hu⟩⟩
  · obtain ⟨_, rfl⟩ := cells y c h
    exact ⟨v0, _, hk _ _ (e0.bs _ _ bcc).1, rfl⟩
  · obtain ⟨_, rfl⟩ := cells y c h
    exact (e0.bs _ _ bcc).2
  · unfold L2.start
    show _ = ps.length
    rw [List.length_append, List.length_map, List.length_replicate]
    omega
/-- THE RULE: a def whose body returns such an expression -/
theorem fn_sup {pos : Pos} {e : Expr} {fd : FuncData} (F : SupF K D f name qual params [.Return (some e) pos] scope file fd) (S : SupScope ps scope) (len : ∀ vs H Q E, sp vs H Q E → vs.length = ps.length)
    (hbody : ∀ (cda cc : Addr), SupI K D f name qual params [.Return (some e) pos] scope file fd cda cc → ∀ (A : Around) (outer : List Env) (s : Shared) (H : Hp) (vs : List V) (Q : VK) (E : XK), Room k (A.deeper (PySem.W.ksEnv qual scope s.heap.objs.size f (.ref cda) cc)) → sp vs H Q E →
      ∃ te, PEa (cxS P w K mg base ps qual scope f (.ref cda) cc A outer s H) [.Return (some e) pos] e te ∧ te (L2.start ps vs) H Q) :
    FnOk P w K mg base CX0 (k + 1) f fd ps sp := by
  obtain ⟨cda, cc, hI⟩ := F
  have hI' := hI
  obtain ⟨oc, kV, doc, pm, ct, ccl, cl, od, an, cdd, cld, osl, ccs, csl, vs0, tf, efd, ho, hcd, hcda, hvs, hcc⟩ := hI
  refine ⟨len, fun A outer s H args us vs Q E hr e0 hb r hsp => ?_⟩
  have hl := len _ _ _ _ hsp
  have KX : K.In s.heap := e0.mod.kin.keeps fun b o e => (e0.bs b o e).1
  have lim : s.heap.NoLimit := e0.mod.nolimit.keeps fun b o e => (e0.bs b o e).1
  subst efd
  refine ks_codeAny_call_defAt (fd := PySem.W.ksFn name qual params [.Return (some e) pos] scope .none kV doc pm an (.ref cda) ct cc) (body := [.Return (some e) pos]) (binds := ps.zip us) hr.depth (KX _ _ ho) rfl lim (PySem.W.codeRec_of KX hcd) rfl hb S.cell (fun y hy => S.par y.1 (List.of_mem_zip hy).1)
    (fun h₁ hns hk => ?_) S.co S.gen S.kind
  have I := inv_sup (tk := s.toks + (ps.zip us).length) (f := f) (qual := qual) (fc := .ref cda) S hr.hd e0 hl r hcc hns hk
  obtain ⟨te, ht, hq⟩ := hbody cda cc hI' A outer s H vs Q E (hr.deeper _) hsp
  refine ks_wpAt_execs_cons (ks_wpAt_Return_some (PySem.wpAt_mono (ht.run [] _ _ H Q I hq) (fun v s' h => ?_) fun _ _ z => z.elim))
  obtain ⟨y, H', J, rv, q⟩ := h
  exact ⟨y, H', J.os, J.bare, J.base, J.hok, rv, q⟩
/-- super().m(e, ..) -/
theorem pea_sup {m : Str} {ar : Arg} {fd : FuncData} {fbody : List Stmt} {H0 : Hp} {s0 : Shared} {E : XK} {e : Expr} {es : List Expr} {t : TA} {p0 p1 p2 p3 : Pos} {pl : Sem Bool} (hI : SupI K D f name qual params fbody scope file fd cda cc) (S : SupScope ps scope) (hp : (params.posonlyargs ++ params.args).head? = some ar) (har : ar.arg = ("self" : Str))
    (N : Sup K C D m g) (G : FnOk P w K mg base CX0 k g fd2 ps2 sp) (hb : Binds K fd2 ps2 []) (hr : Room k (cxS P w K mg base ps qual scope f (.ref cda) cc A outer s0 H0).A) (pf : PySem.XExc.PF P file) (hms : mg "super" = none) (hm : (m == ("__class__" : Str)) = false)
    (ha : PA (cxS P w K mg base ps qual scope f (.ref cda) cc A outer s0 H0) (e :: es) t)
    (hev : eval (.Call (.Attribute (.Call (.Name "super" p0) [] [] p1) m p2) (e :: es) [] p3) (cxS P w K mg base ps qual scope f (.ref cda) cc A outer s0 H0).env = (do
      let ov ← attributeBase (.Call (.Name "super" p0) [] [] p1) m (cxS P w K mg base ps qual scope f (.ref cda) cc A outer s0 H0).env (eval (.Call (.Name "super" p0) [] [] p1) (cxS P w K mg base ps qual scope f (.ref cda) cc A outer s0 H0).env)
      standAt p2.atName
      let (f', first) ← holding [ov] (getMethod ov m pl)
      callWith p3 f' first (backTo p3 (starEach (e :: es) (cxS P w K mg base ps qual scope f (.ref cda) cc A outer s0 H0).env)) []) := by rfl)
    (hst : starEach (e :: es) (cxS P w K mg base ps qual scope f (.ref cda) cc A outer s0 H0).env = (false, eval e (cxS P w K mg base ps qual scope f (.ref cda) cc A outer s0 H0).env) :: starEach es (cxS P w K mg base ps qual scope f (.ref cda) cc A outer s0 H0).env := by rfl)
    (hpl : (backTo p3 (starEach es (cxS P w K mg base ps qual scope f (.ref cda) cc A outer s0 H0).env)).any (·.1) = false := by rfl) :
    PEa (cxS P w K mg base ps qual scope f (.ref cda) cc A outer s0 H0) fbody (.Call (.Attribute (.Call (.Name "super" p0) [] [] p1) m p2) (e :: es) [] p3)
      (fun σ H Q => ∃ x dx fs, σ[0]? = some (some (V.ref x)) ∧ H x = some (.ins C dx fs) ∧ t σ H fun vs H2 => sp (.ref x :: vs) H2 Q E) := by
  obtain ⟨oc, kV, doc, pm, ct, ccl, cl, od, an, cdd, cld, osl, ccs, csl, vs0, tf, efd, ho, hcd, hcda, hvs, hcc⟩ := hI
  subst efd
  refine ⟨fun pins s σ H Q I h => ?_⟩
  obtain ⟨x, dx, fs, hσ, hx, h⟩ := h
  have kin : K.In s.heap := I.kIn
  obtain ⟨mA, J1, _⟩ := ins_get I.hok hx
  obtain ⟨od1, J1, _⟩ := J1.look
  obtain ⟨mb, hB, hbb⟩ := I.mod.blt
  have hG := I.mod.glob.keeps I.bk
  have hB := hB.keeps I.bk
  obtain ⟨m0, hns, hloc⟩ := I.loc
  have hN0 : (cxS P w K mg base ps qual scope f (.ref cda) cc A outer s0 H0).N[0]? = some ("self" : Str) := by
    show ps[0]? = some ("self" : Str)
    rw [← List.head?_eq_getElem?]
    exact S.one
  have hself : m0 ("self" : Str) = some (.ref x) := by
    obtain ⟨u, ru, lk⟩ := hloc 0 ("self" : Str) (.ref x) hN0 hσ (.inl (S.par _ (List.mem_of_getElem? hN0)))
    cases ru
    rcases lk with ⟨_, e⟩ | ⟨e, _⟩
    · exact e
    · have z : scope.names.lookup ("self" : Str) = some .local := S.par _ (List.mem_of_getElem? hN0)
      have e : scope.names.lookup ("self" : Str) = some .cell ∨ scope.names.lookup ("self" : Str) = some .free := e
      rw [z] at e
      rcases e with e | e <;> exact nomatch e
  obtain ⟨oD, cdD, hD1, hD2⟩ : ∃ oD cdD, s.heap.get? D = some oD ∧ oD.data = .cls cdD := by
    have z := N.clsD
    unfold PySem.W.isClsIn PySem.W.clsIn at z
    split at z
    · rename_i c d cd' sl hoD
      exact ⟨_, cd', kin _ _ hoD, rfl⟩
    · exact nomatch z
  cases hcC : PySem.W.clsIn K C with
  | none => have z := N.sup; unfold PySem.W.ks_superIn at z; rw [hcC] at z; cases z
  | some cdC =>
    have hm2 := N.sup
    unfold PySem.W.ks_superIn at hm2
    rw [hcC] at hm2
    obtain ⟨og, hog, hogc⟩ : ∃ og, s.heap.get? g = some og ∧ og.cls = .type "function" := by
      have ht' : (K.lookup g).map (·.cls) = some (.type "function") := N.ty
      cases z : K.lookup g with
      | none => rw [z] at ht'; cases ht'
      | some og => rw [z] at ht'; exact ⟨og, kin _ _ z, Option.some.inj ht'⟩
    refine ks_wpAt_MethodCall (o := .Call (.Name "super" p0) [] [] p1) (name := m) (he := hev) ?_
    refine ks_wpAt_super_base (env := (cxS P w K mg base ps qual scope f (.ref cda) cc A outer s0 H0).env) S.sup S.cls hm rfl (kin _ _ ho) rfl hp rfl (kin _ _ hcda) rfl hvs pf.1 pf.2 ?_
    refine PySem.W.ks_loadName_global S.kind S.sup (Calls.loadGlobal_builtin hG hms hB ((hbb _ (by decide +kernel)).trans (by first | boot_by_name | rfl | kernel_rfl)) ⟨rfl, ?_⟩)
    refine wpAny_loadName_free S.kind S.cls rfl ⟨_, kin _ _ hcc, rfl⟩ ?_
    rw [har]
    refine wpAny_loadName_local S.kind (S.par _ (List.mem_of_getElem? hN0)) hns hself ?_
    refine ks_wpAny_isType_cls hD1 hD2 ⟨rfl, ?_⟩
    refine ks_wpAny_call_super hD1 hD2 J1.at_ J1.cls (fun c e => ?_) (PySem.W.looks_mroIn kin N.mro) (fun h' hso k1 => ?_)
    · have := J1.no
      unfold PySem.W.notCls at this
      rw [e] at this
      exact Bool.noConfusion this
    have I1 := I.kept (t' := s.toks) k1
    have kin1 : K.In h' := I1.kIn
    refine ks_wpAny_getMethod_super hso (PySem.W.looks_opaque kin1 N.opq) (l₀ := cdC.mro) ?_ rfl kin1 hm2 (k1 _ _ hog) hogc (PySem.W.ks_ne kin J1 hcC) hm ?_
    · exact fun A Q E s k q => wpAny_bind ((PySem.W.looks_clsIn kin1 hcC) A _ E s k (wpAny_pure q))
    have hq : (h'.push (PySem.W.methodObj (.ref g) (.ref x))).get? h'.objs.size = some (PySem.W.methodObj (.ref g) (.ref x)) := Heap.get?_push_at rfl rfl
    have k2 : ∀ b o, h'.get? b = some o → (h'.push (PySem.W.methodObj (.ref g) (.ref x))).get? b = some o := fun b o e => Heap.get?_push_of_some _ e
    have I2 := I1.kept (t' := s.toks + 1) k2
    have I3 := I2.pinned (fp := [h'.objs.size]) (fun b hb => by
      rw [List.mem_singleton.mp hb]
      exact I1.fpOk (Nat.le_refl _) (I1.hok.fresh (Nat.le_refl _))) (fun b hb => by
      rw [List.mem_singleton.mp hb]
      exact ⟨_, hq, fun v z => nomatch z⟩)
    have hpin : (h'.objs.size, (PySem.W.methodObj (.ref g) (.ref x) : Obj)) ∈ pinsAt [h'.objs.size] (h'.push (PySem.W.methodObj (.ref g) (.ref x))) := mem_pinsAt List.mem_cons_self hq
    suffices hA : wpAny (model P w) (cxS P w K mg base ps qual scope f (.ref cda) cc A outer s0 H0).A (spliced (backTo p3 (starEach (e :: es) (cxS P w K mg base ps qual scope f (.ref cda) cc A outer s0 H0).env)))
        (fun vs s₁ => PySem.W.MethP K h'.objs.size g (.ref x) s₁.heap ∧ wpAny (model P w) (cxS P w K mg base ps qual scope f (.ref cda) cc A outer s0 H0).A (call (.ref h'.objs.size) ([] ++ vs)) (EP (cxS P w K mg base ps qual scope f (.ref cda) cc A outer s0 H0) pins σ Q) (fun _ _ => False) s₁) (fun _ _ => False)
        { s with heap := h'.push (PySem.W.methodObj (.ref g) (.ref x)), toks := s.toks + 1 } by
      rw [hst] at hA ⊢
      exact PySem.W.callWith_of (P := PySem.W.MethP K h'.objs.size g (.ref x)) (by show ((false || (backTo p3 (starEach es _)).any (·.1)) || false) = false; rw [hpl]; rfl) (PySem.W.keeps_M N.fn) (PySem.Calls.evalArgs_plain hA)
    refine thn (ha.run p3 _ _ σ H _ I3 h) fun us s3 ⟨vs, H2, I4, r, q⟩ => ?_
    have hq3 : s3.heap.get? h'.objs.size = some (PySem.W.methodObj (.ref g) (.ref x)) := (I4.pin _ (List.mem_append_right _ (List.mem_append_right _ hpin))).1
    refine ⟨⟨hq3, I4.kIn⟩, ?_⟩
    show wpAny _ _ (call (.ref h'.objs.size) us) _ _ _
    have r2 : Vals (V.ref x :: vs) (Value.ref x :: us) := .cons rfl r
    have hl : (Value.ref x :: us).length = ps2.length := by rw [← r2.length]; exact G.len _ _ _ _ q
    have b := hb s3 (Value.ref x :: us) I4.kIn (by rw [List.append_nil]; exact hl)
    rw [List.append_nil] at b
    refine wpAny_call (ks_codeAny_call_bound hq3 (codeAny_mono (G.run _ (cxS P w K mg base ps qual scope f (.ref cda) cc A outer s0 H0).stack s3 H2 ⟨Value.ref x :: us, []⟩ (Value.ref x :: us) (V.ref x :: vs) Q E hr I4.env0 b r2 q) fun r s' hq' => ?_))
    cases r with
    | error e => exact hq'.elim
    | ok fl =>
      cases fl with
      | ret u =>
        obtain ⟨y, H', J, rv, q'⟩ := I4.after hq'
        exact ⟨y, H', J.unpinned, rv, q'⟩
      | next => exact False.elim hq'
      | brk => exact False.elim hq'
      | cont => exact False.elim hq'
end
theorem sup_binds {K : PySem.W.Frag} {fd : FuncData} {ps : List Str} (h : ∀ us : List Value, us.length = ps.length → bindArgs fd ⟨us, []⟩ = pure (ps.zip us)) : Binds K fd ps [] := fun s us _ hl => by
  rw [List.append_nil] at hl ⊢
  exact .of_eq (h us hl)
theorem le_self {K : PySem.W.Frag} {C : Addr} : LeOk K C C := .inl (by unfold PySem.W.notFirst; rw [beq_self_eq_true, Bool.true_or])
theorem le_no {K : PySem.W.Frag} {C C' : Addr} (h : PySem.W.subIn K (.ref C') (.ref C) = some false) : LeOk K C C' := .inl (by unfold PySem.W.notFirst; rw [h]; simp)
theorem le_below {K : PySem.W.Frag} {C C' : Addr} (hn : (Value.ref C == Value.ref C') = false) (h1 : PySem.W.subIn K (.ref C') (.ref C) = some true) (h2 : PySem.W.findIn K (.ref C') "__ge__" = some (some (.builtin "object.__ge__"))) (h3 : PySem.W.mroIn K C' (.type "object") = some true) : LeOk K C C' :=
  .inr ⟨fun e => by rw [e, beq_self_eq_true] at hn; exact absurd hn (by decide), h1, h2, h3⟩
end XL
set_option Elab.async false
set_option linter.all false
set_option maxRecDepth 100000
set_option maxHeartbeats 4000000
namespace K45
open PySem PySem.Spec PyProof.Rows L2 XL
def topS (i : Nat) : Stmt := PySem.Challenge.pw_drawnanew_k45_fences_let.main.body.getD i (.Pass ⟨0, 0, 0, 0⟩)
abbrev s_Entry_init : Stmt := inClass (topS 6) 0
theorem sc_Entry_init : FnScope ["self", "owner", "word", "who", "ticket", "question", "answer"] ["self", "owner", "word", "who", "ticket", "question", "answer"] (defScope s_Entry_init) := ⟨rfl, rfl, rfl, by decide +kernel, rfl, by decide +kernel, by decide +kernel⟩
abbrev s_Line_init : Stmt := inClass (topS 7) 0
theorem sc_Line_init : FnScope ["self", "far", "room"] ["self", "far", "room"] (defScope s_Line_init) := ⟨rfl, rfl, rfl, by decide +kernel, rfl, by decide +kernel, by decide +kernel⟩
abbrev s_Line_send : Stmt := inClass (topS 7) 2
theorem sc_Line_send : FnScope ["self", "owner", "word", "who", "question", "row"] ["self", "owner", "word", "who", "question"] (defScope s_Line_send) := ⟨rfl, rfl, rfl, by decide +kernel, rfl, by decide +kernel, by decide +kernel⟩
abbrev s_Fence_lets : Stmt := inClass (topS 8) 0
theorem sc_Fence_lets : FnScope ["self", "entry", "who", "question", "ticket"] ["self", "entry", "who", "question", "ticket"] (defScope s_Fence_lets) := ⟨rfl, rfl, rfl, by decide +kernel, rfl, by decide +kernel, by decide +kernel⟩
abbrev s_Fence_le : Stmt := inClass (topS 8) 1
theorem sc_Fence_le : FnScope ["self", "other", "entry", "who", "question", "ticket", "inner"] ["self", "other"] (defScope s_Fence_le) := ⟨rfl, rfl, rfl, by decide +kernel, rfl, by decide +kernel, by decide +kernel⟩
abbrev s_Own_lets : Stmt := inClass (topS 9) 0
theorem sc_Own_lets : SupScope ["self", "entry", "who", "question", "ticket"] (defScope s_Own_lets) := ⟨rfl, rfl, rfl, by decide +kernel, by decide +kernel, by decide +kernel, by decide +kernel, by decide +kernel, by decide +kernel, rfl⟩
abbrev s_Same_lets : Stmt := inClass (topS 10) 0
theorem sc_Same_lets : SupScope ["self", "entry", "who", "question", "ticket"] (defScope s_Same_lets) := ⟨rfl, rfl, rfl, by decide +kernel, by decide +kernel, by decide +kernel, by decide +kernel, by decide +kernel, by decide +kernel, rfl⟩
abbrev s_Both_lets : Stmt := inClass (topS 11) 0
theorem sc_Both_lets : SupScope ["self", "entry", "who", "question", "ticket"] (defScope s_Both_lets) := ⟨rfl, rfl, rfl, by decide +kernel, by decide +kernel, by decide +kernel, by decide +kernel, by decide +kernel, by decide +kernel, rfl⟩
abbrev s_Last_lets : Stmt := inClass (topS 12) 0
theorem sc_Last_lets : FnScope ["self", "entry", "who", "question", "ticket"] ["self", "entry", "who", "question", "ticket"] (defScope s_Last_lets) := ⟨rfl, rfl, rfl, by decide +kernel, rfl, by decide +kernel, by decide +kernel⟩
abbrev s_fence_of : Stmt := topS 13
theorem sc_fence_of : FnScope ["word"] ["word"] (defScope s_fence_of) := ⟨rfl, rfl, rfl, by decide +kernel, rfl, by decide +kernel, by decide +kernel⟩
abbrev s_mixed : Stmt := topS 15
theorem sc_mixed : FnScope ["_law_number", "_law_turn", "_law_first", "_law_second"] ["_law_number", "_law_turn"] (defScope s_mixed) := ⟨rfl, rfl, rfl, by decide +kernel, rfl, by decide +kernel, by decide +kernel⟩
abbrev s_bag : Stmt := topS 16
theorem sc_bag : FnScope ["_law_script", "_law_cell", "_law_numbers", "_law_seed", "_law_at"] ["_law_script"] (defScope s_bag) := ⟨rfl, rfl, rfl, by decide +kernel, rfl, by decide +kernel, by decide +kernel⟩
abbrev s_pick : Stmt := topS 17
theorem sc_pick : FnScope ["_law_bag_here", "_law_many", "_law_turn", "_law_cell", "_law_worth"] ["_law_bag_here", "_law_many"] (defScope s_pick) := ⟨rfl, rfl, rfl, by decide +kernel, rfl, by decide +kernel, by decide +kernel⟩
abbrev s_mingled : Stmt := topS 18
theorem sc_mingled : FnScope ["_law_bag_here", "_law_things", "_law_left", "_law_out", "_law_step"] ["_law_bag_here", "_law_things"] (defScope s_mingled) := ⟨rfl, rfl, rfl, by decide +kernel, rfl, by decide +kernel, by decide +kernel⟩
abbrev s_new_name : Stmt := topS 19
theorem sc_new_name : FnScope ["_law_bag_here", "_law_used", "_law_letters", "_law_told", "_law_near", "_law_at", "_law_tails", "_law_step", "_law_k", "_law_tail"] ["_law_bag_here", "_law_used"] (defScope s_new_name) := ⟨rfl, rfl, rfl, by decide +kernel, rfl, by decide +kernel, by decide +kernel⟩
abbrev s_words : Stmt := topS 20
theorem sc_words : FnScope [] [] (defScope s_words) := ⟨rfl, rfl, rfl, by decide +kernel, rfl, by decide +kernel, by decide +kernel⟩
abbrev s_lets : Stmt := topS 21
theorem sc_lets : FnScope ["_law_word", "_law_own", "_law_same", "_law_last"] ["_law_word", "_law_own", "_law_same", "_law_last"] (defScope s_lets) := ⟨rfl, rfl, rfl, by decide +kernel, rfl, by decide +kernel, by decide +kernel⟩
abbrev s_cases : Stmt := topS 22
theorem sc_cases : FnScope ["_law_out", "_law_own", "_law_same", "_law_last"] [] (defScope s_cases) := ⟨rfl, rfl, rfl, by decide +kernel, rfl, by decide +kernel, by decide +kernel⟩
abbrev s_at_most : Stmt := topS 23
theorem sc_at_most : FnScope ["_law_first", "_law_second", "_law_own", "_law_same", "_law_last"] ["_law_first", "_law_second"] (defScope s_at_most) := ⟨rfl, rfl, rfl, by decide +kernel, rfl, by decide +kernel, by decide +kernel⟩
abbrev s_truth : Stmt := topS 24
theorem sc_truth : FnScope ["_law_told", "_law_due"] ["_law_told", "_law_due"] (defScope s_truth) := ⟨rfl, rfl, rfl, by decide +kernel, rfl, by decide +kernel, by decide +kernel⟩
abbrev s_any_number : Stmt := topS 25
theorem sc_any_number : FnScope ["_law_bag_here"] ["_law_bag_here"] (defScope s_any_number) := ⟨rfl, rfl, rfl, by decide +kernel, rfl, by decide +kernel, by decide +kernel⟩
abbrev s_other : Stmt := topS 26
theorem sc_other : FnScope ["_law_bag_here", "_law_number"] ["_law_bag_here", "_law_number"] (defScope s_other) := ⟨rfl, rfl, rfl, by decide +kernel, rfl, by decide +kernel, by decide +kernel⟩
abbrev s_entry : Stmt := topS 27
theorem sc_entry : FnScope ["_law_bag_here", "_law_row", "_law_line", "_law_entry_here", "_law_step"] ["_law_bag_here", "_law_row"] (defScope s_entry) := ⟨rfl, rfl, rfl, by decide +kernel, rfl, by decide +kernel, by decide +kernel⟩
abbrev s_fields : Stmt := topS 28
theorem sc_fields : FnScope ["_law_entry_here"] ["_law_entry_here"] (defScope s_fields) := ⟨rfl, rfl, rfl, by decide +kernel, rfl, by decide +kernel, by decide +kernel⟩
abbrev s_asked : Stmt := topS 29
theorem sc_asked : FnScope ["_law_bag_here", "_law_fences", "_law_entry_here", "_law_row", "_law_own", "_law_same", "_law_last", "_law_who", "_law_question", "_law_ticket", "_law_word", "_law_fence", "_law_due"] ["_law_bag_here", "_law_fences", "_law_entry_here", "_law_row"] (defScope s_asked) := ⟨rfl, rfl, rfl, by decide +kernel, rfl, by decide +kernel, by decide +kernel⟩
abbrev s_classes : Stmt := topS 30
theorem sc_classes : FnScope ["_law_fences", "_law_word", "_law_fence"] ["_law_fences"] (defScope s_classes) := ⟨rfl, rfl, rfl, by decide +kernel, rfl, by decide +kernel, by decide +kernel⟩
abbrev s_none : Stmt := topS 31
theorem sc_none : FnScope ["_law_bag_here", "_law_letters", "_law_word", "_law_at", "_law_sign", "_law_way"] ["_law_bag_here"] (defScope s_none) := ⟨rfl, rfl, rfl, by decide +kernel, rfl, by decide +kernel, by decide +kernel⟩
abbrev s_refused : Stmt := topS 32
theorem sc_refused : FnScope ["_law_word", "error"] ["_law_word"] (defScope s_refused) := ⟨rfl, rfl, rfl, by decide +kernel, rfl, by decide +kernel, by decide +kernel⟩
abbrev s_law : Stmt := topS 33
theorem sc_law : FnScope ["_law_script", "_law_bag_here", "_law_made", "_law_word", "_law_turn", "_law_path", "_law_row", "_law_entry_here", "_law_first", "_law_one", "_law_second", "_law_two", "_law_step"] ["_law_script"] (defScope s_law) := ⟨rfl, rfl, rfl, by decide +kernel, rfl, by decide +kernel, by decide +kernel⟩
abbrev s_BadFence_init : Stmt := inClass (topS 3) 0
/-- what the top leaves -/
structure Top (K : PySem.W.Frag) (mg : Str → Option Value) (W : World) where
  x_file : Str
  m_ValueError : mg "ValueError" = none
  m_abs : mg "abs" = none
  m_bool : mg "bool" = none
  m_enumerate : mg "enumerate" = none
  m_int : mg "int" = none
  m_isinstance : mg "isinstance" = none
  m_len : mg "len" = none
  m_list : mg "list" = none
  m_range : mg "range" = none
  m_super : mg "super" = none
  m_tuple : mg "tuple" = none
  a_Entry_init : Addr
  d_Entry_init : FuncData
  F_Entry_init : Fun K "__init__" "Entry.__init__" s_Entry_init a_Entry_init d_Entry_init
  b_Entry_init : Binds K d_Entry_init ["self", "owner", "word", "who", "ticket", "question", "answer"] []
  a_Line_init : Addr
  d_Line_init : FuncData
  F_Line_init : Fun K "__init__" "Line.__init__" s_Line_init a_Line_init d_Line_init
  b_Line_init : Binds K d_Line_init ["self", "far", "room"] []
  a_Line_send : Addr
  d_Line_send : FuncData
  F_Line_send : Fun K "send" "Line.send" s_Line_send a_Line_send d_Line_send
  b_Line_send : Binds K d_Line_send ["self", "owner", "word", "who", "question"] []
  a_Fence_lets : Addr
  d_Fence_lets : FuncData
  F_Fence_lets : Fun K "lets" "Fence.lets" s_Fence_lets a_Fence_lets d_Fence_lets
  b_Fence_lets : Binds K d_Fence_lets ["self", "entry", "who", "question", "ticket"] []
  a_Fence_le : Addr
  d_Fence_le : FuncData
  F_Fence_le : Fun K "__le__" "Fence.__le__" s_Fence_le a_Fence_le d_Fence_le
  b_Fence_le : Binds K d_Fence_le ["self", "other"] []
  a_Own_lets : Addr
  d_Own_lets : FuncData
  b_Own_lets : Binds K d_Own_lets ["self", "entry", "who", "question", "ticket"] []
  a_Same_lets : Addr
  d_Same_lets : FuncData
  b_Same_lets : Binds K d_Same_lets ["self", "entry", "who", "question", "ticket"] []
  a_Both_lets : Addr
  d_Both_lets : FuncData
  b_Both_lets : Binds K d_Both_lets ["self", "entry", "who", "question", "ticket"] []
  a_Last_lets : Addr
  d_Last_lets : FuncData
  F_Last_lets : Fun K "lets" "Last.lets" s_Last_lets a_Last_lets d_Last_lets
  b_Last_lets : Binds K d_Last_lets ["self", "entry", "who", "question", "ticket"] []
  a_fence_of : Addr
  d_fence_of : FuncData
  F_fence_of : Fun K "fence_of" "fence_of" s_fence_of a_fence_of d_fence_of
  b_fence_of : Binds K d_fence_of ["word"] []
  g_fence_of : mg "fence_of" = some (.ref a_fence_of)
  a_mixed : Addr
  d_mixed : FuncData
  F_mixed : Fun K "_law_mixed" "_law_mixed" s_mixed a_mixed d_mixed
  b_mixed : Binds K d_mixed ["_law_number", "_law_turn"] []
  g_mixed : mg "_law_mixed" = some (.ref a_mixed)
  a_bag : Addr
  d_bag : FuncData
  F_bag : Fun K "_law_bag" "_law_bag" s_bag a_bag d_bag
  b_bag : Binds K d_bag ["_law_script"] []
  g_bag : mg "_law_bag" = some (.ref a_bag)
  a_pick : Addr
  d_pick : FuncData
  F_pick : Fun K "_law_pick" "_law_pick" s_pick a_pick d_pick
  b_pick : Binds K d_pick ["_law_bag_here", "_law_many"] []
  g_pick : mg "_law_pick" = some (.ref a_pick)
  a_mingled : Addr
  d_mingled : FuncData
  F_mingled : Fun K "_law_mingled" "_law_mingled" s_mingled a_mingled d_mingled
  b_mingled : Binds K d_mingled ["_law_bag_here", "_law_things"] []
  g_mingled : mg "_law_mingled" = some (.ref a_mingled)
  a_new_name : Addr
  d_new_name : FuncData
  F_new_name : Fun K "_law_new_name" "_law_new_name" s_new_name a_new_name d_new_name
  b_new_name : Binds K d_new_name ["_law_bag_here", "_law_used"] []
  g_new_name : mg "_law_new_name" = some (.ref a_new_name)
  a_words : Addr
  d_words : FuncData
  F_words : Fun K "_law_words" "_law_words" s_words a_words d_words
  b_words : Binds K d_words [] []
  g_words : mg "_law_words" = some (.ref a_words)
  a_lets : Addr
  d_lets : FuncData
  F_lets : Fun K "_law_lets" "_law_lets" s_lets a_lets d_lets
  b_lets : Binds K d_lets ["_law_word", "_law_own", "_law_same", "_law_last"] []
  g_lets : mg "_law_lets" = some (.ref a_lets)
  a_cases : Addr
  d_cases : FuncData
  F_cases : Fun K "_law_cases" "_law_cases" s_cases a_cases d_cases
  b_cases : Binds K d_cases [] []
  g_cases : mg "_law_cases" = some (.ref a_cases)
  a_at_most : Addr
  d_at_most : FuncData
  F_at_most : Fun K "_law_at_most" "_law_at_most" s_at_most a_at_most d_at_most
  b_at_most : Binds K d_at_most ["_law_first", "_law_second"] []
  g_at_most : mg "_law_at_most" = some (.ref a_at_most)
  a_truth : Addr
  d_truth : FuncData
  F_truth : Fun K "_law_truth" "_law_truth" s_truth a_truth d_truth
  b_truth : Binds K d_truth ["_law_told", "_law_due"] []
  g_truth : mg "_law_truth" = some (.ref a_truth)
  a_any_number : Addr
  d_any_number : FuncData
  F_any_number : Fun K "_law_any_number" "_law_any_number" s_any_number a_any_number d_any_number
  b_any_number : Binds K d_any_number ["_law_bag_here"] []
  g_any_number : mg "_law_any_number" = some (.ref a_any_number)
  a_other : Addr
  d_other : FuncData
  F_other : Fun K "_law_other" "_law_other" s_other a_other d_other
  b_other : Binds K d_other ["_law_bag_here", "_law_number"] []
  g_other : mg "_law_other" = some (.ref a_other)
  a_entry : Addr
  d_entry : FuncData
  F_entry : Fun K "_law_entry" "_law_entry" s_entry a_entry d_entry
  b_entry : Binds K d_entry ["_law_bag_here", "_law_row"] []
  g_entry : mg "_law_entry" = some (.ref a_entry)
  a_fields : Addr
  d_fields : FuncData
  F_fields : Fun K "_law_fields" "_law_fields" s_fields a_fields d_fields
  b_fields : Binds K d_fields ["_law_entry_here"] []
  g_fields : mg "_law_fields" = some (.ref a_fields)
  a_asked : Addr
  d_asked : FuncData
  F_asked : Fun K "_law_asked" "_law_asked" s_asked a_asked d_asked
  b_asked : Binds K d_asked ["_law_bag_here", "_law_fences", "_law_entry_here", "_law_row"] []
  g_asked : mg "_law_asked" = some (.ref a_asked)
  a_classes : Addr
  d_classes : FuncData
  F_classes : Fun K "_law_classes" "_law_classes" s_classes a_classes d_classes
  b_classes : Binds K d_classes ["_law_fences"] []
  g_classes : mg "_law_classes" = some (.ref a_classes)
  a_none : Addr
  d_none : FuncData
  F_none : Fun K "_law_none" "_law_none" s_none a_none d_none
  b_none : Binds K d_none ["_law_bag_here"] []
  g_none : mg "_law_none" = some (.ref a_none)
  a_refused : Addr
  d_refused : FuncData
  F_refused : Fun K "_law_refused" "_law_refused" s_refused a_refused d_refused
  b_refused : Binds K d_refused ["_law_word"] []
  g_refused : mg "_law_refused" = some (.ref a_refused)
  a_law : Addr
  d_law : FuncData
  F_law : Fun K "law" "law" s_law a_law d_law
  b_law : Binds K d_law ["_law_script"] []
  g_law : mg "law" = some (.ref a_law)
  C_Entry : Addr
  g_Entry : mg "Entry" = some (.ref C_Entry)
  cl_Entry : Cls K C_Entry
  na_Entry_owner : NoAttr K C_Entry "owner"
  na_Entry_word : NoAttr K C_Entry "word"
  na_Entry_who : NoAttr K C_Entry "who"
  na_Entry_ticket : NoAttr K C_Entry "ticket"
  na_Entry_question : NoAttr K C_Entry "question"
  na_Entry_answer : NoAttr K C_Entry "answer"
  mk_Entry : Mk K C_Entry a_Entry_init
  C_Line : Addr
  g_Line : mg "Line" = some (.ref C_Line)
  cl_Line : Cls K C_Line
  na_Line_far : NoAttr K C_Line "far"
  na_Line_room : NoAttr K C_Line "room"
  na_Line_waiting : NoAttr K C_Line "waiting"
  na_Line_tickets : NoAttr K C_Line "tickets"
  na_Line_present : NoAttr K C_Line "present"
  mk_Line : Mk K C_Line a_Line_init
  me_Line_send : Meth K C_Line "send" a_Line_send
  C_Fence : Addr
  g_Fence : mg "Fence" = some (.ref C_Fence)
  cl_Fence : Cls K C_Fence
  me_Fence_lets : Meth K C_Fence "lets" a_Fence_lets
  sp_Fence_le : PySem.W.findIn K (.ref C_Fence) "__le__" = some (some (.ref a_Fence_le)) ∧ PySem.W.isFn K (.ref a_Fence_le) = true
  ty_Fence : PySem.W.findIn K (.ref C_Fence) "__class__" = some (some (.builtin "object.__class__")) ∧ PySem.W.specialIn K (.builtin "object.__class__") "__get__" = some (some (.builtin "getset_descriptor.__get__")) ∧ PySem.W.takesIn K (.builtin "object.__class__") = some true ∧ PySem.W.mroIn K C_Fence (.type "object") = some true ∧ PySem.W.kitOne K (.ref C_Fence) (.ref C_Fence) = some true
  C_Own : Addr
  g_Own : mg "Own" = some (.ref C_Own)
  cl_Own : Cls K C_Own
  me_Own_lets : Meth K C_Own "lets" a_Own_lets
  ty_Own : PySem.W.findIn K (.ref C_Own) "__class__" = some (some (.builtin "object.__class__")) ∧ PySem.W.specialIn K (.builtin "object.__class__") "__get__" = some (some (.builtin "getset_descriptor.__get__")) ∧ PySem.W.takesIn K (.builtin "object.__class__") = some true ∧ PySem.W.mroIn K C_Own (.type "object") = some true ∧ PySem.W.kitOne K (.ref C_Own) (.ref C_Own) = some true
  C_Same : Addr
  g_Same : mg "Same" = some (.ref C_Same)
  cl_Same : Cls K C_Same
  me_Same_lets : Meth K C_Same "lets" a_Same_lets
  ty_Same : PySem.W.findIn K (.ref C_Same) "__class__" = some (some (.builtin "object.__class__")) ∧ PySem.W.specialIn K (.builtin "object.__class__") "__get__" = some (some (.builtin "getset_descriptor.__get__")) ∧ PySem.W.takesIn K (.builtin "object.__class__") = some true ∧ PySem.W.mroIn K C_Same (.type "object") = some true ∧ PySem.W.kitOne K (.ref C_Same) (.ref C_Same) = some true
  C_Both : Addr
  g_Both : mg "Both" = some (.ref C_Both)
  cl_Both : Cls K C_Both
  me_Both_lets : Meth K C_Both "lets" a_Both_lets
  ty_Both : PySem.W.findIn K (.ref C_Both) "__class__" = some (some (.builtin "object.__class__")) ∧ PySem.W.specialIn K (.builtin "object.__class__") "__get__" = some (some (.builtin "getset_descriptor.__get__")) ∧ PySem.W.takesIn K (.builtin "object.__class__") = some true ∧ PySem.W.mroIn K C_Both (.type "object") = some true ∧ PySem.W.kitOne K (.ref C_Both) (.ref C_Both) = some true
  C_Last : Addr
  g_Last : mg "Last" = some (.ref C_Last)
  cl_Last : Cls K C_Last
  me_Last_lets : Meth K C_Last "lets" a_Last_lets
  ty_Last : PySem.W.findIn K (.ref C_Last) "__class__" = some (some (.builtin "object.__class__")) ∧ PySem.W.specialIn K (.builtin "object.__class__") "__get__" = some (some (.builtin "getset_descriptor.__get__")) ∧ PySem.W.takesIn K (.builtin "object.__class__") = some true ∧ PySem.W.mroIn K C_Last (.type "object") = some true ∧ PySem.W.kitOne K (.ref C_Last) (.ref C_Last) = some true
  F_Own_lets : SupF K C_Own a_Own_lets "lets" "Own.lets" (defArgs s_Own_lets) (defBody s_Own_lets) (defScope s_Own_lets) x_file d_Own_lets
  su_Own_lets_Own : Sup K C_Own C_Own "lets" a_Fence_lets
  su_Own_lets_Both : Sup K C_Both C_Own "lets" a_Same_lets
  F_Same_lets : SupF K C_Same a_Same_lets "lets" "Same.lets" (defArgs s_Same_lets) (defBody s_Same_lets) (defScope s_Same_lets) x_file d_Same_lets
  su_Same_lets_Same : Sup K C_Same C_Same "lets" a_Fence_lets
  su_Same_lets_Both : Sup K C_Both C_Same "lets" a_Fence_lets
  F_Both_lets : SupF K C_Both a_Both_lets "lets" "Both.lets" (defArgs s_Both_lets) (defBody s_Both_lets) (defScope s_Both_lets) x_file d_Both_lets
  su_Both_lets_Both : Sup K C_Both C_Both "lets" a_Own_lets
  mk0_Fence : Mk0 K C_Fence
  mk0_Own : Mk0 K C_Own
  ih_Own_le : PySem.W.findIn K (.ref C_Own) "__le__" = some (some (.ref a_Fence_le))
  mk0_Same : Mk0 K C_Same
  ih_Same_le : PySem.W.findIn K (.ref C_Same) "__le__" = some (some (.ref a_Fence_le))
  mk0_Both : Mk0 K C_Both
  ih_Both_le : PySem.W.findIn K (.ref C_Both) "__le__" = some (some (.ref a_Fence_le))
  mk0_Last : Mk0 K C_Last
  ih_Last_le : PySem.W.findIn K (.ref C_Last) "__le__" = some (some (.ref a_Fence_le))
  le_Fence_Fence : LeOk K C_Fence C_Fence
  le_Fence_Own : LeOk K C_Fence C_Own
  le_Fence_Same : LeOk K C_Fence C_Same
  le_Fence_Both : LeOk K C_Fence C_Both
  le_Fence_Last : LeOk K C_Fence C_Last
  le_Own_Fence : LeOk K C_Own C_Fence
  le_Own_Own : LeOk K C_Own C_Own
  le_Own_Same : LeOk K C_Own C_Same
  le_Own_Both : LeOk K C_Own C_Both
  le_Own_Last : LeOk K C_Own C_Last
  le_Same_Fence : LeOk K C_Same C_Fence
  le_Same_Own : LeOk K C_Same C_Own
  le_Same_Same : LeOk K C_Same C_Same
  le_Same_Both : LeOk K C_Same C_Both
  le_Same_Last : LeOk K C_Same C_Last
  le_Both_Fence : LeOk K C_Both C_Fence
  le_Both_Own : LeOk K C_Both C_Own
  le_Both_Same : LeOk K C_Both C_Same
  le_Both_Both : LeOk K C_Both C_Both
  le_Both_Last : LeOk K C_Both C_Last
  le_Last_Fence : LeOk K C_Last C_Fence
  le_Last_Own : LeOk K C_Last C_Own
  le_Last_Same : LeOk K C_Last C_Same
  le_Last_Both : LeOk K C_Last C_Both
  le_Last_Last : LeOk K C_Last C_Last
  ki_Fence_Fence : PySem.W.kitOne K (.ref C_Fence) (.ref C_Fence) = some true
  ki_Fence_Own : PySem.W.kitOne K (.ref C_Fence) (.ref C_Own) = some false
  ki_Fence_Same : PySem.W.kitOne K (.ref C_Fence) (.ref C_Same) = some false
  ki_Fence_Both : PySem.W.kitOne K (.ref C_Fence) (.ref C_Both) = some false
  ki_Fence_Last : PySem.W.kitOne K (.ref C_Fence) (.ref C_Last) = some false
  ki_Own_Fence : PySem.W.kitOne K (.ref C_Own) (.ref C_Fence) = some true
  ki_Own_Own : PySem.W.kitOne K (.ref C_Own) (.ref C_Own) = some true
  ki_Own_Same : PySem.W.kitOne K (.ref C_Own) (.ref C_Same) = some false
  ki_Own_Both : PySem.W.kitOne K (.ref C_Own) (.ref C_Both) = some false
  ki_Own_Last : PySem.W.kitOne K (.ref C_Own) (.ref C_Last) = some false
  ki_Same_Fence : PySem.W.kitOne K (.ref C_Same) (.ref C_Fence) = some true
  ki_Same_Own : PySem.W.kitOne K (.ref C_Same) (.ref C_Own) = some false
  ki_Same_Same : PySem.W.kitOne K (.ref C_Same) (.ref C_Same) = some true
  ki_Same_Both : PySem.W.kitOne K (.ref C_Same) (.ref C_Both) = some false
  ki_Same_Last : PySem.W.kitOne K (.ref C_Same) (.ref C_Last) = some false
  ki_Both_Fence : PySem.W.kitOne K (.ref C_Both) (.ref C_Fence) = some true
  ki_Both_Own : PySem.W.kitOne K (.ref C_Both) (.ref C_Own) = some true
  ki_Both_Same : PySem.W.kitOne K (.ref C_Both) (.ref C_Same) = some true
  ki_Both_Both : PySem.W.kitOne K (.ref C_Both) (.ref C_Both) = some true
  ki_Both_Last : PySem.W.kitOne K (.ref C_Both) (.ref C_Last) = some false
  ki_Last_Fence : PySem.W.kitOne K (.ref C_Last) (.ref C_Fence) = some true
  ki_Last_Own : PySem.W.kitOne K (.ref C_Last) (.ref C_Own) = some false
  ki_Last_Same : PySem.W.kitOne K (.ref C_Last) (.ref C_Same) = some false
  ki_Last_Both : PySem.W.kitOne K (.ref C_Last) (.ref C_Both) = some false
  ki_Last_Last : PySem.W.kitOne K (.ref C_Last) (.ref C_Last) = some true
  C_ScreenError : Addr
  g_ScreenError : mg "ScreenError" = some (.ref C_ScreenError)
  C_NoAnswer : Addr
  g_NoAnswer : mg "NoAnswer" = some (.ref C_NoAnswer)
  C_BadFence : Addr
  i_BadFence : Addr
  g_BadFence : mg "BadFence" = some (.ref C_BadFence)
  x_BadFence : ∀ P : Program, PySem.XExc.PF P x_file → PySem.XExc.ExTxt P K mg "BadFence" "fence" "not a fence: " C_BadFence i_BadFence
  xc_BadFence : ExcC K C_BadFence
  xf_BadFence : XfC K C_BadFence
  ki_BadFence_NoAnswer : PySem.W.kitOne K (.ref C_BadFence) (.ref C_NoAnswer) = some false
  ky_BadFence_ScreenError : PySem.W.kitOne K (.ref C_BadFence) (.ref C_ScreenError) = some true
  kv_BadFence : PySem.W.kitOne K (.ref C_BadFence) (.type "ValueError") = some true
  em_BadFence_BadFence : PySem.W.exmOne K (.ref C_BadFence) (.ref C_BadFence) = some true
/-! ### the bag -/
structure Bag (G : Hp) (o : HO) : Prop where
  ex : ∃ (n : Addr) (ns : List Int) (i g t s : Int), o = .lst [.ref n, .int i, .int g, .int t, .int s] ∧ G n = some (.lst (ns.map V.int)) ∧ 0 ≤ i ∧ 0 ≤ g
theorem Bag.same {G G' : Hp} {o : HO} (e : Same G G') (b : Bag G o) : Bag G' o := by
  obtain ⟨n, ns, i, g, t, s, h1, h2, h3⟩ := b.ex
  exact ⟨n, ns, i, g, t, s, h1, e _ _ h2, h3⟩

section
variable {P : Program} {w : World} {K : PySem.W.Frag} {mg : Str → Option Value} {base : Heap}
def spMixed : Sp := fun vs H Q _ => ∃ n t : Int, vs = [.int n, .int t] ∧ ∀ r : Int, 0 ≤ r → r < 2147483587 → Q (.int r) H
theorem ok_mixed (T : Top K mg w) {k : Nat} : FnOk P w K mg base CX0 (k + 1) T.a_mixed T.d_mixed ["_law_number", "_law_turn"] spMixed := by
  refine T.F_mixed.ok sc_mixed (fun vs H Q E h => ?_) (fun cdv A outer s H vs Q E hr h => ?_)
  · obtain ⟨n, t, rfl, _⟩ := h
    rfl
  · obtain ⟨n, t, rfl, q⟩ := h
    refine ⟨_, (pss_cons (ps_set (i := 2) sc_mixed.nd rfl (.inl rfl) (pe_op op_modY (pe_callTy cr_int (by rfl) T.m_int (by decide +kernel) (pa_cons (pe_op op_addY (pe_op op_mulY (pe_op op_addY (xv 0) pe_int) pe_int) (pe_op op_mulY (pe_op op_addY (xv 1) pe_int) pe_int)) pa_nil)) pe_int))
      (pss_cons (ps_set (i := 3) sc_mixed.nd rfl (.inl rfl) (pe_op op_modY (pe_callTy cr_int (by rfl) T.m_int (by decide +kernel) (pa_cons (pe_op op_addY (pe_op op_addY (pe_op op_mulY (xv 2) (xv 2)) (pe_op op_mulY (xv 2) pe_int)) (pe_op op_mulY (pe_op op_addY (xv 1) pe_int) pe_int)) pa_nil)) pe_int))
      (pss_one (ps_ret (pe_op op_modY (pe_callTy cr_int (by rfl) T.m_int (by decide +kernel) (pa_cons (pe_op op_addY (pe_op op_addY (pe_op op_divY (xv 3) pe_int) (pe_op op_mulY (xv 3) pe_int)) (xv 1)) pa_nil)) pe_int))))), ?_⟩
    refine ⟨.inr ⟨by decide, by decide⟩, .inr ⟨by decide, by decide⟩, by decide, fun f _ f0 f1 => ?_⟩
    refine ⟨.inl ⟨by omega, by omega⟩, .inr ⟨by decide, by decide⟩, .inr ⟨by decide, by decide⟩, by decide, fun g _ g0 g1 => ?_⟩
    refine ⟨⟨by decide, by decide⟩, fun d _ _ => ⟨.inr ⟨by decide, by decide⟩, by decide, fun r _ r0 r1 => ?_⟩⟩
    exact q r r0 r1

def spPick : Sp := fun vs H Q _ => ∃ (G : Hp) (M : List (Addr × HO)) (b : Addr) (o : HO) (n : Int), vs = [.ref b, .int n] ∧ Sep G ((b, o) :: M) H ∧ Bag G o ∧ 0 < n ∧ n < 1073741824 ∧
  ∀ (r : Int) (o' : HO) (H' : Hp), 0 ≤ r → r < n → Bag G o' → Sep G ((b, o') :: M) H' → Q (.int r) H'
theorem ok_pick (T : Top K mg w) {k : Nat} (G_mixed : FnOk P w K mg base CX0 (k + 1) T.a_mixed T.d_mixed ["_law_number", "_law_turn"] spMixed) :
    FnOk P w K mg base CX0 (k + 2) T.a_pick T.d_pick ["_law_bag_here", "_law_many"] spPick := by
  refine T.F_pick.ok sc_pick (fun vs H Q E h => ?_) (fun cdv A outer s H vs Q E hr h => ?_)
  · obtain ⟨G, M, b, o, n, rfl, _⟩ := h
    rfl
  · obtain ⟨G, M, b, o, n, rfl, S, B, n0, n1, q⟩ := h
    obtain ⟨N, ns, i, g, t, z, rfl, hN, i0, g0⟩ := B.ex
    refine ⟨_, (pss_cons (ps_set (i := 2) sc_pick.nd rfl (.inl rfl) (pe_ix (ix_k K) (xv 0) pe_int (fun _ _ => rfl)))
      (pss_cons (ps_asg (pe_op op_addY (xv 2) pe_int) (pg_sub (xv 0) pe_int set_list))
      (xss_cut (xs_if (PW.pt (xw_and (xt_cmp (op_eqLK K hr.u190) (pe_ix (ix_k K) (xv 0) pe_int (fun _ _ => rfl)) pe_int (nomark _)) (pw_and1 (xt_cmp op_ltY (pe_ix (ix_k K) (xv 0) pe_int (fun _ _ => rfl)) (pe_callB (cr_lenK K) (by rfl) T.m_len (by decide +kernel) (pa_cons (pe_ix (ix_k K) (xv 0) pe_int (fun _ _ => rfl)) pa_nil)) (nomark _)))))
      (pss_cons (ps_set (i := 3) sc_pick.nd rfl (.inl rfl) (pe_ix (ix_k K) (pe_ix (ix_k K) (xv 0) pe_int (fun _ _ => rfl)) (pe_ix (ix_k K) (xv 0) pe_int (fun _ _ => rfl)) (fun _ _ => rfl)))
      (pss_cons (ps_asg (pe_op op_addY (pe_ix (ix_k K) (xv 0) pe_int (fun _ _ => rfl)) pe_int) (pg_sub (xv 0) pe_int set_list))
      (pss_cons (xs_if (xt_cmp op_ltY (pe_callB cr_abs (by rfl) T.m_abs (by decide +kernel) (pa_cons (xv 3) pa_nil)) (pe_op op_powY pe_int pe_int) (nomark _))
      (pss_one (ps_ret (pe_op op_modY (pe_callTy cr_int (by rfl) T.m_int (by decide +kernel) (pa_cons (pe_call G_mixed (hr.mono (by omega)) (by rfl) T.g_mixed T.F_mixed.kp T.b_mixed .nil pass0 (pa_cons (pe_op op_addY (pe_op op_mulY pe_int (pe_callB cr_abs (by rfl) T.m_abs (by decide +kernel) (pa_cons (xv 3) pa_nil))) (pe_cmpR op_ltY (xv 3) pe_int (nomark _))) (pa_cons (xv 2) pa_nil))) pa_nil)) (xv 1))))
      pss_nil)
      (pss_one (ps_asg (pe_callB cr_abs (by rfl) T.m_abs (by decide +kernel) (pa_cons (xv 3) pa_nil)) (pg_sub (xv 0) pe_int set_list))))))
      pss_nil)
      (pss_cons (xs_if (xt_cmp (op_eqLK K hr.u190) (pe_ix (ix_k K) (xv 0) pe_int (fun _ _ => rfl)) pe_int (nomark _))
      (pss_one (ps_ret (pe_op op_modY (pe_callTy cr_int (by rfl) T.m_int (by decide +kernel) (pa_cons (pe_call G_mixed (hr.mono (by omega)) (by rfl) T.g_mixed T.F_mixed.kp T.b_mixed .nil pass0 (pa_cons (pe_ix (ix_k K) (xv 0) pe_int (fun _ _ => rfl)) (pa_cons (xv 2) pa_nil))) pa_nil)) (xv 1))))
      pss_nil)
      (pss_cons (ps_set (i := 4) sc_pick.nd rfl (.inl rfl) (pe_op op_modY (pe_callTy cr_int (by rfl) T.m_int (by decide +kernel) (pa_cons (pe_ix (ix_k K) (xv 0) pe_int (fun _ _ => rfl)) pa_nil)) (xv 1)))
      (pss_cons (ps_asg (pe_op op_divY (pe_ix (ix_k K) (xv 0) pe_int (fun _ _ => rfl)) (xv 1)) (pg_sub (xv 0) pe_int set_list))
      (pss_one (ps_ret (xv 4))))))))), ?_⟩
    -- the turn
    refine ⟨_, _, .inl (SqL.of S.hd), rfl, b, _, _, 3, rfl, rfl, S.hd, rfl, ?_⟩
    have S1 := S.set (o' := .lst [.ref N, .int i, .int g, .int (t + 1), .int z])
    have fin : ∀ (j : Int) (g' : Int) (H2 : Hp), 0 ≤ j → 0 ≤ g' → Sep G ((b, .lst [.ref N, .int j, .int g', .int (t + 1), .int z]) :: M) H2 → (g' = 0 → ∀ r : Int, 0 ≤ r → r < n → Q (.int r) H2) ∧
        (∀ (r d : Int), 0 ≤ r → r < n → 0 ≤ d → Q (.int r) (upd H2 b (.lst [.ref N, .int j, .int d, .int (t + 1), .int z]))) := fun j g' H2 j0 h0 S2 =>
      ⟨fun _ r r0 r1 => q r _ _ r0 r1 ⟨N, ns, j, g', t + 1, z, rfl, hN, j0, h0⟩ S2, fun r d r0 r1 d0 => q r _ _ r0 r1 ⟨N, ns, j, d, t + 1, z, rfl, hN, j0, d0⟩ S2.set⟩
    -- the rest, from a bag on
    refine ⟨fun σ H2 => ∃ (y3 y4 : Option V) (j g' : Int), σ = [some (.ref b), some (.int n), some (.int t), y3, y4] ∧ 0 ≤ j ∧ 0 ≤ g' ∧ Sep G ((b, .lst [.ref N, .int j, .int g', .int (t + 1), .int z]) :: M) H2, ?_, fun σ H2 h => ?_⟩
    · have go : ∃ (y3 y4 : Option V) (j g' : Int), ([some (.ref b), some (.int n), some (.int t), none, none] : List (Option V)) = [some (.ref b), some (.int n), some (.int t), y3, y4] ∧ 0 ≤ j ∧ 0 ≤ g' ∧ Sep G ((b, .lst [.ref N, .int j, .int g', .int (t + 1), .int z]) :: M) _ := ⟨_, _, i, g, rfl, i0, g0, S1⟩
      refine ⟨_, _, .inl (SqL.of S1.hd), rfl, fun e => ⟨_, _, .inl (SqL.of S1.hd), rfl, _, _, .inl (SqL.of S1.hd), rfl, _, .inl (SqL.of (S1.st hN)), fun e => ?_, fun e => go⟩, fun e => ⟨ff, fun _ => go⟩⟩
      have hi : i < (ns.map V.int).length := of_decide_eq_true e
      obtain ⟨v, hv, hm⟩ := atI_in i0 hi
      obtain ⟨c, _, rfl⟩ := List.mem_map.mp hm
      refine ⟨_, _, .inl (SqL.of S1.hd), rfl, _, _, .inl (SqL.of S1.hd), rfl, _, _, .inl (SqL.of (S1.st hN)), hv, ?_⟩
      refine ⟨_, _, .inl (SqL.of S1.hd), rfl, b, _, _, 1, rfl, rfl, S1.hd, rfl, ?_⟩
      have S2 := S1.set (o' := .lst [.ref N, .int (i + 1), .int g, .int (t + 1), .int z])
      refine ⟨⟨by decide, by decide, by decide⟩, fun p _ => ⟨fun e => ?_, fun e => ?_⟩⟩
      · refine ⟨.inl ⟨by decide, by decide⟩, _, _, rfl, fun m _ _ => ⟨n0, fun r _ r0 r1 => ?_⟩⟩
        exact q r _ _ r0 r1 ⟨N, ns, i + 1, g, t + 1, z, rfl, hN, by omega, g0⟩ S2
      · refine ⟨b, _, _, 2, rfl, rfl, S2.hd, rfl, ?_⟩
        exact ⟨_, _, i + 1, c.natAbs, rfl, by omega, by omega, S2.set⟩
    · obtain ⟨y3, y4, j, g', rfl, j0, h0, S2⟩ := h
      obtain ⟨f1, f2⟩ := fin j g' H2 j0 h0 S2
      refine ⟨_, _, .inl (SqL.of S2.hd), rfl, fun e => ?_, fun e => ?_⟩
      · refine ⟨_, _, .inl (SqL.of S2.hd), rfl, _, _, rfl, fun m _ _ => ⟨n0, fun r _ r0 r1 => ?_⟩⟩
        exact f1 (of_decide_eq_true e) r r0 r1
      · refine ⟨_, _, .inl (SqL.of S2.hd), rfl, n0, fun r _ r0 r1 => ?_⟩
        refine ⟨_, _, .inl (SqL.of S2.hd), rfl, ⟨n0, n1⟩, fun d _ d0 => ⟨b, _, _, 2, rfl, rfl, S2.hd, rfl, ?_⟩⟩
        exact f2 r d r0 r1 (d0 h0)

def spBag (K : PySem.W.Frag) : Sp := fun vs H Q _ => ∃ (G : Hp) (M : List (Addr × HO)) (a : Addr) (ns : List Int), vs = [.ref a] ∧ Sep G M H ∧ SqL K G a (ns.map V.int) ∧ ns.length ≤ 63 ∧
  ∀ (b : Addr) (o : HO) (G' H' : Hp), Same G G' → Bag G' o → Sep G' ((b, o) :: M) H' → Q (.ref b) H'
theorem ok_bag (T : Top K mg w) {k : Nat} : FnOk P w K mg base CX0 (k + 1) T.a_bag T.d_bag ["_law_script"] (spBag K) := by
  refine T.F_bag.ok sc_bag (fun vs H Q E h => ?_) (fun cdv A outer s H vs Q E hr h => ?_)
  · obtain ⟨G, M, a, ns, rfl, _⟩ := h
    rfl
  · obtain ⟨G, M, a, ns, rfl, S, hA, hl, q⟩ := h
    refine ⟨_, (pss_cons (ps_setLc (i := 2) (own := [("_law_cell", 1)]) (by rfl) sc_bag.nd rfl rfl (sw_true rfl rfl rfl (by decide +kernel)) (pi_listK K (xv 0)) (blkOk_by (N := ["_law_script", "_law_cell", "_law_numbers", "_law_seed", "_law_at"]) (sc := defScope s_bag) (by decide +kernel)) (fun _ _ _ _ _ => (pg_name (i := 1) sc_bag.nd rfl (.inl rfl))) (fun _ _ _ _ _ => pts_nil) (fun _ _ _ _ _ => (pe_callTy cr_int (by rfl) T.m_int (by decide +kernel) (pa_cons (xv 1) pa_nil))))
      (pss_cons (ps_set (i := 3) sc_bag.nd rfl (.inl rfl) (pe_callB (cr_lenK K) (by rfl) T.m_len (by decide +kernel) (pa_cons (xv 2) pa_nil)))
      (pss_cons (ps_for PassesOwn.never rfl (pi_enum (by rfl) T.m_enumerate (pa_cons (pe_slice (sl_listK K) (xv 2) po_none (po_some pe_int)) pa_nil)) (pg_tupK K 2 (pgs_cons (pg_name (i := 4) sc_bag.nd rfl (.inl rfl)) (pgs_cons (pg_name (i := 1) sc_bag.nd rfl (.inl rfl)) pgs_nil)))
      (pss_one (ps_set (i := 3) sc_bag.nd rfl (.inl rfl) (pe_op op_modY (pe_callTy cr_int (by rfl) T.m_int (by decide +kernel) (pa_cons (pe_op op_addY (pe_op op_addY (pe_op op_mulY (xv 3) pe_int) (pe_op op_modY (pe_callTy cr_int (by rfl) T.m_int (by decide +kernel) (pa_cons (pe_callB cr_abs (by rfl) T.m_abs (by decide +kernel) (pa_cons (xv 1) pa_nil)) pa_nil)) pe_int)) (pe_op op_mulY (pe_op op_addY (xv 4) pe_int) (pe_cmpR op_ltY (xv 1) pe_int (nomark _)))) pa_nil)) pe_int))))
      (pss_one (ps_ret (pe_lst (pa_cons (xv 2) (pa_cons pe_int (pa_cons pe_int (pa_cons pe_int (pa_cons (xv 3) pa_nil))))))))))), ?_⟩
    refine ⟨a, rfl, ⟨_, S.l hA⟩, fun L nL => lc_pre (xs := ns.map V.int) (fun pre H' => Sep G ((L, .lst pre) :: M) H') (S.new nL) (fun pre H' p => p.l hA) (fun _ => rfl) (fun pre x post H' e p => ?_) (fun H' S1 => ?_)⟩
    · obtain ⟨c, _, rfl⟩ := List.mem_map.mp (show x ∈ ns.map V.int by rw [e]; simp)
      have hz : pre.length ≤ 63 := by
        have z := congrArg List.length e
        rw [List.length_map, List.length_append] at z
        omega
      exact ⟨_, p.hd, smallL (by omega), p.set⟩
    · -- the seed
      have S2 := S1.frz
      have hN : upd G L (.lst (ns.map V.int)) L = some (.lst (ns.map V.int)) := upd_same
      refine ⟨_, .inl (SqL.of (S2.st hN)), ?_⟩
      refine ⟨63, rfl, L, _, rfl, SqL.of (S2.st hN), fun c nc => ?_⟩
      have S3 := S2.newG (o := .lst (cutV (ns.map V.int) none (some 63))) nc
      have s3 := S2.grow (o := .lst (cutV (ns.map V.int) none (some 63))) nc
      refine ⟨c, _, rfl, SqL.of (S3.st upd_same), for_enum (xs := cutV (ns.map V.int) none (some 63)) (fun pre σ H' => ∃ (y1 y4 : Option V) (z : Int) (G' : Hp), σ = [some (.ref a), y1, some (.ref L), some (.int z), y4] ∧
        Same (upd (upd G L (.lst (ns.map V.int))) c (.lst (cutV (ns.map V.int) none (some 63)))) G' ∧ Sep G' M H') ⟨_, _, _, _, rfl, Same.refl _, S3⟩ (fun pre σ H' h => ?_) (fun pre x post σ H' W e h nW => ?_) (fun σ H' h => ?_)⟩
      · obtain ⟨_, _, _, G', _, s4, S4⟩ := h
        exact SqL.of (S4.st (s4 _ _ upd_same))
      · obtain ⟨y1, y4, z, G', rfl, s4, S4⟩ := h
        have hx : x ∈ ns.map V.int := by
          have hm : x ∈ cutV (ns.map V.int) none (some 63) := by rw [e]; simp
          exact List.mem_of_mem_drop (List.mem_of_mem_take hm)
        obtain ⟨v, _, rfl⟩ := List.mem_map.mp hx
        have S5 := S4.newG (o := .tup [.int (pre.length : Nat), .int v]) nW
        refine ⟨.inr ⟨by decide, by decide⟩, by decide, fun r _ r0 r1 => ⟨by decide, fun u _ u0 u1 => ?_⟩⟩
        exact ⟨_, _, _, _, rfl, s4.trans (S4.grow nW), S5⟩
      · obtain ⟨y1, y4, z, G', rfl, s4, S4⟩ := h
        refine ⟨sz, fun b nb => ?_⟩
        exact q b _ G' _ ((S1.frzS).trans (s3.trans s4)) ⟨L, ns, 0, 0, 0, z, rfl, s4 _ _ (s3 _ _ hN), by decide, by decide⟩ (S4.new nb)

def spMingled (K : PySem.W.Frag) : Sp := fun vs H Q _ => ∃ (G : Hp) (M : List (Addr × HO)) (b : Addr) (o : HO) (l : Addr) (xs : List V), vs = [.ref b, .ref l] ∧ Sep G ((b, o) :: M) H ∧ Bag G o ∧ SqL K G l xs ∧ xs.length < 100000 ∧
  ∀ (p : Addr) (ys : List V) (o' : HO) (G' H' : Hp), Same G G' → G' p = some (.lst ys) → ys.Perm xs → Bag G' o' → Sep G' ((b, o') :: M) H' → Q (.ref p) H'
theorem ok_mingled (T : Top K mg w) {k : Nat} (G_pick : FnOk P w K mg base CX0 k T.a_pick T.d_pick ["_law_bag_here", "_law_many"] spPick) : FnOk P w K mg base CX0 (k + 1) T.a_mingled T.d_mingled ["_law_bag_here", "_law_things"] (spMingled K) := by
  refine T.F_mingled.ok sc_mingled (fun vs H Q E h => ?_) (fun cdv A outer s H vs Q E hr h => ?_)
  · obtain ⟨G, M, b, o, l, xs, rfl, _⟩ := h
    rfl
  · obtain ⟨G, M, b, o, l, xs, rfl, S, B, hl, x1, q⟩ := h
    refine ⟨_, (pss_cons (ps_set (i := 2) sc_mingled.nd rfl (.inl rfl) (pe_callTy (call_listK K) (by rfl) T.m_list (by decide +kernel) (pa_cons (xv 1) pa_nil)))
      (pss_cons (ps_set (i := 3) sc_mingled.nd rfl (.inl rfl) (pe_lst pa_nil))
      (pss_cons (ps_for PassesOwn.never rfl (pi_range1 (by rfl) T.m_range (pa_cons (pe_callB (cr_lenK K) (by rfl) T.m_len (by decide +kernel) (pa_cons (xv 1) pa_nil)) pa_nil)) (pg_name (i := 4) sc_mingled.nd rfl (.inl rfl))
      (pss_one (ps_expr (pe_bmK K PySem.F.plainAttrs_list PySem.F.slot_list_append PySem.F.type_list_append mt_append (xv 3) (pa_cons (pe_bmK K PySem.F.plainAttrs_list PySem.F.slot_list_pop PySem.F.type_list_pop mt_popAt (xv 2) (pa_cons (pe_call G_pick (hr.mono (by omega)) (by rfl) T.g_pick T.F_pick.kp T.b_pick .nil pass0 (pa_cons (xv 0) (pa_cons (pe_callB (cr_lenK K) (by rfl) T.m_len (by decide +kernel) (pa_cons (xv 2) pa_nil)) pa_nil))) pa_nil)) pa_nil)))))
      (pss_one (ps_ret (xv 3)))))), ?_⟩
    refine ⟨l, xs, rfl, .inl (S.l hl), fun L nL => ?_⟩
    have S1 := S.new (o := .lst xs) nL
    refine ⟨sz, fun O nO => ?_⟩
    have S2 := S1.new (o := .lst []) nO
    refine ⟨_, .inl (S2.l hl), _, rfl, by omega, by omega, for_range (lo := 0) (n := (xs.length : Int).toNat) (fun i σ H' => ∃ (y4 : Option V) (o' : HO) (ls os : List V), σ = [some (.ref b), some (.ref l), some (.ref L), some (.ref O), y4] ∧
      Bag G o' ∧ Sep G ((O, .lst os) :: (L, .lst ls) :: (b, o') :: M) H' ∧ ls.length + i = xs.length ∧ os.length = i ∧ (os ++ ls).Perm xs) ?_ (fun i σ H' hi h => ?_) (fun σ H' h => ?_)⟩
    · exact ⟨_, o, xs, [], rfl, B, S2, by omega, rfl, List.Perm.refl _⟩
    · obtain ⟨y4, o', ls, os, rfl, B', S3, e1, e2, pm⟩ := h
      have S4 := (S3.sw).perm (List.Perm.cons _ (List.Perm.swap _ _ _))
      have S5 := S4.sw
      -- out.append(left.pop(pick(bag, len(left))))
      refine ⟨.inl ⟨rfl, _, SqL.of S3.hd⟩, .inl ⟨rfl, _, SqL.of S4.hd⟩, _, .inl (SqL.of S4.hd), G, _, b, o', _, rfl, S5, B', by omega, by omega, fun r o2 H2 r0 r1 B2 S6 => ?_⟩
      have S7 := S6.sw
      obtain ⟨v, hv, hm⟩ := atI_in r0 r1
      have S8 := S7.set (o' := .lst (ls.eraseIdx r.toNat))
      have S9 := (S8.perm (List.Perm.cons _ (List.Perm.swap _ _ _))).sw
      refine ⟨L, ls, r, r.toNat, v, rfl, rfl, S7.hd, by omega, by omega, seqIdx r0 r1, atN r0 hv, O, os, v, rfl, rfl, S9.hd, smallL (by omega), ?_⟩
      refine ⟨_, o2, ls.eraseIdx r.toNat, os ++ [v], rfl, B2, S9.set, ?_, ?_, ?_⟩
      · rw [List.length_eraseIdx_of_lt (by omega)]
        omega
      · rw [List.length_append, e2]
        rfl
      · refine List.Perm.trans ?_ pm
        rw [List.append_assoc, List.singleton_append]
        refine List.Perm.append_left _ ?_
        exact perm_erase (atN r0 hv)
    · obtain ⟨y4, o', ls, os, rfl, B', S3, e1, e2, pm⟩ := h
      have S4 := ((S3.frz).drop)
      exact q O os o' _ _ S3.frzS upd_same (by
        have e3 : ls = [] := List.eq_nil_of_length_eq_zero (by omega)
        rw [e3, List.append_nil] at pm
        exact pm) (B'.same S3.frzS) S4

end
end K45
set_option Elab.async false
set_option linter.all false
set_option maxRecDepth 100000
set_option maxHeartbeats 4000000
namespace K45
open PySem PySem.Spec PyProof.Rows L2 XL
section
variable {P : Program} {w : World} {K : PySem.W.Frag} {mg : Str → Option Value} {base : Heap}
/-! ### a new name -/
def spNew : Sp := fun vs H Q _ => ∃ (G : Hp) (M : List (Addr × HO)) (b : Addr) (o : HO) (l : Addr) (zs : List Str), vs = [.ref b, .ref l] ∧ Sep G ((b, o) :: (l, .lst (zs.map V.str)) :: M) H ∧ Bag G o ∧ (∀ z ∈ zs, Lt 1 8 z) ∧ zs.length ≤ 100 ∧
  ∀ (z : Str) (o' : HO) (H' : Hp), Lt 1 8 z → z ∉ zs → z ≠ "item" → z ≠ "at" → Bag G o' → Sep G ((b, o') :: (l, .lst ((zs ++ [z]).map V.str)) :: M) H' → Q (.str z) H'
theorem letter_ix {r : Int} (h0 : 0 ≤ r) (h1 : r < 26) : ∃ c, atI LS.cps.toList r = some c ∧ c ∈ LS.cps.toList := by
  obtain ⟨k, rfl⟩ := Int.eq_ofNat_of_zero_le h0
  have z := letter_at (show k < 26 by omega)
  exact ⟨_, atI_nat z, List.mem_of_getElem? z⟩
theorem LS_len : LS.length ≤ sizeLine := by decide +kernel
theorem lt_small {a b : Nat} {z : Str} (h : Lt a b z) (hb : b ≤ 100) : z.length ≤ sizeLine := Nat.le_trans h.hi (Nat.le_trans hb (by decide))
def freshOf (p : Str) (zs : List Str) (ts : List Str) : List Str := (ts.filter fun t => !decide (p ++ t ∈ zs)).map fun t => p ++ t
theorem fresh_snoc (p : Str) (us ts : List Str) (t2 : Str) : freshOf p us (ts ++ [t2]) = freshOf p us ts ++ (if !decide (p ++ t2 ∈ us) then [p ++ t2] else []) := by
  unfold freshOf
  rw [List.filter_append, List.map_append]
  congr 1
  by_cases h : p ++ t2 ∈ us <;> simp [h]
theorem ok_new_name (T : Top K mg w) {k : Nat} (G_pick : FnOk P w K mg base CX0 k T.a_pick T.d_pick ["_law_bag_here", "_law_many"] spPick) : FnOk P w K mg base CX0 (k + 1) T.a_new_name T.d_new_name ["_law_bag_here", "_law_used"] spNew := by
  refine T.F_new_name.ok sc_new_name (fun vs H Q E h => ?_) (fun cdv A outer s H vs Q E hr h => ?_)
  · obtain ⟨G, M, b, o, l, zs, rfl, _⟩ := h
    rfl
  · obtain ⟨G, M, b, o, l, zs, rfl, S, B, hz, zl, q⟩ := h
    refine ⟨_, (pss_cons (ps_set (i := 2) sc_new_name.nd rfl (.inr rfl) pe_str)
      (pss_cons (ps_set (i := 3) sc_new_name.nd rfl (.inr rfl) (pe_join pe_str (pe_lc (own := [("_law_step", 7)]) (by rfl) sc_new_name.nd (pi_range1 (by rfl) T.m_range (pa_cons (pe_op op_addY pe_int (pe_call G_pick (hr.mono (by omega)) (by rfl) T.g_pick T.F_pick.kp T.b_pick .nil pass0 (pa_cons (xv 0) (pa_cons pe_int pa_nil)))) pa_nil)) (blkOk_by (N := ["_law_bag_here", "_law_used", "_law_letters", "_law_told", "_law_near", "_law_at", "_law_tails", "_law_step", "_law_k", "_law_tail"]) (sc := defScope s_new_name) (by decide +kernel)) (fun _ _ _ _ _ => (pg_name (i := 7) sc_new_name.nd rfl (.inl rfl))) (fun _ _ _ _ _ => pts_nil) (fun _ _ _ _ _ => (pe_ix (ix_k K) (xv 2) (pe_call G_pick (hr.mono (by omega)) (by rfl) T.g_pick T.F_pick.kp T.b_pick .nil pass0 (pa_cons (xv 0) (pa_cons pe_int pa_nil))) (fun _ _ => rfl))))))
      (xss_cut (xs_if (PW.pt (xw_and (xt_truK K (xv 1)) (pw_and1 (xt_cmp (op_eqLK K hr.u190) (pe_call G_pick (hr.mono (by omega)) (by rfl) T.g_pick T.F_pick.kp T.b_pick .nil pass0 (pa_cons (xv 0) (pa_cons pe_int pa_nil))) pe_int (nomark _)))))
      (pss_cons (ps_set (i := 4) sc_new_name.nd rfl (.inl rfl) (pe_slice sl_str (pe_ix (ix_k K) (xv 1) (pe_call G_pick (hr.mono (by omega)) (by rfl) T.g_pick T.F_pick.kp T.b_pick .nil pass0 (pa_cons (xv 0) (pa_cons (pe_callB (cr_lenK K) (by rfl) T.m_len (by decide +kernel) (pa_cons (xv 1) pa_nil)) pa_nil))) (fun _ _ => rfl)) po_none (po_some pe_int)))
      (pss_cons (ps_set (i := 5) sc_new_name.nd rfl (.inl rfl) (pe_call G_pick (hr.mono (by omega)) (by rfl) T.g_pick T.F_pick.kp T.b_pick .nil pass0 (pa_cons (xv 0) (pa_cons (pe_callB (cr_lenK K) (by rfl) T.m_len (by decide +kernel) (pa_cons (xv 4) pa_nil)) pa_nil))))
      (pss_one (ps_set (i := 3) sc_new_name.nd rfl (.inr rfl) (pe_op op_addY (pe_op op_addY (pe_slice sl_str (xv 4) po_none (po_some (xv 5))) (pe_ix (ix_k K) (xv 2) (pe_call G_pick (hr.mono (by omega)) (by rfl) T.g_pick T.F_pick.kp T.b_pick .nil pass0 (pa_cons (xv 0) (pa_cons pe_int pa_nil))) (fun _ _ => rfl))) (pe_slice sl_str (xv 4) (po_some (pe_op op_addY (xv 5) pe_int)) po_none))))))
      pss_nil)
      (xss_cut (xs_if (xt_cmp (in_seqK K) (xv 3) (pe_op op_addY (xv 1) (pe_lst (pa_cons pe_str (pa_cons pe_str pa_nil)))) (by rfl))
      (pss_cons (ps_setLc (i := 6) (own := [("_law_k", 8)]) (by rfl) sc_new_name.nd rfl rfl (sw_true rfl rfl rfl (by decide +kernel)) (pi_range1 (by rfl) T.m_range (pa_cons pe_int pa_nil)) (blkOk_by (N := ["_law_bag_here", "_law_used", "_law_letters", "_law_told", "_law_near", "_law_at", "_law_tails", "_law_step", "_law_k", "_law_tail"]) (sc := defScope s_new_name) (by decide +kernel)) (fun _ _ _ _ _ => (pg_name (i := 8) sc_new_name.nd rfl (.inl rfl))) (fun _ _ _ _ _ => pts_nil) (fun _ _ _ _ _ => (pe_op op_addY (pe_ix (ix_k K) (xv 2) (pe_op op_divY (xv 8) pe_int) (fun _ _ => rfl)) (pe_ix (ix_k K) (xv 2) (pe_op op_modY (pe_callTy cr_int (by rfl) T.m_int (by decide +kernel) (pa_cons (xv 8) pa_nil)) pe_int) (fun _ _ => rfl)))))
      (pss_one (ps_set (i := 3) sc_new_name.nd rfl (.inr rfl) (pe_ix (ix_k K) (pe_lc (own := [("_law_tail", 9)]) (by rfl) sc_new_name.nd (pi_listK K (xv 6)) (blkOk_by (N := ["_law_bag_here", "_law_used", "_law_letters", "_law_told", "_law_near", "_law_at", "_law_tails", "_law_step", "_law_k", "_law_tail"]) (sc := defScope s_new_name) (by decide +kernel)) (fun _ _ _ _ _ => (pg_name (i := 9) sc_new_name.nd rfl (.inl rfl))) (fun _ _ _ _ _ => (pts_one (xt_cmp (notin_seqK K) (pe_op op_addY (pe_slice sl_str (xv 3) po_none (po_some pe_int)) (xv 9)) (pe_op op_addY (xv 1) (pe_lst (pa_cons pe_str pa_nil))) (by rfl)))) (fun _ _ _ _ _ => (pe_op op_addY (pe_slice sl_str (xv 3) po_none (po_some pe_int)) (xv 9)))) pe_int (fun _ _ => rfl)))))
      pss_nil)
      (pss_cons (ps_expr (pe_bmK K PySem.F.plainAttrs_list PySem.F.slot_list_append PySem.F.type_list_append mt_append (xv 1) (pa_cons (xv 3) pa_nil)))
      (pss_one (ps_ret (xv 3)))))))), ?_⟩
    -- letters in a row
    refine ⟨⟨_, rfl⟩, G, _, b, o, 6, rfl, S, B, by decide, by decide, fun r1 o1 H1 r10 r11 B1 S1 => ⟨_, rfl, by omega, by omega, fun D nD => lc_range (lo := 0) (n := (1 + r1).toNat) (fun i H' => ∃ (o' : HO) (ys : List Str), Bag G o' ∧ Sep G ((D, .lst (ys.map V.str)) :: (b, o') :: (l, .lst (zs.map V.str)) :: M) H' ∧ ys.length = i ∧ ∀ y ∈ ys, Lt 1 1 y)
      ⟨o1, [], B1, S1.new nD, rfl, fun y hy => absurd hy (by simp)⟩ (fun i H' hi p => ?_) (fun H' p => ?_)⟩⟩
    · obtain ⟨o', ys, B', S', yl, hy⟩ := p
      refine ⟨rfl, G, _, b, o', 26, rfl, S'.sw, B', by decide, by decide, fun r2 o2 H2 r20 r21 B2 S2 => ?_⟩
      obtain ⟨c, hc, hm⟩ := letter_ix r20 r21
      refine ⟨c, LS_len, hc, ys.map V.str, S2.sw.hd, by rw [List.length_map]; exact smallL (by omega), o2, ys ++ [⟨#[c]⟩], B2, ?_, by rw [List.length_append, yl]; rfl, fun y hy' => ?_⟩
      · rw [List.map_append]
        exact S2.sw.set
      · rcases List.mem_append.mp hy' with z | z
        · exact hy y z
        · rw [List.mem_singleton.mp z]
          exact Lt.one hm
    obtain ⟨o2, ys, B2, S2, yl, hy⟩ := p
    refine ⟨_, D, ys, rfl, rfl, .inl (SqL.of S2.hd), ?_, ?_⟩
    · rw [sum_ones hy, show Str.length ("" : Str) = 0 from rfl, Nat.mul_zero]
      omega
    have S3 := S2.drop
    have lt1 : Lt 1 6 (Txt.join "" ys) := (Lt.join hy).wide (by omega) (by omega)
    generalize Txt.join "" ys = t1 at *
    -- near another one
    refine ⟨fun σ H' => ∃ (y4 y5 : Option V) (o' : HO) (t : Str), σ = [some (.ref b), some (.ref l), some (.str LS), some (.str t), y4, y5, none, none, none, none] ∧ Lt 1 6 t ∧ Bag G o' ∧ Sep G ((b, o') :: (l, .lst (zs.map V.str)) :: M) H', ?_, fun σ H4 h => ?_⟩
    · have stay : ∀ (o' : HO) (H' : Hp), Bag G o' → Sep G ((b, o') :: (l, .lst (zs.map V.str)) :: M) H' → ∃ (y4 y5 : Option V) (o' : HO) (t : Str), ([some (.ref b), some (.ref l), some (.str LS), some (.str t1), none, none, none, none, none, none] : List (Option V)) = [some (.ref b), some (.ref l), some (.str LS), some (.str t), y4, y5, none, none, none, none] ∧ Lt 1 6 t ∧ Bag G o' ∧ Sep G ((b, o') :: (l, .lst (zs.map V.str)) :: M) H' :=
        fun o' H' B' S' => ⟨_, _, o', t1, rfl, lt1, B', S'⟩
      refine ⟨_, .inl ⟨_, SqL.of S3.sw.hd, rfl⟩, fun ne => ⟨G, _, b, o2, 3, rfl, S3, B2, by decide, by decide, fun r4 o4 H4 _ _ B4 S4 => ⟨fun _ => ?_, fun _ => stay o4 H4 B4 S4⟩⟩, fun _ => ⟨ff, fun _ => stay o2 _ B2 S3⟩⟩
      have z0 : 0 < zs.length := by
        cases zs with
        | nil => cases ne
        | cons _ _ => simp
      refine ⟨_, .inl (SqL.of S4.sw.hd), G, _, b, o4, _, rfl, S4, B4, by rw [List.length_map]; omega, by rw [List.length_map]; omega, fun r5 o5 H5 r50 r51 B5 S5 => ?_⟩
      obtain ⟨v5, hv5, hm5⟩ := atI_in r50 r51
      obtain ⟨z5, hz5, rfl⟩ := List.mem_map.mp hm5
      have l5 := hz z5 hz5
      refine ⟨_, _, .inl (SqL.of S5.sw.hd), hv5, _, rfl, z5, rfl, lt_small l5 (by decide), ?_⟩
      have ln : Lt 1 6 (cutS z5 none (some (6 : Int))) := (l5.to 6).wide (by decide) (by decide)
      generalize cutS z5 none (some (6 : Int)) = nr at *
      have nlo := ln.lo
      have nhi := ln.hi
      refine ⟨lt_small ln (by decide), G, _, b, o5, _, rfl, S5, B5, by omega, by omega, fun r6 o6 H6 r60 r61 B6 S6 => ?_⟩
      obtain ⟨k6, rfl⟩ := Int.eq_ofNat_of_zero_le r60
      refine ⟨_, rfl, nr, rfl, lt_small ln (by decide), G, _, b, o6, 26, rfl, S6, B6, by decide, by decide, fun r7 o7 H7 r70 r71 B7 S7 => ?_⟩
      obtain ⟨c, hc, hm⟩ := letter_ix r70 r71
      have a1 : (cutS nr none (some (k6 : Int))).length = k6 := by rw [cut_to_len]; omega
      have a2 : (cutS nr (some ((k6 + 1 : Nat) : Int)) none).length = nr.length - (k6 + 1) := cut_from_len nr (k6 + 1) (by omega)
      refine ⟨c, LS_len, hc, ?_, fun t2 et2 => ⟨_, rfl, nr, rfl, lt_small ln (by decide), ?_, fun t3 et3 => ⟨_, _, o7, t3, rfl, ?_, B7, S7⟩⟩⟩
      · rw [a1]
        exact small (by show k6 + 1 ≤ 100000; omega)
      · rw [et2, app_len, a1]
        show k6 + 1 + (cutS nr (some ((k6 + 1 : Nat) : Int)) none).length ≤ sizeLine
        rw [a2]
        exact small (by omega)
      · rw [et3, et2]
        have p1 : Lt k6 k6 (cutS nr none (some (k6 : Int))) := ⟨by omega, by omega, fun d hd => ln.ch d (cut_mem hd)⟩
        have p2 : Lt (nr.length - (k6 + 1)) (nr.length - (k6 + 1)) (cutS nr (some ((k6 + 1 : Nat) : Int)) none) := ⟨by omega, by omega, fun d hd => ln.ch d (cut_mem hd)⟩
        exact ((p1.app (Lt.one hm)).app p2).wide (by omega) (by omega)
    obtain ⟨y4, y5, o4, t, rfl, lt, B4, S4⟩ := h
    -- one that is used
    refine ⟨fun σ H' => ∃ (y6 : Option V) (z : Str), σ = [some (.ref b), some (.ref l), some (.str LS), some (.str z), y4, y5, y6, none, none, none] ∧ Lt 1 8 z ∧ z ∉ zs ∧ z ≠ "item" ∧ z ≠ "at" ∧ Sep G ((b, o4) :: (l, .lst (zs.map V.str)) :: M) H', ?_, fun σ H5 h => ?_⟩
    · refine ⟨sz, fun A1 nA1 => ?_⟩
      have S5 := S4.new (o := .lst [.str "item", .str "at"]) nA1
      refine ⟨l, A1, zs.map V.str, [.str "item", .str "at"], rfl, rfl, S5.at (show (l, HO.lst (zs.map V.str)) ∈ _ by simp), S5.hd, small (by rw [List.length_map]; simp; omega), fun A2 nA2 => ?_⟩
      have e6 : zs.map V.str ++ [V.str "item", .str "at"] = (zs ++ (["item", "at"] : List Str)).map V.str := by rw [List.map_append]; rfl
      rw [e6]
      have S6 := S5.new (o := .lst ((zs ++ (["item", "at"] : List Str)).map V.str)) nA2
      have S7 := S6.drop.drop
      refine ⟨A2, _, rfl, .inl (SqL.of S6.hd), rfl, strs_flat _, fun e1 => ?_, fun e1 => ?_⟩
      · -- its tails
        refine ⟨676, rfl, by decide, by decide, fun D nD => lc_range (lo := 0) (n := (676 : Int).toNat) (fun i H' => Sep G ((D, .lst (((List.range i).map tail2).map V.str)) :: (b, o4) :: (l, .lst (zs.map V.str)) :: M) H') (S7.new nD) (fun i H' hi p => ?_) (fun H8 S8 => ?_)⟩
        · have hi : i < 676 := hi
          rw [Int.zero_add]
          refine ⟨rfl, ⟨by decide, by decide⟩, fun d ed _ => ⟨letter (i / 26), LS_len, ?_, by decide, fun r er r0 r1 => ⟨letter (i % 26), LS_len, ?_, small (by show 1 + 1 ≤ 100000; decide), fun t2 et2 => ⟨_, p.hd, ?_, ?_⟩⟩⟩⟩
          · have z : d = ((i / 26 : Nat) : Int) := by omega
            rw [z]
            exact atI_nat (letter_at (by omega))
          · have z : r = ((i % 26 : Nat) : Int) := by omega
            rw [z]
            exact atI_nat (letter_at (by omega))
          · rw [List.length_map, List.length_map, List.length_range]
            exact smallL (by omega)
          · rw [List.range_succ, List.map_append, List.map_append, et2]
            exact p.set
        have S8 : Sep G ((D, .lst (((List.range 676).map tail2).map V.str)) :: (b, o4) :: (l, .lst (zs.map V.str)) :: M) H8 := S8
        have ltp : Lt 1 6 (cutS t none (some (6 : Int))) := (lt.to 6).wide (by decide) (by decide)
        generalize ep : cutS t none (some (6 : Int)) = p at *
        have tl : ∀ t2 ∈ (List.range 676).map tail2, Lt 2 2 t2 := fun t2 h => by
          obtain ⟨k2, hk2, rfl⟩ := List.mem_map.mp h
          exact tail2_lt (List.mem_range.mp hk2)
        obtain ⟨ts, ets⟩ : ∃ ts, ts = (List.range 676).map tail2 := ⟨_, rfl⟩
        rw [← ets] at tl S8
        have tsl : ts.length = 676 := by rw [ets]; simp
        refine ⟨D, rfl, ⟨_, SqL.of S8.hd⟩, fun F nF => lc_list (xs := ts.map V.str) (fun i H' => Sep G ((F, .lst ((freshOf p (zs ++ (["item"] : List Str)) (ts.take i)).map V.str)) :: (D, .lst (ts.map V.str)) :: (b, o4) :: (l, .lst (zs.map V.str)) :: M) H')
          (S8.new nF) (fun i H' _ p' => SqL.of p'.sw.hd) (fun i x H' hx p' => ?_) (fun H9 S9 => ?_)⟩
        · rw [List.getElem?_map] at hx
          obtain ⟨t2, ht2, rfl⟩ := Option.map_eq_some_iff.mp hx
          have lt2 := tl t2 (List.mem_of_getElem? ht2)
          have il := (List.getElem?_eq_some_iff.mp ht2).1
          have ltb := ltp.app lt2
          have hb := ltb.hi
          rw [app_len] at hb
          have flen : (freshOf p (zs ++ (["item"] : List Str)) (ts.take i)).length ≤ 676 := by
            unfold freshOf
            rw [List.length_map]
            refine Nat.le_trans (List.length_filter_le _ _) ?_
            rw [List.length_take]
            omega
          have fstep : freshOf p (zs ++ (["item"] : List Str)) (ts.take (i + 1)) = freshOf p (zs ++ (["item"] : List Str)) (ts.take i) ++ (if !decide (p ++ t2 ∈ zs ++ (["item"] : List Str)) then [p ++ t2] else []) := by
            rw [XL.take_snoc ht2]
            exact fresh_snoc _ _ _ _
          rw [fstep]
          refine ⟨rfl, _, rfl, t, rfl, lt_small lt (by decide), ?_⟩
          rw [ep]
          refine ⟨small (by omega), fun u1 eu1 => ⟨sz, fun A3 nA3 => ?_⟩⟩
          have Sa := p'.new (o := .lst [.str "item"]) nA3
          refine ⟨l, A3, zs.map V.str, [.str "item"], rfl, rfl, Sa.at (show (l, HO.lst (zs.map V.str)) ∈ _ by simp), Sa.hd, small (by rw [List.length_map]; simp; omega), fun A4 nA4 => ?_⟩
          have e7 : zs.map V.str ++ [V.str "item"] = (zs ++ (["item"] : List Str)).map V.str := by rw [List.map_append]; rfl
          rw [e7]
          have Sb := Sa.new (o := .lst ((zs ++ (["item"] : List Str)).map V.str)) nA4
          refine ⟨A4, _, rfl, .inl (SqL.of Sb.hd), rfl, strs_flat _, ?_⟩
          have e8 : (if true = true then !inV (V.str u1) ((zs ++ (["item"] : List Str)).map V.str) else inV (V.str u1) ((zs ++ (["item"] : List Str)).map V.str)) = !decide (p ++ t2 ∈ zs ++ (["item"] : List Str)) := by rw [if_pos rfl, inV_str, eu1]
          rw [e8]
          have Sc := Sb.drop.drop
          refine tst (fun e9 => ?_) (fun e9 => ?_)
          · rw [if_pos e9]
            refine ⟨_, rfl, t, rfl, lt_small lt (by decide), ?_⟩
            rw [ep]
            refine ⟨small (by omega), fun u2 eu2 => ⟨_, Sc.hd, by rw [List.length_map]; exact smallL (by omega), ?_⟩⟩
            rw [List.map_append, eu2]
            exact Sc.set
          · rw [if_neg (by rw [e9]; exact Bool.false_ne_true), List.append_nil]
            exact Sc
        rw [List.length_map, List.take_length] at S9
        obtain ⟨k0, hk0, no⟩ := unused p (zs ++ (["item"] : List Str)) (by rw [List.length_append]; simp; omega)
        have mem : p ++ tail2 k0 ∈ freshOf p (zs ++ (["item"] : List Str)) ts := by
          unfold freshOf
          refine List.mem_map.mpr ⟨tail2 k0, List.mem_filter.mpr ⟨?_, by simpa using no⟩, rfl⟩
          rw [ets]
          exact List.mem_map.mpr ⟨k0, List.mem_range.mpr hk0, rfl⟩
        cases ef : freshOf p (zs ++ (["item"] : List Str)) ts with
        | nil => rw [ef] at mem; cases mem
        | cons z0 zr =>
          rw [ef] at S9
          have hz0 : z0 ∈ freshOf p (zs ++ (["item"] : List Str)) ts := by rw [ef]; exact List.mem_cons_self
          unfold freshOf at hz0
          obtain ⟨t2, ht2, rfl⟩ := List.mem_map.mp hz0
          obtain ⟨h1, h2⟩ := List.mem_filter.mp ht2
          have no2 : p ++ t2 ∉ zs ++ (["item"] : List Str) := by simpa using h2
          have l2 := ltp.app (tl t2 h1)
          refine ⟨_, .str (p ++ t2), .inl (SqL.of S9.hd), (show atI _ ((0 : Nat) : Int) = some _ from atI_nat rfl), _, p ++ t2, rfl, l2.wide (by decide) (by decide), fun h => no2 (List.mem_append_left _ h), fun h => no2 (List.mem_append_right _ (by rw [h]; simp)), fun h => ?_, S9.drop.drop⟩
          have l3 := l2.lo
          rw [h] at l3
          exact absurd l3 (by decide +kernel)
      · have e2 : inV (.str t) ((zs ++ (["item", "at"] : List Str)).map V.str) = false := e1
        rw [inV_str] at e2
        have no := of_decide_eq_false e2
        exact ⟨_, t, rfl, lt.wide (by decide) (by decide), fun h => no (List.mem_append_left _ h), fun h => no (List.mem_append_right _ (by rw [h]; simp)), fun h => no (List.mem_append_right _ (by rw [h]; simp)), S7⟩
    obtain ⟨y6, z, rfl, ltz, f1, f2, f3, S5⟩ := h
    refine ⟨.inl ⟨rfl, _, SqL.of S5.sw.hd⟩, l, _, _, rfl, rfl, S5.sw.hd, smallL (by rw [List.length_map]; omega), ?_⟩
    refine q z o4 _ ltz f1 f2 f3 B4 ?_
    rw [List.map_append]
    exact (S5.sw.set).sw

end
end K45
set_option Elab.async false
set_option linter.all false
set_option maxRecDepth 100000
set_option maxHeartbeats 4000000
namespace K45
open PySem PySem.Spec PyProof.Rows L2 XL
/-! ### data of a bounded size -/
theorem showAll : ∀ {xs : List PyData}, (∀ x ∈ xs, x.showable = true) → PyData.showableAll xs = true
  | [], _ => by simp only [PyData.showableAll]
  | x :: xs, h => by
    simp only [PyData.showableAll, h x (by simp), showAll (xs := xs) fun y hy => h y (List.mem_cons_of_mem _ hy), Bool.and_self]
theorem layAll : ∀ {xs : List PyData}, (∀ x ∈ xs, x.canLay0 = true) → PyData.canLayAll0 xs = true
  | [], _ => by simp only [PyData.canLayAll0]
  | x :: xs, h => by
    simp only [PyData.canLayAll0, h x (by simp), layAll (xs := xs) fun y hy => h y (List.mem_cons_of_mem _ hy), Bool.and_self]
theorem depthAll_le {n : Nat} : ∀ {xs : List PyData}, (∀ x ∈ xs, x.depth ≤ n) → PyData.depthAll xs ≤ n
  | [], _ => by simp only [PyData.depthAll]; omega
  | x :: xs, h => by
    have h1 := h x (by simp)
    have h2 := depthAll_le (xs := xs) fun y hy => h y (List.mem_cons_of_mem _ hy)
    simp only [PyData.depthAll]
    omega
theorem shortAll {n : Nat} : ∀ {xs : List PyData}, (∀ x ∈ xs, x.leavesShort n = true) → PyData.leavesShortAll n xs = true
  | [], _ => by simp only [PyData.leavesShortAll]
  | x :: xs, h => by
    simp only [PyData.leavesShortAll, h x (by simp), shortAll (xs := xs) fun y hy => h y (List.mem_cons_of_mem _ hy), Bool.and_self]
theorem weightAll_le {n : Nat} : ∀ {xs : List PyData}, (∀ x ∈ xs, x.weight ≤ n) → PyData.weightAll xs ≤ xs.length * (n + 1)
  | [], _ => by simp only [PyData.weightAll]; omega
  | x :: xs, h => by
    have h1 := h x (by simp)
    have h2 := weightAll_le (xs := xs) fun y hy => h y (List.mem_cons_of_mem _ hy)
    simp only [PyData.weightAll, List.length_cons, Nat.add_mul]
    omega
structure Fit (w dp : Nat) (d : PyData) : Prop where
  cl : d.canLay0 = true
  sh : d.showable = true
  ls : d.leavesShort 8 = true
  dp : d.depth ≤ dp
  wt : d.weight ≤ w
theorem Fit.mono {w dp w' dp' : Nat} {d : PyData} (h : Fit w dp d) (h1 : w ≤ w') (h2 : dp ≤ dp') : Fit w' dp' d := ⟨h.cl, h.sh, h.ls, Nat.le_trans h.dp h2, Nat.le_trans h.wt h1⟩
theorem Fit.shaped {w dp : Nat} {d : PyData} (h : Fit w dp d) (h2 : dp ≤ 64) : SeqAt.shaped d = true := by
  unfold SeqAt.shaped
  rw [h.cl, decide_eq_true (Nat.le_trans h.dp h2)]
  rfl
theorem Fit.self {w dp : Nat} {d : PyData} (h : Fit w dp d) : PyData.eqv d d = true := SeqAt.eqv_refl d h.cl
structure Shw (d : PyData) : Prop where
  sh : d.showable = true
  nd : d.hasDict = false
  dp : d.depth ≤ 64
  ln : d.shown.length ≤ sizeLine
theorem Fit.shw {w dp : Nat} {d : PyData} (h : Fit w dp d) (h1 : w ≤ 1048576) (h2 : dp ≤ 64) : Shw d :=
  ⟨h.sh, PyData.hasDict_of_canLay d h.cl, Nat.le_trans h.dp h2, PyData.shown_fits (B := 8) (by decide) (by decide) h.ls (Nat.le_trans h.wt (Nat.le_trans h1 (by decide)))⟩
theorem Fit.tup {w dp : Nat} {ds : List PyData} (hw : PyData.weightAll ds ≤ w) (h : ∀ d ∈ ds, ∃ w', Fit w' dp d) : Fit w (dp + 1) (.tuple ds) := by
  have dl := depthAll_le (n := dp) fun d hd => (h d hd).choose_spec.dp
  refine ⟨?_, ?_, ?_, ?_, ?_⟩
  · simp only [PyData.canLay0]; exact layAll fun d hd => (h d hd).choose_spec.cl
  · simp only [PyData.showable]; exact showAll fun d hd => (h d hd).choose_spec.sh
  · simp only [PyData.leavesShort]; exact shortAll fun d hd => (h d hd).choose_spec.ls
  · simp only [PyData.depth]; omega
  · simp only [PyData.weight]; exact hw
theorem Fit.lst {w dp : Nat} {ds : List PyData} (hw : PyData.weightAll ds ≤ w) (h : ∀ d ∈ ds, ∃ w', Fit w' dp d) : Fit w (dp + 1) (.list ds) := by
  have dl := depthAll_le (n := dp) fun d hd => (h d hd).choose_spec.dp
  refine ⟨?_, ?_, ?_, ?_, ?_⟩
  · simp only [PyData.canLay0]; exact layAll fun d hd => (h d hd).choose_spec.cl
  · simp only [PyData.showable]; exact showAll fun d hd => (h d hd).choose_spec.sh
  · simp only [PyData.leavesShort]; exact shortAll fun d hd => (h d hd).choose_spec.ls
  · simp only [PyData.depth]; omega
  · simp only [PyData.weight]; exact hw
theorem Fit.tups {w dp : Nat} {ds : List PyData} (h : ∀ d ∈ ds, Fit w dp d) : Fit (ds.length * (w + 1)) (dp + 1) (.tuple ds) := .tup (weightAll_le fun d hd => (h d hd).wt) fun d hd => ⟨w, h d hd⟩
theorem Fit.lsts {w dp : Nat} {ds : List PyData} (h : ∀ d ∈ ds, Fit w dp d) : Fit (ds.length * (w + 1)) (dp + 1) (.list ds) := .lst (weightAll_le fun d hd => (h d hd).wt) fun d hd => ⟨w, h d hd⟩
theorem Fit.str {z : Str} {w : Nat} (h : ∀ c ∈ z.cps.toList, c < 1114112) (l : z.length ≤ w) : Fit w 0 (.str z) := by
  refine ⟨?_, by simp only [PyData.showable], ?_, by simp only [PyData.depth]; omega, ?_⟩
  · simp only [PyData.canLay0]
    unfold PyData.strOk
    rw [← Array.all_toList, List.all_eq_true]
    exact fun c hc => decide_eq_true (h c hc)
  · simp only [PyData.leavesShort]
    rw [List.all_eq_true]
    exact fun c hc => decide_eq_true (Nat.lt_trans (h c hc) (by decide))
  · simp only [PyData.weight]
    exact l
theorem LS_low : ∀ c ∈ LS.cps.toList, c < 1114112 := by decide +kernel
theorem Fit.name {z : Str} {a b : Nat} (h : Lt a b z) : Fit b 0 (.str z) := .str (fun c hc => LS_low c (h.ch c hc)) h.hi
theorem dig_short : ∀ n : Nat, n < 10 → (PyData.shown (.int (n : Nat))).length ≤ 8 ∧ PyData.weight (.int (n : Nat)) ≤ 4 ∧ PyData.showable (.int (n : Nat)) = true := by decide +kernel
theorem Fit.digit {n : Int} (h0 : 0 ≤ n) (h1 : n ≤ 9) : Fit 4 0 (.int n) := by
  obtain ⟨k, rfl⟩ := Int.eq_ofNat_of_zero_le h0
  have z := dig_short k (by omega)
  refine ⟨by simp only [PyData.canLay0], z.2.2, ?_, by simp only [PyData.depth]; omega, z.2.1⟩
  simp only [PyData.leavesShort]
  exact decide_eq_true z.1
/-! ### data at a value -/
theorem dp_tup {K : PySem.W.Frag} {G : Hp} {v : V} {ds : List PyData} (h : Dp K G v (.tuple ds)) : ∃ a xs, v = .ref a ∧ SqT K G a xs ∧ DpAll K G xs ds := by
  cases h with
  | tup h1 h2 => exact ⟨_, _, rfl, h1, h2⟩
theorem dpa_cons {K : PySem.W.Frag} {G : Hp} {xs : List V} {d : PyData} {ds : List PyData} (h : DpAll K G xs (d :: ds)) : ∃ x r, xs = x :: r ∧ Dp K G x d ∧ DpAll K G r ds := by
  cases h with
  | cons h1 h2 => exact ⟨_, _, rfl, h1, h2⟩
theorem dpa_nil {K : PySem.W.Frag} {G : Hp} {xs : List V} (h : DpAll K G xs []) : xs = [] := by
  cases h
  rfl
theorem dp_str {K : PySem.W.Frag} {G : Hp} {v : V} {z : Str} (h : Dp K G v (.str z)) : v = .str z := by
  cases h
  rfl
theorem dpa_len {K : PySem.W.Frag} {G : Hp} : ∀ {xs : List V} {ds : List PyData}, DpAll K G xs ds → xs.length = ds.length
  | _, _, .nil => rfl
  | _, _, .cons _ h => congrArg (· + 1) (dpa_len h)
theorem dpa_get {K : PySem.W.Frag} {G : Hp} : ∀ {xs : List V} {ds : List PyData} {i : Nat} {x : V}, DpAll K G xs ds → xs[i]? = some x → ∃ d, ds[i]? = some d ∧ Dp K G x d
  | _, _, _, _, .nil, h => by simp at h
  | _, _, 0, _, .cons h1 _, h => by
    simp at h
    subst h
    exact ⟨_, rfl, h1⟩
  | _, _, i + 1, _, .cons _ h2, h => by
    rw [List.getElem?_cons_succ] at h
    obtain ⟨d, e1, e2⟩ := dpa_get h2 h
    exact ⟨d, by rw [List.getElem?_cons_succ]; exact e1, e2⟩
theorem dpa_app {K : PySem.W.Frag} {G : Hp} : ∀ {xs ys : List V} {ds es : List PyData}, DpAll K G xs ds → DpAll K G ys es → DpAll K G (xs ++ ys) (ds ++ es)
  | _, _, _, _, .nil, h => h
  | _, _, _, _, .cons h1 h2, h => .cons h1 (dpa_app h2 h)
theorem dpa_take {K : PySem.W.Frag} {G : Hp} : ∀ {xs : List V} {ds : List PyData} (n : Nat), DpAll K G xs ds → DpAll K G (xs.take n) (ds.take n)
  | _, _, 0, _ => .nil
  | _, _, _ + 1, .nil => .nil
  | _, _, n + 1, .cons h1 h2 => .cons h1 (dpa_take n h2)
theorem dpa_drop {K : PySem.W.Frag} {G : Hp} : ∀ {xs : List V} {ds : List PyData} (n : Nat), DpAll K G xs ds → DpAll K G (xs.drop n) (ds.drop n)
  | _, _, 0, h => h
  | _, _, _ + 1, .nil => .nil
  | _, _, n + 1, .cons _ h2 => dpa_drop n h2
theorem dpa_one {K : PySem.W.Frag} {G : Hp} {v : V} {d : PyData} (h : Dp K G v d) : DpAll K G [v] [d] := .cons h .nil
theorem Sep.mk {G H : Hp} {M : List (Addr × HO)} {p : Addr} {o : HO} (S : Sep G M H) (h : H p = none) : ∃ G', Same G G' ∧ Sep G' M (upd H p o) ∧ G' p = some o := ⟨_, S.grow h, S.newG h, upd_same⟩

section
variable {P : Program} {w : World} {K : PySem.W.Frag} {mg : Str → Option Value} {base : Heap}
/-! ### fields -/
theorem putF_ne {f g : Str} {v x : V} {r : List (Str × V)} (h : decide (g = f) = false := by decide +kernel) : putF f v ((g, x) :: r) = (g, x) :: putF f v r := by
  show (if g = f then _ else _) = _
  rw [if_neg (of_decide_eq_false h)]
theorem putF_eq {f : Str} {v x : V} {r : List (Str × V)} : putF f v ((f, x) :: r) = (f, v) :: r := by
  show (if f = f then _ else _) = _
  rw [if_pos rfl]
theorem putF_nil {f : Str} {v : V} : putF f v [] = [(f, v)] := rfl
theorem lk_ne {f g : Str} {x : V} {r : List (Str × V)} (h : (f == g) = false := by decide +kernel) : List.lookup f ((g, x) :: r) = List.lookup f r := by simp [List.lookup, h]
theorem lk_eq {f : Str} {x : V} {r : List (Str × V)} : List.lookup f ((f, x) :: r) = some x := by simp [List.lookup]
theorem Sep.keep {G H : Hp} {M : List (Addr × HO)} {p : Addr} {o : HO} (S : Sep G ((p, o) :: M) H) : ∃ G', Same G G' ∧ Sep G' M H ∧ G' p = some o := ⟨_, S.frzS, S.frz, upd_same⟩

/-! ### rows of the line -/
structure Rw where
  ow : V
  wd : Str
  who : Int
  tk : Int
  qu : Int
  an : Int
def Rw.tup (r : Rw) : List V := [r.ow, .str r.wd, .int r.who, .int r.tk, .int r.qu, .int r.an]
/-- the place of an owner: a tuple of tuples of numbers -/
def OwAt (G : Hp) (v : V) : Prop := ∃ (a : Addr) (us : List V), v = .ref a ∧ G a = some (.tup us) ∧ us.length ≤ 5 ∧ ∀ u ∈ us, ∃ (r : Addr) (s : List Int), u = .ref r ∧ G r = some (.tup (s.map V.int))
theorem OwAt.same {G G' : Hp} {v : V} (e : Same G G') (h : OwAt G v) : OwAt G' v := by
  obtain ⟨a, us, h1, h2, h3, h4⟩ := h
  exact ⟨a, us, h1, e _ _ h2, h3, fun u hu => let ⟨r, s, k1, k2⟩ := h4 u hu; ⟨r, s, k1, e _ _ k2⟩⟩
def RwAt (G : Hp) (v : V) (r : Rw) : Prop := ∃ a, v = .ref a ∧ G a = some (.tup r.tup) ∧ OwAt G r.ow
theorem RwAt.same {G G' : Hp} {v : V} {r : Rw} (e : Same G G') (h : RwAt G v r) : RwAt G' v r := by
  obtain ⟨a, h1, h2, h3⟩ := h
  exact ⟨a, h1, e _ _ h2, h3.same e⟩
theorem rws_same {G G' : Hp} {vs : List V} {rs : List Rw} (e : Same G G') (h : Paired (RwAt G) vs rs) : Paired (RwAt G') vs rs := prd_imp (fun _ _ k => k.same e) h
/-- what is answered in each edition -/
def StAt (G : Hp) (a : Addr) (zs : List (List Int)) : Prop := ∃ us, G a = some (.tup us) ∧ Paired (fun v (z : List Int) => ∃ r, v = .ref r ∧ G r = some (.tup (z.map V.int)) ∧ z.length = 4) us zs
theorem StAt.same {G G' : Hp} {a : Addr} {zs : List (List Int)} (e : Same G G') (h : StAt G a zs) : StAt G' a zs := by
  obtain ⟨us, h1, h2⟩ := h
  exact ⟨us, e _ _ h1, prd_imp (fun _ _ ⟨r, k1, k2, k3⟩ => ⟨r, k1, e _ _ k2, k3⟩) h2⟩
def enF (r : Rw) : List (Str × V) := [("owner", r.ow), ("word", .str r.wd), ("who", .int r.who), ("ticket", .int r.tk), ("question", .int r.qu), ("answer", .int r.an)]
theorem enF_ow {r : Rw} : (enF r).lookup ("owner" : Str) = some r.ow := by unfold enF; rw [lk_eq]
theorem enF_wd {r : Rw} : (enF r).lookup ("word" : Str) = some (.str r.wd) := by unfold enF; rw [lk_ne, lk_eq]
theorem enF_who {r : Rw} : (enF r).lookup ("who" : Str) = some (.int r.who) := by unfold enF; rw [lk_ne, lk_ne, lk_eq]
theorem enF_tk {r : Rw} : (enF r).lookup ("ticket" : Str) = some (.int r.tk) := by unfold enF; rw [lk_ne, lk_ne, lk_ne, lk_eq]
theorem enF_qu {r : Rw} : (enF r).lookup ("question" : Str) = some (.int r.qu) := by unfold enF; rw [lk_ne, lk_ne, lk_ne, lk_ne, lk_eq]
theorem enF_an {r : Rw} : (enF r).lookup ("answer" : Str) = some (.int r.an) := by unfold enF; rw [lk_ne, lk_ne, lk_ne, lk_ne, lk_ne, lk_eq]
def EnAt (G : Hp) (C : Addr) (v : V) (r : Rw) : Prop := ∃ e de, v = .ref e ∧ G e = some (.ins C de (enF r)) ∧ OwAt G r.ow
theorem EnAt.same {G G' : Hp} {C : Addr} {v : V} {r : Rw} (e : Same G G') (h : EnAt G C v r) : EnAt G' C v r := by
  obtain ⟨a, d, h1, h2, h3⟩ := h
  exact ⟨a, d, h1, e _ _ h2, h3.same e⟩
def lnF (sa : Addr) (rm : Int) (l : Addr) (tk pr : Int) : List (Str × V) := [("far", .ref sa), ("room", .int rm), ("waiting", .ref l), ("tickets", .int tk), ("present", .int pr)]
section
variable {sa l : Addr} {rm tk pr : Int}
theorem lnF_far : (lnF sa rm l tk pr).lookup ("far" : Str) = some (.ref sa) := by unfold lnF; rw [lk_eq]
theorem lnF_rm : (lnF sa rm l tk pr).lookup ("room" : Str) = some (.int rm) := by unfold lnF; rw [lk_ne, lk_eq]
theorem lnF_w : (lnF sa rm l tk pr).lookup ("waiting" : Str) = some (.ref l) := by unfold lnF; rw [lk_ne, lk_ne, lk_eq]
theorem lnF_tk : (lnF sa rm l tk pr).lookup ("tickets" : Str) = some (.int tk) := by unfold lnF; rw [lk_ne, lk_ne, lk_ne, lk_eq]
theorem lnF_pr : (lnF sa rm l tk pr).lookup ("present" : Str) = some (.int pr) := by unfold lnF; rw [lk_ne, lk_ne, lk_ne, lk_ne, lk_eq]
theorem put_tk {i : Int} : putF "tickets" (.int i) (lnF sa rm l tk pr) = lnF sa rm l i pr := by unfold lnF; rw [putF_ne, putF_ne, putF_ne, putF_eq]
theorem put_pr {i : Int} : putF "present" (.int i) (lnF sa rm l tk pr) = lnF sa rm l tk i := by unfold lnF; rw [putF_ne, putF_ne, putF_ne, putF_ne, putF_eq]
theorem put_w {p : Addr} : putF "waiting" (.ref p) (lnF sa rm l tk pr) = lnF sa rm p tk pr := by unfold lnF; rw [putF_ne, putF_ne, putF_eq]
end
/-! ### Entry -/
def spEn (C : Addr) : Sp := fun vs H Q _ => ∃ (G : Hp) (M : List (Addr × HO)) (x dx : Addr) (r : Rw), vs = .ref x :: r.tup ∧ Sep G ((x, .ins C dx []) :: M) H ∧ ∀ H', Sep G ((x, .ins C dx (enF r)) :: M) H' → Q .non H'
theorem ok_Entry_init (T : Top K mg w) {k : Nat} : FnOk P w K mg base CX0 (k + 1) T.a_Entry_init T.d_Entry_init ["self", "owner", "word", "who", "ticket", "question", "answer"] (spEn T.C_Entry) := by
  refine T.F_Entry_init.ok sc_Entry_init (fun vs H Q E h => ?_) (fun cdv A outer s H vs Q E hr h => ?_)
  · obtain ⟨G, M, x, dx, r, rfl, _⟩ := h
    rfl
  · obtain ⟨G, M, x, dx, r, rfl, S, q⟩ := h
    refine ⟨_, (pss_cons (ps_fld (xv 0) (xv 1) rfl)
      (pss_cons (ps_fld (xv 0) (xv 2) rfl)
      (pss_cons (ps_fld (xv 0) (xv 3) rfl)
      (pss_cons (ps_fld (xv 0) (xv 4) rfl)
      (pss_cons (ps_fld (xv 0) (xv 5) rfl)
      (pss_one (ps_fld (xv 0) (xv 6) rfl))))))), ?_⟩
    refine ⟨x, T.C_Entry, dx, [], rfl, S.hd, T.cl_Entry, T.na_Entry_owner, by decide, ?_⟩
    rw [putF_nil]
    have S1 := S.set (o' := .ins T.C_Entry dx [("owner", r.ow)])
    refine ⟨x, T.C_Entry, dx, _, rfl, S1.hd, T.cl_Entry, T.na_Entry_word, by simp, ?_⟩
    rw [putF_ne, putF_nil]
    have S2 := S1.set (o' := .ins T.C_Entry dx [("owner", r.ow), ("word", .str r.wd)])
    refine ⟨x, T.C_Entry, dx, _, rfl, S2.hd, T.cl_Entry, T.na_Entry_who, by simp, ?_⟩
    rw [putF_ne, putF_ne, putF_nil]
    have S3 := S2.set (o' := .ins T.C_Entry dx [("owner", r.ow), ("word", .str r.wd), ("who", .int r.who)])
    refine ⟨x, T.C_Entry, dx, _, rfl, S3.hd, T.cl_Entry, T.na_Entry_ticket, by simp, ?_⟩
    rw [putF_ne, putF_ne, putF_ne, putF_nil]
    have S4 := S3.set (o' := .ins T.C_Entry dx [("owner", r.ow), ("word", .str r.wd), ("who", .int r.who), ("ticket", .int r.tk)])
    refine ⟨x, T.C_Entry, dx, _, rfl, S4.hd, T.cl_Entry, T.na_Entry_question, by simp, ?_⟩
    rw [putF_ne, putF_ne, putF_ne, putF_ne, putF_nil]
    have S5 := S4.set (o' := .ins T.C_Entry dx [("owner", r.ow), ("word", .str r.wd), ("who", .int r.who), ("ticket", .int r.tk), ("question", .int r.qu)])
    refine ⟨x, T.C_Entry, dx, _, rfl, S5.hd, T.cl_Entry, T.na_Entry_answer, by simp, ?_⟩
    rw [putF_ne, putF_ne, putF_ne, putF_ne, putF_ne, putF_nil]
    exact q _ S5.set
/-! ### Line -/
def spLn (C : Addr) : Sp := fun vs H Q _ => ∃ (G : Hp) (M : List (Addr × HO)) (x dx sa : Addr) (rm : Int) (us : List V), vs = [.ref x, .ref sa, .int rm] ∧ Sep G ((x, .ins C dx []) :: M) H ∧ G sa = some (.tup us) ∧
  ∀ l H', Sep G ((l, .lst []) :: (x, .ins C dx (lnF sa rm l 0 0)) :: M) H' → Q .non H'
theorem ok_Line_init (T : Top K mg w) {k : Nat} : FnOk P w K mg base CX0 (k + 1) T.a_Line_init T.d_Line_init ["self", "far", "room"] (spLn T.C_Line) := by
  refine T.F_Line_init.ok sc_Line_init (fun vs H Q E h => ?_) (fun cdv A outer s H vs Q E hr h => ?_)
  · obtain ⟨G, M, x, dx, sa, rm, us, rfl, _⟩ := h
    rfl
  · obtain ⟨G, M, x, dx, sa, rm, us, rfl, S, hs, q⟩ := h
    refine ⟨_, (pss_cons (ps_fld (xv 0) (pe_callTy (call_tupleK K) (by rfl) T.m_tuple (by decide +kernel) (pa_cons (xv 1) pa_nil)) rfl)
      (pss_cons (ps_fld (xv 0) (xv 2) rfl)
      (pss_cons (ps_fld (xv 0) (pe_lst pa_nil) rfl)
      (pss_cons (ps_fld (xv 0) pe_int rfl)
      (pss_one (ps_fld (xv 0) pe_int rfl)))))), ?_⟩
    refine ⟨sa, us, rfl, .inr ⟨SqT.of (S.st hs), x, T.C_Line, dx, [], rfl, S.hd, T.cl_Line, T.na_Line_far, by decide, ?_⟩⟩
    rw [putF_nil]
    have S1 := S.set (o' := .ins T.C_Line dx [("far", .ref sa)])
    refine ⟨x, T.C_Line, dx, _, rfl, S1.hd, T.cl_Line, T.na_Line_room, by simp, ?_⟩
    rw [putF_ne, putF_nil]
    have S2 := S1.set (o' := .ins T.C_Line dx [("far", .ref sa), ("room", .int rm)])
    refine ⟨sz, fun l nl => ?_⟩
    have S3 := (S2.new (o := .lst []) nl).sw
    refine ⟨x, T.C_Line, dx, _, rfl, S3.hd, T.cl_Line, T.na_Line_waiting, by simp, ?_⟩
    rw [putF_ne, putF_ne, putF_nil]
    have S4 := S3.set (o' := .ins T.C_Line dx [("far", .ref sa), ("room", .int rm), ("waiting", .ref l)])
    refine ⟨x, T.C_Line, dx, _, rfl, S4.hd, T.cl_Line, T.na_Line_tickets, by simp, ?_⟩
    rw [putF_ne, putF_ne, putF_ne, putF_nil]
    have S5 := S4.set (o' := .ins T.C_Line dx [("far", .ref sa), ("room", .int rm), ("waiting", .ref l), ("tickets", .int 0)])
    refine ⟨x, T.C_Line, dx, _, rfl, S5.hd, T.cl_Line, T.na_Line_present, by simp, ?_⟩
    rw [putF_ne, putF_ne, putF_ne, putF_ne, putF_nil]
    exact q l _ S5.set.sw

end
end K45
set_option Elab.async false
set_option linter.all false
set_option maxRecDepth 100000
set_option maxHeartbeats 4000000
namespace K45
open PySem PySem.Spec PyProof.Rows L2 XL
section
variable {P : Program} {w : World} {K : PySem.W.Frag} {mg : Str → Option Value} {base : Heap}
/-! ### fences -/
def ltA (_ : Rw) (_ _ _ : Int) : Bool := true
def ltO (r : Rw) (wh _ _ : Int) : Bool := decide (r.who = wh)
def ltS (r : Rw) (_ qu _ : Int) : Bool := decide (r.qu = qu)
def ltB (r : Rw) (wh qu tk : Int) : Bool := ltO r wh qu tk && ltS r wh qu tk
def ltL (r : Rw) (wh qu tk : Int) : Bool := decide (r.who = wh) && decide (r.qu = qu) && decide (r.tk = tk)
def spLets (C Ce : Addr) (f : Rw → Int → Int → Int → Bool) : Sp := fun vs H Q _ => ∃ (x dx e de : Addr) (r : Rw) (wh qu tk : Int), vs = [.ref x, .ref e, .int wh, .int qu, .int tk] ∧ H x = some (.ins C dx []) ∧ H e = some (.ins Ce de (enF r)) ∧ Q (.bl (f r wh qu tk)) H
theorem ok_Fence_lets (T : Top K mg w) {k : Nat} : FnOk P w K mg base CX0 (k + 1) T.a_Fence_lets T.d_Fence_lets ["self", "entry", "who", "question", "ticket"] (fun vs H Q E => ∃ C, spLets C T.C_Entry ltA vs H Q E) := by
  refine T.F_Fence_lets.ok sc_Fence_lets (fun vs H Q E h => ?_) (fun cdv A outer s H vs Q E hr h => ?_)
  · obtain ⟨C, x, dx, e, de, r, wh, qu, tk, rfl, _⟩ := h
    rfl
  · obtain ⟨C, x, dx, e, de, r, wh, qu, tk, rfl, _, _, q⟩ := h
    refine ⟨_, (pss_one (ps_ret pe_bl)), ?_⟩
    exact q
theorem ok_Same_lets (T : Top K mg w) (pf : PySem.XExc.PF P T.x_file) {k : Nat} (G_Fence_lets : FnOk P w K mg base CX0 k T.a_Fence_lets T.d_Fence_lets ["self", "entry", "who", "question", "ticket"] (fun vs H Q E => ∃ C, spLets C T.C_Entry ltA vs H Q E)) :
    FnOk P w K mg base CX0 (k + 1) T.a_Same_lets T.d_Same_lets ["self", "entry", "who", "question", "ticket"] (spLets T.C_Same T.C_Entry ltS) := by
  refine fn_sup T.F_Same_lets sc_Same_lets (fun vs H Q E h => ?_) (fun cda cc hI A outer s H vs Q E hr h => ?_)
  · obtain ⟨x, dx, e, de, r, wh, qu, tk, rfl, _⟩ := h
    rfl
  · obtain ⟨x, dx, e, de, r, wh, qu, tk, rfl, hx, he, q⟩ := h
    refine ⟨_, (pea_and (pe_cmpR (op_eqLK K hr.u190) (pe_fldK K (xv 1)) (xv 3) (nomark _)) (pea_sup (E := E0) hI sc_Same_lets rfl rfl T.su_Same_lets_Same G_Fence_lets T.b_Fence_lets (hr.mono (by omega)) pf T.m_super rfl (pa_cons (xv 1) (pa_cons (xv 2) (pa_cons (xv 3) (pa_cons (xv 4) pa_nil)))))), ?_⟩
    refine ⟨e, T.C_Entry, de, _, _, rfl, he, T.cl_Entry, T.na_Entry_question, enF_qu, _, rfl, fun e1 => ?_, fun e1 => ?_⟩
    · refine ⟨x, dx, [], rfl, hx, T.C_Same, x, dx, e, de, r, wh, qu, tk, rfl, hx, he, ?_⟩
      rw [show ltS r wh qu tk = true from e1] at q
      exact q
    · rw [show ltS r wh qu tk = false from e1] at q
      exact q
theorem ok_Same_letsB (T : Top K mg w) (pf : PySem.XExc.PF P T.x_file) {k : Nat} (G_Fence_lets : FnOk P w K mg base CX0 k T.a_Fence_lets T.d_Fence_lets ["self", "entry", "who", "question", "ticket"] (fun vs H Q E => ∃ C, spLets C T.C_Entry ltA vs H Q E)) :
    FnOk P w K mg base CX0 (k + 1) T.a_Same_lets T.d_Same_lets ["self", "entry", "who", "question", "ticket"] (spLets T.C_Both T.C_Entry ltS) := by
  refine fn_sup T.F_Same_lets sc_Same_lets (fun vs H Q E h => ?_) (fun cda cc hI A outer s H vs Q E hr h => ?_)
  · obtain ⟨x, dx, e, de, r, wh, qu, tk, rfl, _⟩ := h
    rfl
  · obtain ⟨x, dx, e, de, r, wh, qu, tk, rfl, hx, he, q⟩ := h
    refine ⟨_, (pea_and (pe_cmpR (op_eqLK K hr.u190) (pe_fldK K (xv 1)) (xv 3) (nomark _)) (pea_sup (E := E0) hI sc_Same_lets rfl rfl T.su_Same_lets_Both G_Fence_lets T.b_Fence_lets (hr.mono (by omega)) pf T.m_super rfl (pa_cons (xv 1) (pa_cons (xv 2) (pa_cons (xv 3) (pa_cons (xv 4) pa_nil)))))), ?_⟩
    refine ⟨e, T.C_Entry, de, _, _, rfl, he, T.cl_Entry, T.na_Entry_question, enF_qu, _, rfl, fun e1 => ?_, fun e1 => ?_⟩
    · refine ⟨x, dx, [], rfl, hx, T.C_Both, x, dx, e, de, r, wh, qu, tk, rfl, hx, he, ?_⟩
      rw [show ltS r wh qu tk = true from e1] at q
      exact q
    · rw [show ltS r wh qu tk = false from e1] at q
      exact q
theorem ok_Own_lets (T : Top K mg w) (pf : PySem.XExc.PF P T.x_file) {k : Nat} (G_Fence_lets : FnOk P w K mg base CX0 k T.a_Fence_lets T.d_Fence_lets ["self", "entry", "who", "question", "ticket"] (fun vs H Q E => ∃ C, spLets C T.C_Entry ltA vs H Q E)) :
    FnOk P w K mg base CX0 (k + 1) T.a_Own_lets T.d_Own_lets ["self", "entry", "who", "question", "ticket"] (spLets T.C_Own T.C_Entry ltO) := by
  refine fn_sup T.F_Own_lets sc_Own_lets (fun vs H Q E h => ?_) (fun cda cc hI A outer s H vs Q E hr h => ?_)
  · obtain ⟨x, dx, e, de, r, wh, qu, tk, rfl, _⟩ := h
    rfl
  · obtain ⟨x, dx, e, de, r, wh, qu, tk, rfl, hx, he, q⟩ := h
    refine ⟨_, (pea_and (pe_cmpR (op_eqLK K hr.u190) (pe_fldK K (xv 1)) (xv 2) (nomark _)) (pea_sup (E := E0) hI sc_Own_lets rfl rfl T.su_Own_lets_Own G_Fence_lets T.b_Fence_lets (hr.mono (by omega)) pf T.m_super rfl (pa_cons (xv 1) (pa_cons (xv 2) (pa_cons (xv 3) (pa_cons (xv 4) pa_nil)))))), ?_⟩
    refine ⟨e, T.C_Entry, de, _, _, rfl, he, T.cl_Entry, T.na_Entry_who, enF_who, _, rfl, fun e1 => ?_, fun e1 => ?_⟩
    · refine ⟨x, dx, [], rfl, hx, T.C_Own, x, dx, e, de, r, wh, qu, tk, rfl, hx, he, ?_⟩
      rw [show ltO r wh qu tk = true from e1] at q
      exact q
    · rw [show ltO r wh qu tk = false from e1] at q
      exact q
theorem ok_Own_letsB (T : Top K mg w) (pf : PySem.XExc.PF P T.x_file) {k : Nat} (G_Same_lets : FnOk P w K mg base CX0 k T.a_Same_lets T.d_Same_lets ["self", "entry", "who", "question", "ticket"] (spLets T.C_Both T.C_Entry ltS)) :
    FnOk P w K mg base CX0 (k + 1) T.a_Own_lets T.d_Own_lets ["self", "entry", "who", "question", "ticket"] (spLets T.C_Both T.C_Entry ltB) := by
  refine fn_sup T.F_Own_lets sc_Own_lets (fun vs H Q E h => ?_) (fun cda cc hI A outer s H vs Q E hr h => ?_)
  · obtain ⟨x, dx, e, de, r, wh, qu, tk, rfl, _⟩ := h
    rfl
  · obtain ⟨x, dx, e, de, r, wh, qu, tk, rfl, hx, he, q⟩ := h
    refine ⟨_, (pea_and (pe_cmpR (op_eqLK K hr.u190) (pe_fldK K (xv 1)) (xv 2) (nomark _)) (pea_sup (E := E0) hI sc_Own_lets rfl rfl T.su_Own_lets_Both G_Same_lets T.b_Same_lets (hr.mono (by omega)) pf T.m_super rfl (pa_cons (xv 1) (pa_cons (xv 2) (pa_cons (xv 3) (pa_cons (xv 4) pa_nil)))))), ?_⟩
    refine ⟨e, T.C_Entry, de, _, _, rfl, he, T.cl_Entry, T.na_Entry_who, enF_who, _, rfl, fun e1 => ?_, fun e1 => ?_⟩
    · refine ⟨x, dx, [], rfl, hx, x, dx, e, de, r, wh, qu, tk, rfl, hx, he, ?_⟩
      rw [show ltB r wh qu tk = ltS r wh qu tk from by unfold ltB; rw [show ltO r wh qu tk = true from e1, Bool.true_and]] at q
      exact q
    · rw [show ltB r wh qu tk = false from by unfold ltB; rw [show ltO r wh qu tk = false from e1, Bool.false_and]] at q
      exact q
theorem ok_Both_lets (T : Top K mg w) (pf : PySem.XExc.PF P T.x_file) {k : Nat} (G_Own_lets : FnOk P w K mg base CX0 k T.a_Own_lets T.d_Own_lets ["self", "entry", "who", "question", "ticket"] (spLets T.C_Both T.C_Entry ltB)) :
    FnOk P w K mg base CX0 (k + 1) T.a_Both_lets T.d_Both_lets ["self", "entry", "who", "question", "ticket"] (spLets T.C_Both T.C_Entry ltB) := by
  refine fn_sup T.F_Both_lets sc_Both_lets (fun vs H Q E h => ?_) (fun cda cc hI A outer s H vs Q E hr h => ?_)
  · obtain ⟨x, dx, e, de, r, wh, qu, tk, rfl, _⟩ := h
    rfl
  · obtain ⟨x, dx, e, de, r, wh, qu, tk, rfl, hx, he, q⟩ := h
    refine ⟨_, (pea_sup (E := E0) hI sc_Both_lets rfl rfl T.su_Both_lets_Both G_Own_lets T.b_Own_lets (hr.mono (by omega)) pf T.m_super rfl (pa_cons (xv 1) (pa_cons (xv 2) (pa_cons (xv 3) (pa_cons (xv 4) pa_nil))))), ?_⟩
    exact ⟨x, dx, [], rfl, hx, x, dx, e, de, r, wh, qu, tk, rfl, hx, he, q⟩
theorem ok_Last_lets (T : Top K mg w) {k : Nat} : FnOk P w K mg base CX0 (k + 1) T.a_Last_lets T.d_Last_lets ["self", "entry", "who", "question", "ticket"] (spLets T.C_Last T.C_Entry ltL) := by
  refine T.F_Last_lets.ok sc_Last_lets (fun vs H Q E h => ?_) (fun cdv A outer s H vs Q E hr h => ?_)
  · obtain ⟨x, dx, e, de, r, wh, qu, tk, rfl, _⟩ := h
    rfl
  · obtain ⟨x, dx, e, de, r, wh, qu, tk, rfl, hx, he, q⟩ := h
    refine ⟨_, (pss_one (ps_ret (xe_and (pe_cmpR (op_eqLK K hr.u190) (pe_fldK K (xv 1)) (xv 2) (nomark _)) (xe_and (pe_cmpR (op_eqLK K hr.u190) (pe_fldK K (xv 1)) (xv 3) (nomark _)) (pe_one (pe_cmpR (op_eqLK K hr.u190) (pe_fldK K (xv 1)) (xv 4) (nomark _))))))), ?_⟩
    refine ⟨e, T.C_Entry, de, _, _, rfl, he, T.cl_Entry, T.na_Entry_who, enF_who, fun e1 => ?_, fun e1 => ?_⟩
    · refine ⟨e, T.C_Entry, de, _, _, rfl, he, T.cl_Entry, T.na_Entry_question, enF_qu, fun e2 => ?_, fun e2 => ?_⟩
      · refine ⟨e, T.C_Entry, de, _, _, rfl, he, T.cl_Entry, T.na_Entry_ticket, enF_tk, ?_⟩
        rw [show ltL r wh qu tk = decide (r.tk = tk) from by unfold ltL; rw [show decide (r.who = wh) = true from e1, show decide (r.qu = qu) = true from e2]; rfl] at q
        exact q
      · rw [show ltL r wh qu tk = false from by unfold ltL; rw [show decide (r.who = wh) = true from e1, show decide (r.qu = qu) = false from e2]; rfl] at q
        exact q
    · rw [show ltL r wh qu tk = false from by unfold ltL; rw [show decide (r.who = wh) = false from e1]; rfl] at q
      exact q

end
end K45
set_option Elab.async false
set_option linter.all false
set_option maxRecDepth 100000
set_option maxHeartbeats 4000000
namespace K45
open PySem PySem.Spec PyProof.Rows L2 XL
section
variable {P : Program} {w : World} {K : PySem.W.Frag} {mg : Str → Option Value} {base : Heap}
/-! ### one fence at most another -/
inductive Kd where
  | a
  | o
  | s
  | b
  | l
def Kd.f : Kd → Rw → Int → Int → Int → Bool
  | .a => ltA
  | .o => ltO
  | .s => ltS
  | .b => ltB
  | .l => ltL
def Kd.wd : Kd → Str
  | .a => "any"
  | .o => "own"
  | .s => "same"
  | .b => "both"
  | .l => "last"
def kc (T : Top K mg w) : Kd → Addr
  | .a => T.C_Fence
  | .o => T.C_Own
  | .s => T.C_Same
  | .b => T.C_Both
  | .l => T.C_Last
def FnAt (c : Kd → Addr) (G : Hp) (v : V) (k : Kd) : Prop := ∃ x dx, v = .ref x ∧ G x = some (.ins (c k) dx [])
theorem FnAt.same {c : Kd → Addr} {G G' : Hp} {v : V} {k : Kd} (e : Same G G') (h : FnAt c G v k) : FnAt c G' v k := let ⟨x, dx, h1, h2⟩ := h; ⟨x, dx, h1, e _ _ h2⟩
def r0 (ow : V) : Rw := ⟨ow, "ask", 0, 0, 0, 1⟩
theorem f_r0 (k : Kd) (ow : V) (a b c : Int) : k.f (r0 ow) a b c = k.f (r0 .non) a b c := by cases k <;> rfl
def leQ (k1 k2 : Kd) (wh qu tk : Int) : Bool := !(k1.f (r0 .non) wh qu tk && !k2.f (r0 .non) wh qu tk)
def le2 (k1 k2 : Kd) (wh qu : Int) : Bool := ([0, 1] : List Int).all (leQ k1 k2 wh qu)
def le1 (k1 k2 : Kd) (wh : Int) : Bool := ([0, 1] : List Int).all (le2 k1 k2 wh)
def leK (k1 k2 : Kd) : Bool := ([0, 1] : List Int).all (le1 k1 k2)
theorem all_no {α : Type} {p : α → Bool} {l : List α} {x : α} (h : x ∈ l) (e : p x = false) : l.all p = false := by
  rw [List.all_eq_false]
  exact ⟨x, h, by rw [e]; decide⟩
theorem all_take {α : Type} {p : α → Bool} {l : List α} {i : Nat} {x : α} (h : (l.take i).all p = true) (hx : l[i]? = some x) (e : p x = true) : (l.take (i + 1)).all p = true := by
  rw [List.take_add_one, hx, List.all_append, h]
  show (true && (p x && true)) = true
  rw [e]
  rfl
/-- the call of a fence, whatever its class -/
theorem lets5 (T : Top K mg w) {tv : TE} {ta : TA} {σ : L2.St} {H : Hp} {Q : VK} {x dx e de : Addr} {k : Kd} {r : Rw} {wh qu tk : Int} (htv : ∀ R : VK, R (.ref x) H → tv σ H R) (hta : ∀ R : List V → Hp → Prop, R [.ref e, .int wh, .int qu, .int tk] H → ta σ H R)
    (hx : H x = some (.ins (kc T k) dx [])) (he : H e = some (.ins T.C_Entry de (enF r))) (q : Q (.bl (k.f r wh qu tk)) H) :
    tMeth T.C_Fence "lets" (fun vs H Q E => ∃ C, spLets C T.C_Entry ltA vs H Q E) [] E0 tv ta σ H Q ∨ tMeth T.C_Own "lets" (spLets T.C_Own T.C_Entry ltO) [] E0 tv ta σ H Q ∨ tMeth T.C_Same "lets" (spLets T.C_Same T.C_Entry ltS) [] E0 tv ta σ H Q ∨
      tMeth T.C_Both "lets" (spLets T.C_Both T.C_Entry ltB) [] E0 tv ta σ H Q ∨ tMeth T.C_Last "lets" (spLets T.C_Last T.C_Entry ltL) [] E0 tv ta σ H Q := by
  cases k with
  | a => exact .inl (htv _ ⟨x, dx, [], rfl, hx, rfl, hta _ ⟨T.C_Fence, x, dx, e, de, r, wh, qu, tk, rfl, hx, he, q⟩⟩)
  | o => exact .inr (.inl (htv _ ⟨x, dx, [], rfl, hx, rfl, hta _ ⟨x, dx, e, de, r, wh, qu, tk, rfl, hx, he, q⟩⟩))
  | s => exact .inr (.inr (.inl (htv _ ⟨x, dx, [], rfl, hx, rfl, hta _ ⟨x, dx, e, de, r, wh, qu, tk, rfl, hx, he, q⟩⟩)))
  | b => exact .inr (.inr (.inr (.inl (htv _ ⟨x, dx, [], rfl, hx, rfl, hta _ ⟨x, dx, e, de, r, wh, qu, tk, rfl, hx, he, q⟩⟩))))
  | l => exact .inr (.inr (.inr (.inr (htv _ ⟨x, dx, [], rfl, hx, rfl, hta _ ⟨x, dx, e, de, r, wh, qu, tk, rfl, hx, he, q⟩⟩))))
theorem ints_get {l : List Int} {i : Nat} {x : V} (h : (l.map V.int)[i]? = some x) : ∃ n, l[i]? = some n ∧ x = .int n := by
  rw [List.getElem?_map] at h
  obtain ⟨n, h1, h2⟩ := Option.map_eq_some_iff.mp h
  exact ⟨n, h1, h2.symm⟩
def spLe (c : Kd → Addr) : Sp := fun vs H Q _ => ∃ (G : Hp) (M : List (Addr × HO)) (v1 v2 : V) (k1 k2 : Kd), vs = [v1, v2] ∧ Sep G M H ∧ FnAt c G v1 k1 ∧ FnAt c G v2 k2 ∧ ∀ G' H', Same G G' → Sep G' M H' → Q (.bl (leK k1 k2)) H'
theorem ok_Fence_le (T : Top K mg w) {k : Nat} (G_Entry_init : FnOk P w K mg base CX0 k T.a_Entry_init T.d_Entry_init ["self", "owner", "word", "who", "ticket", "question", "answer"] (spEn T.C_Entry))
    (G_Fence_lets : FnOk P w K mg base CX0 k T.a_Fence_lets T.d_Fence_lets ["self", "entry", "who", "question", "ticket"] (fun vs H Q E => ∃ C, spLets C T.C_Entry ltA vs H Q E)) (G_Own_lets : FnOk P w K mg base CX0 k T.a_Own_lets T.d_Own_lets ["self", "entry", "who", "question", "ticket"] (spLets T.C_Own T.C_Entry ltO))
    (G_Same_lets : FnOk P w K mg base CX0 k T.a_Same_lets T.d_Same_lets ["self", "entry", "who", "question", "ticket"] (spLets T.C_Same T.C_Entry ltS)) (G_Both_lets : FnOk P w K mg base CX0 k T.a_Both_lets T.d_Both_lets ["self", "entry", "who", "question", "ticket"] (spLets T.C_Both T.C_Entry ltB)) (G_Last_lets : FnOk P w K mg base CX0 k T.a_Last_lets T.d_Last_lets ["self", "entry", "who", "question", "ticket"] (spLets T.C_Last T.C_Entry ltL)) :
    FnOk P w K mg base CX0 (k + 2) T.a_Fence_le T.d_Fence_le ["self", "other"] (spLe (kc T)) := by
  refine T.F_Fence_le.ok sc_Fence_le (fun vs H Q E h => ?_) (fun cdv A outer s H vs Q E hr h => ?_)
  · obtain ⟨G, M, v1, v2, k1, k2, rfl, _⟩ := h
    rfl
  · obtain ⟨G, M, v1, v2, k1, k2, rfl, S, hf1, hf2, q⟩ := h
    refine ⟨_, (pss_cons (ps_set (i := 2) sc_Fence_le.nd rfl (.inl rfl) (pe_make T.mk_Entry G_Entry_init (hr.mono (by omega)) (by rfl) T.g_Entry T.b_Entry_init .nil pass0 (pa_cons (pe_tup pa_nil) (pa_cons pe_str (pa_cons pe_int (pa_cons pe_int (pa_cons pe_int (pa_cons pe_int pa_nil))))))))
      (pss_cons (ps_for PassesOwn.never rfl (pi_tupK K (pe_tup (pa_cons pe_int (pa_cons pe_int pa_nil)))) (pg_name (i := 3) sc_Fence_le.nd rfl (.inl rfl))
      (pss_one (ps_for PassesOwn.never rfl (pi_tupK K (pe_tup (pa_cons pe_int (pa_cons pe_int pa_nil)))) (pg_name (i := 4) sc_Fence_le.nd rfl (.inl rfl))
      (pss_one (ps_for PassesOwn.never rfl (pi_tupK K (pe_tup (pa_cons pe_int (pa_cons pe_int pa_nil)))) (pg_name (i := 5) sc_Fence_le.nd rfl (.inl rfl))
      (pss_cons (ps_set (i := 6) sc_Fence_le.nd rfl (.inl rfl) (pe_or (pe_meth (xv 0) T.cl_Fence T.me_Fence_lets G_Fence_lets (hr.mono (by omega)) T.b_Fence_lets .nil pass0 (pa_cons (xv 2) (pa_cons (xv 3) (pa_cons (xv 4) (pa_cons (xv 5) pa_nil))))) (pe_or (pe_meth (xv 0) T.cl_Own T.me_Own_lets G_Own_lets (hr.mono (by omega)) T.b_Own_lets .nil pass0 (pa_cons (xv 2) (pa_cons (xv 3) (pa_cons (xv 4) (pa_cons (xv 5) pa_nil))))) (pe_or (pe_meth (xv 0) T.cl_Same T.me_Same_lets G_Same_lets (hr.mono (by omega)) T.b_Same_lets .nil pass0 (pa_cons (xv 2) (pa_cons (xv 3) (pa_cons (xv 4) (pa_cons (xv 5) pa_nil))))) (pe_or (pe_meth (xv 0) T.cl_Both T.me_Both_lets G_Both_lets (hr.mono (by omega)) T.b_Both_lets .nil pass0 (pa_cons (xv 2) (pa_cons (xv 3) (pa_cons (xv 4) (pa_cons (xv 5) pa_nil))))) (pe_meth (xv 0) T.cl_Last T.me_Last_lets G_Last_lets (hr.mono (by omega)) T.b_Last_lets .nil pass0 (pa_cons (xv 2) (pa_cons (xv 3) (pa_cons (xv 4) (pa_cons (xv 5) pa_nil))))))))))
      (pss_one (xs_if (PW.pt (xw_and (xt_truK K (xv 6)) (pw_and1 (pt_not (xt_truK K (pe_or (pe_meth (xv 1) T.cl_Fence T.me_Fence_lets G_Fence_lets (hr.mono (by omega)) T.b_Fence_lets .nil pass0 (pa_cons (xv 2) (pa_cons (xv 3) (pa_cons (xv 4) (pa_cons (xv 5) pa_nil))))) (pe_or (pe_meth (xv 1) T.cl_Own T.me_Own_lets G_Own_lets (hr.mono (by omega)) T.b_Own_lets .nil pass0 (pa_cons (xv 2) (pa_cons (xv 3) (pa_cons (xv 4) (pa_cons (xv 5) pa_nil))))) (pe_or (pe_meth (xv 1) T.cl_Same T.me_Same_lets G_Same_lets (hr.mono (by omega)) T.b_Same_lets .nil pass0 (pa_cons (xv 2) (pa_cons (xv 3) (pa_cons (xv 4) (pa_cons (xv 5) pa_nil))))) (pe_or (pe_meth (xv 1) T.cl_Both T.me_Both_lets G_Both_lets (hr.mono (by omega)) T.b_Both_lets .nil pass0 (pa_cons (xv 2) (pa_cons (xv 3) (pa_cons (xv 4) (pa_cons (xv 5) pa_nil))))) (pe_meth (xv 1) T.cl_Last T.me_Last_lets G_Last_lets (hr.mono (by omega)) T.b_Last_lets .nil pass0 (pa_cons (xv 2) (pa_cons (xv 3) (pa_cons (xv 4) (pa_cons (xv 5) pa_nil))))))))))))))
      (pss_one (ps_ret pe_bl))
      pss_nil))))))))
      (pss_one (ps_ret pe_bl)))), ?_⟩
    refine ⟨sz, fun t nt => ?_⟩
    obtain ⟨G1, s1, S1, h1⟩ := Sep.mk (o := .tup []) S nt
    refine fun e de ne nde hne => ?_
    have S2 := S1.new2 (o := .ins T.C_Entry de []) (u := .own e) ne nde hne
    refine ⟨G1, _, e, de, r0 (.ref t), rfl, S2, fun H3 S3 => ⟨rfl, ?_⟩⟩
    obtain ⟨G2, s2, S4, h2⟩ := Sep.keep S3
    have S5 := S4.drop
    have s02 := s1.trans s2
    obtain ⟨x1, dx1, rfl, hx1⟩ := hf1.same s02
    obtain ⟨x2, dx2, rfl, hx2⟩ := hf2.same s02
    refine ⟨sz, fun t1 nt1 => ?_⟩
    obtain ⟨G3, s3, S6, h3⟩ := Sep.mk (o := .tup [.int 0, .int 1]) S5 nt1
    refine ⟨t1, rfl, ⟨_, SqT.of (S6.st h3)⟩, for_tup (xs := [V.int 0, .int 1]) (fun i σ H' => ∃ (y3 y4 y5 y6 : Option V) (G' : Hp), σ = [some (.ref x1), some (.ref x2), some (.ref e), y3, y4, y5, y6] ∧ (([0, 1] : List Int).take i).all (le1 k1 k2) = true ∧ Same G3 G' ∧ Sep G' M H')
      ⟨_, _, _, _, G3, rfl, rfl, Same.refl _, S6⟩ (fun i σ H' _ h => ?_) (fun i y σ H' hy h => ?_) (fun σ H' h => ?_)⟩
    · obtain ⟨_, _, _, _, G', _, _, s', S'⟩ := h
      exact SqT.of (S'.st (s' _ _ h3))
    · obtain ⟨y3, y4, y5, y6, G4, rfl, al1, s4, S7⟩ := h
      obtain ⟨wh, hw, rfl⟩ := ints_get (l := [0, 1]) hy
      refine ⟨sz, fun t2 nt2 => ?_⟩
      obtain ⟨G5, s5, S8, h5⟩ := Sep.mk (o := .tup [.int 0, .int 1]) S7 nt2
      refine ⟨t2, rfl, ⟨_, SqT.of (S8.st h5)⟩, for_tup (xs := [V.int 0, .int 1]) (fun j σ H' => ∃ (y4 y5 y6 : Option V) (G' : Hp), σ = [some (.ref x1), some (.ref x2), some (.ref e), some (.int wh), y4, y5, y6] ∧ (([0, 1] : List Int).take j).all (le2 k1 k2 wh) = true ∧ Same G5 G' ∧ Sep G' M H')
        ⟨_, _, _, G5, rfl, rfl, Same.refl _, S8⟩ (fun j σ H' _ h => ?_) (fun j y σ H' hy h => ?_) (fun σ H' h => ?_)⟩
      · obtain ⟨_, _, _, G', _, _, s', S'⟩ := h
        exact SqT.of (S'.st (s' _ _ h5))
      · obtain ⟨y4, y5, y6, G6, rfl, al2, s6, S9⟩ := h
        obtain ⟨qu, hq, rfl⟩ := ints_get (l := [0, 1]) hy
        refine ⟨sz, fun t3 nt3 => ?_⟩
        obtain ⟨G7, s7, S10, h7⟩ := Sep.mk (o := .tup [.int 0, .int 1]) S9 nt3
        refine ⟨t3, rfl, ⟨_, SqT.of (S10.st h7)⟩, for_tup (xs := [V.int 0, .int 1]) (fun m σ H' => ∃ (y5 y6 : Option V), σ = [some (.ref x1), some (.ref x2), some (.ref e), some (.int wh), some (.int qu), y5, y6] ∧ (([0, 1] : List Int).take m).all (leQ k1 k2 wh qu) = true ∧ Sep G7 M H')
          ⟨_, _, rfl, rfl, S10⟩ (fun m σ H' _ h => ?_) (fun m y σ H' hy h => ?_) (fun σ H' h => ?_)⟩
        · obtain ⟨_, _, _, _, S'⟩ := h
          exact SqT.of (S'.st h7)
        · obtain ⟨y5, y6, rfl, al3, S11⟩ := h
          obtain ⟨tk, ht, rfl⟩ := ints_get (l := [0, 1]) hy
          have s27 := s3.trans (s4.trans (s5.trans (s6.trans s7)))
          have he := S11.st (s27 _ _ h2)
          refine lets5 T (fun R h => h) (fun R h => h) (S11.st (s27 _ _ hx1)) he ?_
          rw [f_r0]
          refine ⟨fun e1 => ?_, fun e1 => ?_⟩
          · refine lets5 T (fun R h => h) (fun R h => h) (S11.st (s27 _ _ hx2)) he ?_
            rw [f_r0]
            refine ⟨fun e2 => ?_, fun e2 => ?_⟩
            · have z : leQ k1 k2 wh qu tk = false := by unfold leQ; rw [e1]; simpa using e2
              have z0 : leK k1 k2 = false := all_no (List.mem_of_getElem? hw) (all_no (List.mem_of_getElem? hq) (all_no (List.mem_of_getElem? ht) z))
              rw [z0] at q
              exact q G7 _ (s02.trans s27) S11
            · have z : leQ k1 k2 wh qu tk = true := by unfold leQ; rw [e1]; simpa using e2
              exact ⟨_, _, rfl, all_take al3 ht z, S11⟩
          · refine ⟨ff, fun _ => ?_⟩
            have z : leQ k1 k2 wh qu tk = true := by unfold leQ; rw [e1]; rfl
            exact ⟨_, _, rfl, all_take al3 ht z, S11⟩
        · obtain ⟨y5, y6, rfl, al3, S11⟩ := h
          exact ⟨_, _, _, G7, rfl, all_take al2 hq al3, s6.trans s7, S11⟩
      · obtain ⟨y4, y5, y6, G6, rfl, al2, s6, S9⟩ := h
        exact ⟨_, _, _, _, G6, rfl, all_take al1 hw al2, s4.trans (s5.trans s6), S9⟩
    · obtain ⟨y3, y4, y5, y6, G4, rfl, al1, s4, S7⟩ := h
      rw [show leK k1 k2 = true from al1] at q
      exact q G4 _ (s02.trans (s3.trans s4)) S7

end
end K45
set_option Elab.async false
set_option linter.all false
set_option maxRecDepth 100000
set_option maxHeartbeats 4000000
namespace K45
open PySem PySem.Spec PyProof.Rows L2 XL
section
variable {P : Program} {w : World} {K : PySem.W.Frag} {mg : Str → Option Value} {base : Heap}
/-! ### fences by their words -/
theorem fresh_fn {c : Kd → Addr} {G H : Hp} {M : List (Addr × HO)} {a dx : Addr} (k : Kd) (S : Sep G M H) (na : H a = none) (nd : H dx = none) (ne : dx ≠ a) :
    ∃ G', Same G G' ∧ FnAt c G' (.ref a) k ∧ Sep G' M (upd (upd H dx (.own a)) a (.ins (c k) dx [])) := by
  have S1 := S.new2 (o := .ins (c k) dx []) (u := .own a) na nd ne
  obtain ⟨G1, s1, S2, h1⟩ := Sep.keep S1
  exact ⟨G1, s1, ⟨a, dx, rfl, h1⟩, S2.drop⟩
def spFenceG (c : Kd → Addr) : Sp := fun vs H Q _ => ∃ (G : Hp) (M : List (Addr × HO)) (k : Kd), vs = [.str k.wd] ∧ Sep G M H ∧ ∀ v G' H', Same G G' → FnAt c G' v k → Sep G' M H' → Q v H'
theorem ok_fence_ofG (T : Top K mg w) {k : Nat} : FnOk P w K mg base CX0 (k + 1) T.a_fence_of T.d_fence_of ["word"] (spFenceG (kc T)) := by
  refine T.F_fence_of.ok sc_fence_of (fun vs H Q E h => ?_) (fun cdv A outer s H vs Q E hr h => ?_)
  · obtain ⟨G, M, k, rfl, _⟩ := h
    rfl
  · obtain ⟨G, M, k, rfl, S, q⟩ := h
    refine ⟨_, (pss_cons (xs_if (xt_cmp (op_eqLK K hr.u190) (xv 0) pe_str (nomark _))
      (pss_one (ps_ret (pe_mk0 T.mk0_Fence (by rfl) T.g_Fence)))
      pss_nil)
      (pss_cons (xs_if (xt_cmp (op_eqLK K hr.u190) (xv 0) pe_str (nomark _))
      (pss_one (ps_ret (pe_mk0 T.mk0_Own (by rfl) T.g_Own)))
      pss_nil)
      (pss_cons (xs_if (xt_cmp (op_eqLK K hr.u190) (xv 0) pe_str (nomark _))
      (pss_one (ps_ret (pe_mk0 T.mk0_Same (by rfl) T.g_Same)))
      pss_nil)
      (pss_cons (xs_if (xt_cmp (op_eqLK K hr.u190) (xv 0) pe_str (nomark _))
      (pss_one (ps_ret (pe_mk0 T.mk0_Both (by rfl) T.g_Both)))
      pss_nil)
      (pss_cons (xs_if (xt_cmp (op_eqLK K hr.u190) (xv 0) pe_str (nomark _))
      (pss_one (ps_ret (pe_mk0 T.mk0_Last (by rfl) T.g_Last)))
      pss_nil)
      (pss_one ps_never)))))), ?_⟩
    have made : ∀ a dx, H a = none → H dx = none → dx ≠ a → Q (.ref a) (upd (upd H dx (.own a)) a (.ins (kc T k) dx [])) := fun a dx na nd ne => by
      obtain ⟨G1, s1, f1, S1⟩ := fresh_fn k S na nd ne
      exact q _ G1 _ s1 f1 S1
    cases k with
    | a => exact ⟨fun _ => made, fun e => absurd e (by decide +kernel)⟩
    | o => exact ⟨fun e => absurd e (by decide +kernel), fun _ => ⟨fun _ => made, fun e => absurd e (by decide +kernel)⟩⟩
    | s => exact ⟨fun e => absurd e (by decide +kernel), fun _ => ⟨fun e => absurd e (by decide +kernel), fun _ => ⟨fun _ => made, fun e => absurd e (by decide +kernel)⟩⟩⟩
    | b => exact ⟨fun e => absurd e (by decide +kernel), fun _ => ⟨fun e => absurd e (by decide +kernel), fun _ => ⟨fun e => absurd e (by decide +kernel), fun _ => ⟨fun _ => made, fun e => absurd e (by decide +kernel)⟩⟩⟩⟩
    | l => exact ⟨fun e => absurd e (by decide +kernel), fun _ => ⟨fun e => absurd e (by decide +kernel), fun _ => ⟨fun e => absurd e (by decide +kernel), fun _ => ⟨fun e => absurd e (by decide +kernel), fun _ => ⟨fun _ => made, fun e => absurd e (by decide +kernel)⟩⟩⟩⟩⟩
def spFenceX (C : Addr) : Sp := fun vs H _ E => ∃ z : Str, vs = [.str z] ∧ (∀ k : Kd, z ≠ k.wd) ∧ RpV (.str z) ∧ ∀ dd, H dd = none → E (.ref C) (some dd) (upd H dd (.xd [("fence", .str z)]))
theorem ok_fence_ofX (T : Top K mg w) (pf : PySem.XExc.PF P T.x_file) {k : Nat} : FnOk P w K mg base (L2.CX P w) (k + 2) T.a_fence_of T.d_fence_of ["word"] (spFenceX T.C_BadFence) := by
  refine T.F_fence_of.okX sc_fence_of (fun vs H Q E h => ?_) (fun cdv A outer s H vs Q E hr h => ?_)
  · obtain ⟨z, rfl, _⟩ := h
    rfl
  · obtain ⟨z, rfl, hz, hr1, q⟩ := h
    refine ⟨_, (pss_cons (xs_if (xt_cmp (op_eqLK K hr.u190) (xv 0) pe_str (nomark _))
      (pss_one (ps_ret (pe_mk0 T.mk0_Fence (by rfl) T.g_Fence)))
      pss_nil)
      (pss_cons (xs_if (xt_cmp (op_eqLK K hr.u190) (xv 0) pe_str (nomark _))
      (pss_one (ps_ret (pe_mk0 T.mk0_Own (by rfl) T.g_Own)))
      pss_nil)
      (pss_cons (xs_if (xt_cmp (op_eqLK K hr.u190) (xv 0) pe_str (nomark _))
      (pss_one (ps_ret (pe_mk0 T.mk0_Same (by rfl) T.g_Same)))
      pss_nil)
      (pss_cons (xs_if (xt_cmp (op_eqLK K hr.u190) (xv 0) pe_str (nomark _))
      (pss_one (ps_ret (pe_mk0 T.mk0_Both (by rfl) T.g_Both)))
      pss_nil)
      (pss_cons (xs_if (xt_cmp (op_eqLK K hr.u190) (xv 0) pe_str (nomark _))
      (pss_one (ps_ret (pe_mk0 T.mk0_Last (by rfl) T.g_Last)))
      pss_nil)
      (pss_one (ps_raiseX (k := 0) rfl (T.x_BadFence P pf) (hr.mono (by omega)) (takes_of rfl rfl rfl rfl) (pa_cons (xv 0) pa_nil)))))))), ?_⟩
    have no : ∀ k : Kd, decide (z = k.wd) = true → False := fun k e => hz k (of_decide_eq_true e)
    refine ⟨fun e => (no .a e).elim, fun _ => ⟨fun e => (no .o e).elim, fun _ => ⟨fun e => (no .s e).elim, fun _ => ⟨fun e => (no .b e).elim, fun _ => ⟨fun e => (no .l e).elim, fun _ => ?_⟩⟩⟩⟩⟩
    exact ⟨.str z, rfl, hr1, q⟩
/-! ### the law's words, cases -/
def wds : List Str := ["any", "own", "same", "both", "last"]
def kds : List Kd := [.a, .o, .s, .b, .l]
theorem wds_kd {z : Str} (h : z ∈ wds) : ∃ k : Kd, z = k.wd := by
  simp only [wds, List.mem_cons, List.not_mem_nil, or_false] at h
  rcases h with rfl | rfl | rfl | rfl | rfl
  · exact ⟨.a, rfl⟩
  · exact ⟨.o, rfl⟩
  · exact ⟨.s, rfl⟩
  · exact ⟨.b, rfl⟩
  · exact ⟨.l, rfl⟩
def spWords : Sp := fun vs H Q _ => vs = [] ∧ ∀ l, H l = none → Q (.ref l) (upd H l (.lst (wds.map V.str)))
theorem ok_words (T : Top K mg w) {k : Nat} : FnOk P w K mg base CX0 (k + 1) T.a_words T.d_words [] spWords := by
  refine T.F_words.ok sc_words (fun vs H Q E h => ?_) (fun cdv A outer s H vs Q E hr h => ?_)
  · obtain ⟨rfl, _⟩ := h
    rfl
  · obtain ⟨rfl, q⟩ := h
    refine ⟨_, (pss_one (ps_ret (pe_lst (pa_cons pe_str (pa_cons pe_str (pa_cons pe_str (pa_cons pe_str (pa_cons pe_str pa_nil)))))))), ?_⟩
    exact ⟨sz, fun l nl => q l nl⟩
def Kd.lt : Kd → Bool → Bool → Bool → Bool
  | .a, _, _, _ => true
  | .o, x, _, _ => x
  | .s, _, y, _ => y
  | .b, x, y, _ => x && y
  | .l, x, y, z => x && y && z
def spLLets : Sp := fun vs H Q _ => ∃ (k : Kd) (a b c : Bool), vs = [.str k.wd, .bl a, .bl b, .bl c] ∧ Q (.bl (k.lt a b c)) H
theorem ok_lets (T : Top K mg w) {k : Nat} : FnOk P w K mg base CX0 (k + 1) T.a_lets T.d_lets ["_law_word", "_law_own", "_law_same", "_law_last"] spLLets := by
  refine T.F_lets.ok sc_lets (fun vs H Q E h => ?_) (fun cdv A outer s H vs Q E hr h => ?_)
  · obtain ⟨k, a, b, c, rfl, _⟩ := h
    rfl
  · obtain ⟨k, a, b, c, rfl, q⟩ := h
    refine ⟨_, (pss_cons (xs_if (xt_cmp (op_eqLK K hr.u190) (xv 0) pe_str (nomark _))
      (pss_one (ps_ret pe_bl))
      pss_nil)
      (pss_cons (xs_if (xt_cmp (op_eqLK K hr.u190) (xv 0) pe_str (nomark _))
      (pss_one (ps_ret (xv 1)))
      pss_nil)
      (pss_cons (xs_if (xt_cmp (op_eqLK K hr.u190) (xv 0) pe_str (nomark _))
      (pss_one (ps_ret (xv 2)))
      pss_nil)
      (pss_cons (xs_if (xt_cmp (op_eqLK K hr.u190) (xv 0) pe_str (nomark _))
      (pss_one (ps_ret (xe_and (xv 1) (pe_one (xv 2)))))
      pss_nil)
      (pss_one (ps_ret (xe_and (xv 1) (xe_and (xv 2) (pe_one (xv 3)))))))))), ?_⟩
    cases k with
    | a => exact ⟨fun _ => q, fun e => absurd e (by decide +kernel)⟩
    | o => exact ⟨fun e => absurd e (by decide +kernel), fun _ => ⟨fun _ => q, fun e => absurd e (by decide +kernel)⟩⟩
    | s => exact ⟨fun e => absurd e (by decide +kernel), fun _ => ⟨fun e => absurd e (by decide +kernel), fun _ => ⟨fun _ => q, fun e => absurd e (by decide +kernel)⟩⟩⟩
    | b =>
      refine ⟨fun e => absurd e (by decide +kernel), fun _ => ⟨fun e => absurd e (by decide +kernel), fun _ => ⟨fun e => absurd e (by decide +kernel), fun _ => ⟨fun _ => ?_, fun e => absurd e (by decide +kernel)⟩⟩⟩⟩
      cases a with
      | true => exact ⟨fun _ => q, tt⟩
      | false => exact ⟨ff, fun _ => q⟩
    | l =>
      refine ⟨fun e => absurd e (by decide +kernel), fun _ => ⟨fun e => absurd e (by decide +kernel), fun _ => ⟨fun e => absurd e (by decide +kernel), fun _ => ⟨fun e => absurd e (by decide +kernel), fun _ => ?_⟩⟩⟩⟩
      cases a with
      | true =>
        refine ⟨fun _ => ?_, tt⟩
        cases b with
        | true => exact ⟨fun _ => q, tt⟩
        | false => exact ⟨ff, fun _ => q⟩
      | false => exact ⟨ff, fun _ => q⟩
def spTruth : Sp := fun vs H Q _ => ∃ a b : Bool, vs = [.bl a, .bl b] ∧ Q (.bl (decide (a = b))) H
theorem ok_truth (T : Top K mg w) {k : Nat} : FnOk P w K mg base CX0 (k + 1) T.a_truth T.d_truth ["_law_told", "_law_due"] spTruth := by
  refine T.F_truth.ok sc_truth (fun vs H Q E h => ?_) (fun cdv A outer s H vs Q E hr h => ?_)
  · obtain ⟨a, b, rfl, _⟩ := h
    rfl
  · obtain ⟨a, b, rfl, q⟩ := h
    refine ⟨_, (pss_one (ps_ret (xe_and (pe_callB (call_isK K) (by rfl) T.m_isinstance (by decide +kernel) (pa_cons (xv 0) (pa_cons (pe_bltn (v := .ty "bool") (by rfl) T.m_bool (by decide +kernel) rfl) pa_nil))) (pe_one (pe_cmpR (op_eqLK K hr.u190) (xv 0) (xv 1) (nomark _)))))), ?_⟩
    exact ⟨_, _, _, _, true, rfl, .ty _, .base (.bl _), kit_ty (by decide +kernel), fun _ => q, tt⟩

end
end K45
set_option Elab.async false
set_option linter.all false
set_option maxRecDepth 100000
set_option maxHeartbeats 4000000
namespace K45
open PySem PySem.Spec PyProof.Rows L2 XL
section
variable {P : Program} {w : World} {K : PySem.W.Frag} {mg : Str → Option Value} {base : Heap}
/-! ### the cases -/
def cases8 : List (Bool × Bool × Bool) := [(true, true, true), (true, true, false), (true, false, true), (true, false, false), (false, true, true), (false, true, false), (false, false, true), (false, false, false)]
def CsAt (G : Hp) (v : V) (x : Bool × Bool × Bool) : Prop := ∃ p, v = .ref p ∧ G p = some (.tup [.bl x.1, .bl x.2.1, .bl x.2.2])
theorem CsAt.same {G G' : Hp} {v : V} {x : Bool × Bool × Bool} (e : Same G G') (h : CsAt G v x) : CsAt G' v x := let ⟨p, h1, h2⟩ := h; ⟨p, h1, e _ _ h2⟩
theorem bools_get {l : List Bool} {i : Nat} {x : V} (h : (l.map V.bl)[i]? = some x) : ∃ n, l[i]? = some n ∧ x = .bl n := by
  rw [List.getElem?_map] at h
  obtain ⟨n, h1, h2⟩ := Option.map_eq_some_iff.mp h
  exact ⟨n, h1, h2.symm⟩
def row3 (a b : Bool) : List (Bool × Bool × Bool) := [true, false].map fun c => (a, b, c)
def row2 (a : Bool) : List (Bool × Bool × Bool) := [true, false].flatMap fun b => row3 a b
def row1 : List (Bool × Bool × Bool) := [true, false].flatMap row2
theorem flat_take {α β : Type} (f : α → List β) {l : List α} {i : Nat} {x : α} (h : l[i]? = some x) : (l.take (i + 1)).flatMap f = (l.take i).flatMap f ++ f x := by
  rw [List.take_add_one, h]
  simp
theorem map_take1 {α β : Type} (f : α → β) {l : List α} {i : Nat} {x : α} (h : l[i]? = some x) : (l.take (i + 1)).map f = (l.take i).map f ++ [f x] := by
  rw [List.take_add_one, h]
  simp
def spCases : Sp := fun vs H Q _ => ∃ (G : Hp) (M : List (Addr × HO)), vs = [] ∧ Sep G M H ∧ ∀ l ws G' H', Same G G' → G' l = some (.lst ws) → Paired (CsAt G') ws cases8 → Sep G' M H' → Q (.ref l) H'
theorem ok_cases (T : Top K mg w) {k : Nat} : FnOk P w K mg base CX0 (k + 1) T.a_cases T.d_cases [] spCases := by
  refine T.F_cases.ok sc_cases (fun vs H Q E h => ?_) (fun cdv A outer s H vs Q E hr h => ?_)
  · obtain ⟨G, M, rfl, _⟩ := h
    rfl
  · obtain ⟨G, M, rfl, S, q⟩ := h
    refine ⟨_, (pss_cons (ps_set (i := 0) sc_cases.nd rfl (.inl rfl) (pe_lst pa_nil))
      (pss_cons (ps_for PassesOwn.never rfl (pi_tupK K (pe_tup (pa_cons pe_bl (pa_cons pe_bl pa_nil)))) (pg_name (i := 1) sc_cases.nd rfl (.inl rfl))
      (pss_one (ps_for PassesOwn.never rfl (pi_tupK K (pe_tup (pa_cons pe_bl (pa_cons pe_bl pa_nil)))) (pg_name (i := 2) sc_cases.nd rfl (.inl rfl))
      (pss_one (ps_for PassesOwn.never rfl (pi_tupK K (pe_tup (pa_cons pe_bl (pa_cons pe_bl pa_nil)))) (pg_name (i := 3) sc_cases.nd rfl (.inl rfl))
      (pss_one (ps_expr (pe_bmK K PySem.F.plainAttrs_list PySem.F.slot_list_append PySem.F.type_list_append mt_append (xv 0) (pa_cons (pe_tup (pa_cons (xv 1) (pa_cons (xv 2) (pa_cons (xv 3) pa_nil)))) pa_nil)))))))))
      (pss_one (ps_ret (xv 0))))), ?_⟩
    refine ⟨sz, fun L nL => ?_⟩
    have S1 := S.new (o := .lst []) nL
    refine ⟨sz, fun t1 nt1 => ?_⟩
    obtain ⟨G3, s3, S6, h3⟩ := Sep.mk (o := .tup [.bl true, .bl false]) S1 nt1
    refine ⟨t1, rfl, ⟨_, SqT.of (S6.st h3)⟩, for_tup (xs := [V.bl true, .bl false]) (fun i σ H' => ∃ (y1 y2 y3 : Option V) (G' : Hp) (ws : List V), σ = [some (.ref L), y1, y2, y3] ∧ Paired (CsAt G') ws (([true, false].take i).flatMap row2) ∧ Same G3 G' ∧ Sep G' ((L, .lst ws) :: M) H')
      ⟨_, _, _, G3, [], rfl, .nil, Same.refl _, S6⟩ (fun i σ H' _ h => ?_) (fun i y σ H' hy h => ?_) (fun σ H' h => ?_)⟩
    · obtain ⟨_, _, _, G', _, _, _, s', S'⟩ := h
      exact SqT.of (S'.st (s' _ _ h3))
    · obtain ⟨y1, y2, y3, G4, ws, rfl, pw, s4, S7⟩ := h
      obtain ⟨a, ha, rfl⟩ := bools_get (l := [true, false]) hy
      refine ⟨sz, fun t2 nt2 => ?_⟩
      obtain ⟨G5, s5, S8, h5⟩ := Sep.mk (o := .tup [.bl true, .bl false]) S7 nt2
      refine ⟨t2, rfl, ⟨_, SqT.of (S8.st h5)⟩, for_tup (xs := [V.bl true, .bl false]) (fun j σ H' => ∃ (y2 y3 : Option V) (G' : Hp) (us : List V), σ = [some (.ref L), some (.bl a), y2, y3] ∧ Paired (CsAt G') us (([true, false].take i).flatMap row2 ++ ([true, false].take j).flatMap (row3 a)) ∧ Same G5 G' ∧ Sep G' ((L, .lst us) :: M) H')
        ⟨_, _, G5, ws, rfl, by rw [List.take_zero]; simpa using prd_imp (fun _ _ => CsAt.same s5) pw, Same.refl _, S8⟩ (fun j σ H' _ h => ?_) (fun j y σ H' hy h => ?_) (fun σ H' h => ?_)⟩
      · obtain ⟨_, _, G', _, _, _, s', S'⟩ := h
        exact SqT.of (S'.st (s' _ _ h5))
      · obtain ⟨y2, y3, G6, us, rfl, pu, s6, S9⟩ := h
        obtain ⟨b, hb, rfl⟩ := bools_get (l := [true, false]) hy
        refine ⟨sz, fun t3 nt3 => ?_⟩
        obtain ⟨G7, s7, S10, h7⟩ := Sep.mk (o := .tup [.bl true, .bl false]) S9 nt3
        refine ⟨t3, rfl, ⟨_, SqT.of (S10.st h7)⟩, for_tup (xs := [V.bl true, .bl false]) (fun m σ H' => ∃ (y3 : Option V) (G' : Hp) (xs : List V), σ = [some (.ref L), some (.bl a), some (.bl b), y3] ∧ Paired (CsAt G') xs ((([true, false].take i).flatMap row2 ++ ([true, false].take j).flatMap (row3 a)) ++ ([true, false].take m).map fun c => (a, b, c)) ∧ Same G7 G' ∧ Sep G' ((L, .lst xs) :: M) H')
          ⟨_, G7, us, rfl, by rw [List.take_zero]; simpa using prd_imp (fun _ _ => CsAt.same s7) pu, Same.refl _, S10⟩ (fun m σ H' _ h => ?_) (fun m y σ H' hy h => ?_) (fun σ H' h => ?_)⟩
        · obtain ⟨_, G', _, _, _, s', S'⟩ := h
          exact SqT.of (S'.st (s' _ _ h7))
        · obtain ⟨y3, G8, xs, rfl, px, s8, S11⟩ := h
          obtain ⟨c, hc, rfl⟩ := bools_get (l := [true, false]) hy
          have xl : xs.length ≤ 10 := by
            have e := prd_len px
            have i2 := (List.getElem?_eq_some_iff.mp ha).1
            have j2 := (List.getElem?_eq_some_iff.mp hb).1
            have m2 := (List.getElem?_eq_some_iff.mp hc).1
            rw [e]
            have i3 : i = 0 ∨ i = 1 := by simp at i2; omega
            have j3 : j = 0 ∨ j = 1 := by simp at j2; omega
            have m3 : m = 0 ∨ m = 1 := by simp at m2; omega
            rcases i3 with rfl | rfl <;> rcases j3 with rfl | rfl <;> rcases m3 with rfl | rfl <;> simp [row2, row3]
          refine ⟨.inl ⟨rfl, _, SqL.of S11.hd⟩, sz, fun t nt => ?_⟩
          obtain ⟨G9, s9, S12, h9⟩ := Sep.mk (o := .tup [.bl a, .bl b, .bl c]) S11 nt
          refine ⟨L, _, _, rfl, rfl, S12.hd, smallL (by omega), ?_⟩
          refine ⟨_, G9, xs ++ [.ref t], rfl, ?_, s8.trans s9, S12.set⟩
          rw [map_take1 _ hc, ← List.append_assoc]
          exact prd_app (prd_imp (fun _ _ => CsAt.same s9) px) (.cons ⟨t, rfl, h9⟩ .nil)
        · obtain ⟨y3, G8, xs, rfl, px, s8, S11⟩ := h
          refine ⟨_, _, G8, xs, rfl, ?_, s6.trans (s7.trans s8), S11⟩
          rw [flat_take _ hb, ← List.append_assoc]
          exact px
      · obtain ⟨y2, y3, G6, us, rfl, pu, s6, S9⟩ := h
        refine ⟨_, _, _, G6, us, rfl, ?_, s4.trans (s5.trans s6), S9⟩
        rw [flat_take _ ha]
        exact pu
    · obtain ⟨y1, y2, y3, G4, ws, rfl, pw, s4, S7⟩ := h
      obtain ⟨G5, s5, S8, h5⟩ := Sep.keep S7
      exact q L ws G5 _ (s3.trans (s4.trans s5)) h5 (prd_imp (fun _ _ => CsAt.same s5) pw) S8
def amQ (k1 k2 : Kd) (x : Bool × Bool × Bool) : Bool := !(k1.lt x.1 x.2.1 x.2.2 && !k2.lt x.1 x.2.1 x.2.2)
theorem am_le (k1 k2 : Kd) : cases8.all (amQ k1 k2) = leK k1 k2 := by cases k1 <;> cases k2 <;> decide +kernel
def spAtM : Sp := fun vs H Q _ => ∃ (G : Hp) (M : List (Addr × HO)) (k1 k2 : Kd), vs = [.str k1.wd, .str k2.wd] ∧ Sep G M H ∧ ∀ G' H', Same G G' → Sep G' M H' → Q (.bl (leK k1 k2)) H'
theorem ok_at_most (T : Top K mg w) {k : Nat} (G_cases : FnOk P w K mg base CX0 k T.a_cases T.d_cases [] spCases) (G_lets : FnOk P w K mg base CX0 k T.a_lets T.d_lets ["_law_word", "_law_own", "_law_same", "_law_last"] spLLets) :
    FnOk P w K mg base CX0 (k + 1) T.a_at_most T.d_at_most ["_law_first", "_law_second"] spAtM := by
  refine T.F_at_most.ok sc_at_most (fun vs H Q E h => ?_) (fun cdv A outer s H vs Q E hr h => ?_)
  · obtain ⟨G, M, k1, k2, rfl, _⟩ := h
    rfl
  · obtain ⟨G, M, k1, k2, rfl, S, q⟩ := h
    refine ⟨_, (pss_cons (ps_for PassesOwn.never rfl (pi_listK K (pe_call0 G_cases (hr.mono (by omega)) (by rfl) T.g_cases T.F_cases.kp T.b_cases .nil pass0)) (pg_tupK K 3 (pgs_cons (pg_name (i := 2) sc_at_most.nd rfl (.inl rfl)) (pgs_cons (pg_name (i := 3) sc_at_most.nd rfl (.inl rfl)) (pgs_cons (pg_name (i := 4) sc_at_most.nd rfl (.inl rfl)) pgs_nil))))
      (pss_one (xs_if (PW.pt (xw_and (xt_truK K (pe_call G_lets (hr.mono (by omega)) (by rfl) T.g_lets T.F_lets.kp T.b_lets .nil pass0 (pa_cons (xv 0) (pa_cons (xv 2) (pa_cons (xv 3) (pa_cons (xv 4) pa_nil)))))) (pw_and1 (pt_not (xt_truK K (pe_call G_lets (hr.mono (by omega)) (by rfl) T.g_lets T.F_lets.kp T.b_lets .nil pass0 (pa_cons (xv 1) (pa_cons (xv 2) (pa_cons (xv 3) (pa_cons (xv 4) pa_nil))))))))))
      (pss_one (ps_ret pe_bl))
      pss_nil)))
      (pss_one (ps_ret pe_bl))), ?_⟩
    refine ⟨G, M, rfl, S, fun l ws G1 H1 s1 hl pw S1 => ?_⟩
    refine ⟨l, rfl, ⟨_, SqL.of (S1.st hl)⟩, for_list (xs := ws) (fun i σ H' => ∃ (y2 y3 y4 : Option V), σ = [some (.str k1.wd), some (.str k2.wd), y2, y3, y4] ∧ (cases8.take i).all (amQ k1 k2) = true ∧ Sep G1 M H')
      ⟨_, _, _, rfl, rfl, S1⟩ (fun i σ H' _ h => ?_) (fun i y σ H' hy h => ?_) (fun σ H' h => ?_)⟩
    · obtain ⟨_, _, _, _, _, S'⟩ := h
      exact SqL.of (S'.st hl)
    · obtain ⟨y2, y3, y4, rfl, al, S2⟩ := h
      obtain ⟨x, hx, p, rfl, hp⟩ := prd_get pw hy
      refine ⟨p, _, rfl, SqT.of (S2.st hp), rfl, _, _, rfl, _, _, rfl, _, _, rfl, rfl, ?_⟩
      refine ⟨k1, x.1, x.2.1, x.2.2, rfl, fun e1 => ?_, fun e1 => ?_⟩
      · refine ⟨k2, x.1, x.2.1, x.2.2, rfl, fun e2 => ?_, fun e2 => ?_⟩
        · have z : amQ k1 k2 x = false := by unfold amQ; rw [e1]; simpa using e2
          have z0 : leK k1 k2 = false := by rw [← am_le]; exact all_no (List.mem_of_getElem? hx) z
          rw [z0] at q
          exact q G1 _ s1 S2
        · have z : amQ k1 k2 x = true := by unfold amQ; rw [e1]; simpa using e2
          exact ⟨_, _, _, rfl, all_take al hx z, S2⟩
      · refine ⟨ff, fun _ => ?_⟩
        have z : amQ k1 k2 x = true := by unfold amQ; rw [e1]; rfl
        exact ⟨_, _, _, rfl, all_take al hx z, S2⟩
    · obtain ⟨y2, y3, y4, rfl, al, S2⟩ := h
      have z0 : leK k1 k2 = true := by
        rw [← am_le]
        rw [show ws.length = cases8.length from prd_len pw] at al
        rw [List.take_length] at al
        exact al
      rw [z0] at q
      exact q G1 _ s1 S2

end
end K45
set_option Elab.async false
set_option linter.all false
set_option maxRecDepth 100000
set_option maxHeartbeats 4000000
namespace K45
open PySem PySem.Spec PyProof.Rows L2 XL
section
variable {P : Program} {w : World} {K : PySem.W.Frag} {mg : Str → Option Value} {base : Heap}
theorem prd_getR {α β : Type} {F : α → β → Prop} {xs : List α} {ys : List β} {i : Nat} {y : β} (h : Paired F xs ys) (e : ys[i]? = some y) : ∃ x, xs[i]? = some x ∧ F x y := by
  have hl := prd_len h
  have il := (List.getElem?_eq_some_iff.mp e).1
  have hx := List.getElem?_eq_getElem (show i < xs.length by omega)
  obtain ⟨y', hy, f⟩ := prd_get h hx
  rw [e] at hy
  cases hy
  exact ⟨_, hx, f⟩
theorem prd_erase {α β : Type} {F : α → β → Prop} : ∀ {xs : List α} {ys : List β} (k : Nat), Paired F xs ys → Paired F (xs.eraseIdx k) (ys.eraseIdx k)
  | _, _, _, .nil => .nil
  | _, _, 0, .cons _ t => t
  | _, _, k + 1, .cons h t => .cons h (prd_erase k t)
theorem prd_tail {α β : Type} {F : α → β → Prop} {xs : List α} {ys : List β} (h : Paired F xs ys) : Paired F xs.tail ys.tail := by
  cases h with
  | nil => exact .nil
  | cons _ t => exact t
/-- beyond the room the eldest goes -/
def push {α : Type} (rm : Int) (rs : List α) : List α := if rm < (rs.length : Int) then rs.tail else rs
theorem push_len {α : Type} {rm : Int} {rs : List α} (h : (rs.length : Int) ≤ rm + 1) (h1 : 1 ≤ rm) : ((push rm rs).length : Int) ≤ rm := by
  unfold push
  split
  · rw [List.length_tail]; omega
  · omega
/-- the line's two cells -/
def spSend (C Ce : Addr) : Sp := fun vs H Q _ => ∃ (G : Hp) (M : List (Addr × HO)) (x dx sa l : Addr) (rm tk : Int) (j q : Nat) (ws : List V) (rows : List Rw) (zs : List (List Int)) (z : List Int) (ow : V) (wd : Str) (who an : Int), vs = [.ref x, ow, .str wd, .int who, .int (q : Nat)] ∧ Sep G ((x, .ins C dx (lnF sa rm l tk (j : Nat))) :: (l, .lst ws) :: M) H ∧
  Paired (RwAt G) ws rows ∧ StAt G sa zs ∧ OwAt G ow ∧ zs[j]? = some z ∧ z[q]? = some an ∧ 1 ≤ rm ∧ rm ≤ 3 ∧ (rows.length : Int) ≤ rm ∧
  ∀ (e : Addr) (ws' : List V) (G' H' : Hp), Same G G' → EnAt G' Ce (.ref e) ⟨ow, wd, who, tk, q, an⟩ → Paired (RwAt G') ws' (push rm (rows ++ [⟨ow, wd, who, tk, q, an⟩])) → Sep G' ((x, .ins C dx (lnF sa rm l (tk + 1) (j : Nat))) :: (l, .lst ws') :: M) H' → Q (.ref e) H'
theorem ok_Line_send (T : Top K mg w) {k : Nat} (G_Entry_init : FnOk P w K mg base CX0 (k + 1) T.a_Entry_init T.d_Entry_init ["self", "owner", "word", "who", "ticket", "question", "answer"] (spEn T.C_Entry)) :
    FnOk P w K mg base CX0 (k + 3) T.a_Line_send T.d_Line_send ["self", "owner", "word", "who", "question"] (spSend T.C_Line T.C_Entry) := by
  refine T.F_Line_send.ok sc_Line_send (fun vs H Q E h => ?_) (fun cdv A outer s H vs Q E hr h => ?_)
  · obtain ⟨G, M, x, dx, sa, l, rm, tk, j, qn, ws, rows, zs, z, ow, wd, who, an, rfl, _⟩ := h
    rfl
  · obtain ⟨G, M, x, dx, sa, l, rm, tk, j, qn, ws, rows, zs, z, ow, wd, who, an, rfl, S, pw, st, hw, hz, ha, r1, r3, rl, q⟩ := h
    refine ⟨_, (pss_cons (ps_set (i := 5) sc_Line_send.nd rfl (.inl rfl) (pe_tup (pa_cons (xv 1) (pa_cons (xv 2) (pa_cons (xv 3) (pa_cons (pe_fldK K (xv 0)) (pa_cons (xv 4) (pa_cons (pe_ix (ix_k K) (pe_ix (ix_k K) (pe_fldK K (xv 0)) (pe_fldK K (xv 0)) (fun _ _ => rfl)) (xv 4) (fun _ _ => rfl)) pa_nil))))))))
      (pss_cons (ps_fldaug (xv 0) pe_int in_add)
      (pss_cons (ps_expr (pe_bmK K PySem.F.plainAttrs_list PySem.F.slot_list_append PySem.F.type_list_append mt_append (pe_fldK K (xv 0)) (pa_cons (xv 5) pa_nil)))
      (xss_cut (xs_if (xt_cmp op_gtY (pe_callB (cr_lenK K) (by rfl) T.m_len (by decide +kernel) (pa_cons (pe_fldK K (xv 0)) pa_nil)) (pe_fldK K (xv 0)) (nomark _))
      (pss_one (ps_expr (pe_bmK K PySem.F.plainAttrs_list PySem.F.slot_list_pop PySem.F.type_list_pop mt_popAt (pe_fldK K (xv 0)) (pa_cons pe_int pa_nil))))
      pss_nil)
      (pss_one (ps_ret (pe_makeS K T.mk_Entry G_Entry_init (hr.mono (by omega)) (by rfl) T.g_Entry T.b_Entry_init .nil pass0 (xv 5)))))))), ?_⟩
    obtain ⟨us, hu, pu⟩ := st
    obtain ⟨_, hv, r, rfl, hr', z4⟩ := prd_getR pu hz
    have wl := prd_len pw
    refine ⟨x, T.C_Line, dx, _, _, rfl, S.hd, T.cl_Line, T.na_Line_tickets, lnF_tk, x, T.C_Line, dx, _, _, rfl, S.hd, T.cl_Line, T.na_Line_far, lnF_far, x, T.C_Line, dx, _, _, rfl, S.hd, T.cl_Line, T.na_Line_present, lnF_pr, ?_⟩
    refine ⟨_, _, .inr (SqT.of (S.st hu)), atI_nat hv, _, _, .inr (SqT.of (S.st hr')), atI_nat (by rw [List.getElem?_map, ha]; rfl), sz, fun p np => ?_⟩
    obtain ⟨G1, s1, S1, h1⟩ := Sep.mk (o := .tup (Rw.tup ⟨ow, wd, who, tk, qn, an⟩)) S np
    refine ⟨x, T.C_Line, dx, _, _, rfl, S1.hd, T.cl_Line, T.na_Line_tickets, lnF_tk, _, _, rfl, rfl, dx, _, S1.hd, by simp [lnF], ?_⟩
    rw [put_tk]
    have S2 := S1.set (o' := .ins T.C_Line dx (lnF sa rm l (tk + 1) (j : Nat)))
    have nr : RwAt G1 (.ref p) ⟨ow, wd, who, tk, qn, an⟩ := ⟨p, rfl, h1, hw.same s1⟩
    have pw1 := prd_app (rws_same s1 pw) (.cons nr .nil)
    refine ⟨x, T.C_Line, dx, _, _, rfl, S2.hd, T.cl_Line, T.na_Line_waiting, lnF_w, .inl ⟨rfl, _, SqL.of S2.sw.hd⟩, l, _, _, rfl, rfl, S2.sw.hd, smallL (by omega), ?_⟩
    have S3 := (S2.sw.set (o' := .lst (ws ++ [.ref p]))).sw
    refine ⟨fun σ H' => ∃ ws', σ = [some (.ref x), some ow, some (.str wd), some (.int who), some (.int (qn : Nat)), some (.ref p)] ∧ Paired (RwAt G1) ws' (push rm (rows ++ [⟨ow, wd, who, tk, qn, an⟩])) ∧ Sep G1 ((x, .ins T.C_Line dx (lnF sa rm l (tk + 1) (j : Nat))) :: (l, .lst ws') :: M) H', ?_, fun σ H' h => ?_⟩
    · refine ⟨x, T.C_Line, dx, _, _, rfl, S3.hd, T.cl_Line, T.na_Line_waiting, lnF_w, _, .inl (SqL.of S3.sw.hd), x, T.C_Line, dx, _, _, rfl, S3.hd, T.cl_Line, T.na_Line_room, lnF_rm, fun e => ?_, fun e => ?_⟩
      · have e1 : rm < ((rows ++ [(⟨ow, wd, who, tk, qn, an⟩ : Rw)]).length : Int) := by
          have z := of_decide_eq_true e
          rw [List.length_append] at z ⊢
          rw [← wl]
          exact z
        have hne : ∃ y, (ws ++ [V.ref p])[0]? = some y := ⟨_, List.getElem?_eq_getElem (by simp)⟩
        obtain ⟨y, hy⟩ := hne
        refine ⟨x, T.C_Line, dx, _, _, rfl, S3.hd, T.cl_Line, T.na_Line_waiting, lnF_w, .inl ⟨rfl, _, SqL.of S3.sw.hd⟩, l, _, 0, 0, y, rfl, rfl, S3.sw.hd, by decide, by decide, ?_, hy, ?_⟩
        · exact seqIdx (by decide) (by rw [List.length_append]; simp)
        · refine ⟨_, rfl, ?_, (S3.sw.set).sw⟩
          unfold push
          rw [if_pos e1, List.eraseIdx_zero]
          exact prd_tail pw1
      · have e1 : ¬ rm < ((rows ++ [(⟨ow, wd, who, tk, qn, an⟩ : Rw)]).length : Int) := by
          have z := of_decide_eq_false e
          rw [List.length_append] at z ⊢
          rw [← wl]
          exact z
        refine ⟨_, rfl, ?_, S3⟩
        unfold push
        rw [if_neg e1]
        exact pw1
    · obtain ⟨ws', rfl, pw', S4⟩ := h
      refine ⟨p, _, rfl, .inl (SqT.of (S4.st h1)), fun e de ne nde hne => ?_⟩
      have S5 := S4.new2 (o := .ins T.C_Entry de []) (u := .own e) ne nde hne
      refine ⟨G1, _, e, de, ⟨ow, wd, who, tk, qn, an⟩, rfl, S5, fun H6 S6 => ⟨rfl, ?_⟩⟩
      obtain ⟨G7, s7, S7, h7⟩ := Sep.keep S6
      exact q e ws' G7 _ (s1.trans s7) ⟨e, de, rfl, h7, (hw.same s1).same s7⟩ (rws_same s7 pw') S7.drop

/-! ### entries -/
def spAnyN : Sp := fun vs H Q _ => ∃ (G : Hp) (M : List (Addr × HO)) (b : Addr) (o : HO), vs = [.ref b] ∧ Sep G ((b, o) :: M) H ∧ Bag G o ∧ ∀ (n : Int) (o' : HO) (G' H' : Hp), Same G G' → 0 ≤ n → Bag G' o' → Sep G' ((b, o') :: M) H' → Q (.int n) H'
theorem ok_any_number (T : Top K mg w) {k : Nat} (G_pick : FnOk P w K mg base CX0 k T.a_pick T.d_pick ["_law_bag_here", "_law_many"] spPick) : FnOk P w K mg base CX0 (k + 1) T.a_any_number T.d_any_number ["_law_bag_here"] spAnyN := by
  refine T.F_any_number.ok sc_any_number (fun vs H Q E h => ?_) (fun cdv A outer s H vs Q E hr h => ?_)
  · obtain ⟨G, M, b, o, rfl, _⟩ := h
    rfl
  · obtain ⟨G, M, b, o, rfl, S, B, q⟩ := h
    refine ⟨_, (pss_one (ps_ret (pe_ix (ix_k K) (pe_lst (pa_cons (pe_call G_pick (hr.mono (by omega)) (by rfl) T.g_pick T.F_pick.kp T.b_pick .nil pass0 (pa_cons (xv 0) (pa_cons pe_int pa_nil))) (pa_cons (pe_call G_pick (hr.mono (by omega)) (by rfl) T.g_pick T.F_pick.kp T.b_pick .nil pass0 (pa_cons (xv 0) (pa_cons (pe_op op_powY pe_int pe_int) pa_nil))) pa_nil))) (pe_op op_divY (pe_call G_pick (hr.mono (by omega)) (by rfl) T.g_pick T.F_pick.kp T.b_pick .nil pass0 (pa_cons (xv 0) (pa_cons pe_int pa_nil))) pe_int) (fun _ _ => rfl)))), ?_⟩
    refine ⟨G, M, b, o, 4, rfl, S, B, by decide, by decide, fun r1 o1 H1 r10 r11 B1 S1 => ?_⟩
    refine ⟨⟨by decide, by decide, by decide⟩, fun p ep => ?_⟩
    have ep : p = 1000000000 := by rw [ep]; decide
    refine ⟨G, M, b, o1, p, rfl, S1, B1, by omega, by omega, fun r2 o2 H2 r20 r21 B2 S2 => ?_⟩
    refine ⟨sz, fun l nl => ?_⟩
    obtain ⟨G3, s3, S3, h3⟩ := Sep.mk (o := .lst [.int r1, .int r2]) S2 nl
    refine ⟨G3, M, b, o2, 3, rfl, S3, B2.same s3, by decide, by decide, fun r4 o4 H4 r40 r41 B4 S4 => ?_⟩
    refine ⟨by decide, fun r5 e5 h5 => ?_⟩
    have b5 : r5 = 0 ∨ r5 = 1 := by omega
    rcases b5 with rfl | rfl
    · exact ⟨_, _, .inl (SqL.of (S4.st h3)), atI_nat (j := 0) rfl, q _ o4 G3 H4 s3 r10 B4 S4⟩
    · exact ⟨_, _, .inl (SqL.of (S4.st h3)), atI_nat (j := 1) rfl, q _ o4 G3 H4 s3 r20 B4 S4⟩
def spOther : Sp := fun vs H Q _ => ∃ (G : Hp) (M : List (Addr × HO)) (b : Addr) (o : HO) (n : Int), vs = [.ref b, .int n] ∧ Sep G ((b, o) :: M) H ∧ Bag G o ∧ 0 ≤ n ∧ ∀ (m : Int) (o' : HO) (G' H' : Hp), Same G G' → m ≠ n → Bag G' o' → Sep G' ((b, o') :: M) H' → Q (.int m) H'
theorem ok_other (T : Top K mg w) {k : Nat} (G_pick : FnOk P w K mg base CX0 k T.a_pick T.d_pick ["_law_bag_here", "_law_many"] spPick) : FnOk P w K mg base CX0 (k + 1) T.a_other T.d_other ["_law_bag_here", "_law_number"] spOther := by
  refine T.F_other.ok sc_other (fun vs H Q E h => ?_) (fun cdv A outer s H vs Q E hr h => ?_)
  · obtain ⟨G, M, b, o, n, rfl, _⟩ := h
    rfl
  · obtain ⟨G, M, b, o, n, rfl, S, B, n0, q⟩ := h
    refine ⟨_, (pss_one (ps_ret (pe_ix (ix_k K) (pe_lst (pa_cons (pe_op op_addY (xv 1) pe_int) (pa_cons (pe_op op_addY (pe_op op_addY (xv 1) pe_int) (pe_call G_pick (hr.mono (by omega)) (by rfl) T.g_pick T.F_pick.kp T.b_pick .nil pass0 (pa_cons (xv 0) (pa_cons pe_int pa_nil)))) (pa_cons (pe_op op_addY (xv 1) (pe_op op_powY pe_int pe_int)) (pa_cons (pe_callB cr_abs (by rfl) T.m_abs (by decide +kernel) (pa_cons (pe_op op_subY (xv 1) pe_int) pa_nil)) pa_nil))))) (pe_call G_pick (hr.mono (by omega)) (by rfl) T.g_pick T.F_pick.kp T.b_pick .nil pass0 (pa_cons (xv 0) (pa_cons pe_int pa_nil))) (fun _ _ => rfl)))), ?_⟩
    refine ⟨G, M, b, o, 9, rfl, S, B, by decide, by decide, fun r1 o1 H1 r10 r11 B1 S1 => ?_⟩
    refine ⟨⟨by decide, by decide, by decide⟩, fun p ep => ?_⟩
    have ep : p = 1000000000 := by rw [ep]; decide
    refine ⟨sz, fun l nl => ?_⟩
    obtain ⟨G2, s2, S2, h2⟩ := Sep.mk (o := .lst [.int (n + 1), .int (n + 1 + r1), .int (n + p), .int ((n - 1).natAbs : Nat)]) S1 nl
    refine ⟨G2, M, b, o1, 4, rfl, S2, B1.same s2, by decide, by decide, fun r3 o3 H3 r30 r31 B3 S3 => ?_⟩
    have hl := SqL.of (K := K) (S3.st h2)
    have b3 : r3 = 0 ∨ r3 = 1 ∨ r3 = 2 ∨ r3 = 3 := by omega
    rcases b3 with rfl | rfl | rfl | rfl
    · exact ⟨_, _, .inl hl, atI_nat (j := 0) rfl, q _ o3 G2 H3 s2 (by omega) B3 S3⟩
    · exact ⟨_, _, .inl hl, atI_nat (j := 1) rfl, q _ o3 G2 H3 s2 (by omega) B3 S3⟩
    · exact ⟨_, _, .inl hl, atI_nat (j := 2) rfl, q _ o3 G2 H3 s2 (by omega) B3 S3⟩
    · exact ⟨_, _, .inl hl, atI_nat (j := 3) rfl, q _ o3 G2 H3 s2 (by omega) B3 S3⟩
theorem row_lay {r : Rw} {d : PyData} (h1 : d.canLay0 = true) (h2 : d.depth ≤ 10) (h3 : PyData.canLay0 (.str r.wd) = true) : (PyData.tuple [d, .str r.wd, .int r.who, .int r.tk, .int r.qu, .int r.an]).canLay0 = true ∧ (PyData.tuple [d, .str r.wd, .int r.who, .int r.tk, .int r.qu, .int r.an]).depth ≤ 190 := by
  refine ⟨?_, ?_⟩
  · simp only [PyData.canLay0]
    exact layAll fun e he => by
      simp only [List.mem_cons, List.not_mem_nil, or_false] at he
      rcases he with rfl | rfl | rfl | rfl | rfl | rfl
      · exact h1
      · exact h3
      · rfl
      · rfl
      · rfl
      · rfl
  · simp only [PyData.depth, PyData.depthAll]
    omega
def spFields (C : Addr) : Sp := fun vs H Q _ => ∃ (G : Hp) (M : List (Addr × HO)) (v : V) (r : Rw), vs = [v] ∧ Sep G M H ∧ EnAt G C v r ∧ ∀ t G' H', Same G G' → G' t = some (.tup r.tup) → Sep G' M H' → Q (.ref t) H'
theorem ok_fields (T : Top K mg w) {k : Nat} : FnOk P w K mg base CX0 (k + 1) T.a_fields T.d_fields ["_law_entry_here"] (spFields T.C_Entry) := by
  refine T.F_fields.ok sc_fields (fun vs H Q E h => ?_) (fun cdv A outer s H vs Q E hr h => ?_)
  · obtain ⟨G, M, v, r, rfl, _⟩ := h
    rfl
  · obtain ⟨G, M, v, r, rfl, S, he, q⟩ := h
    refine ⟨_, (pss_one (ps_ret (pe_tup (pa_cons (pe_fldK K (xv 0)) (pa_cons (pe_fldK K (xv 0)) (pa_cons (pe_fldK K (xv 0)) (pa_cons (pe_fldK K (xv 0)) (pa_cons (pe_fldK K (xv 0)) (pa_cons (pe_fldK K (xv 0)) pa_nil))))))))), ?_⟩
    obtain ⟨e, de, rfl, he, _⟩ := he
    have h := S.st he
    refine ⟨e, T.C_Entry, de, _, _, rfl, h, T.cl_Entry, T.na_Entry_owner, enF_ow, e, T.C_Entry, de, _, _, rfl, h, T.cl_Entry, T.na_Entry_word, enF_wd, e, T.C_Entry, de, _, _, rfl, h, T.cl_Entry, T.na_Entry_who, enF_who, e, T.C_Entry, de, _, _, rfl, h, T.cl_Entry, T.na_Entry_ticket, enF_tk, e, T.C_Entry, de, _, _, rfl, h, T.cl_Entry, T.na_Entry_question, enF_qu, e, T.C_Entry, de, _, _, rfl, h, T.cl_Entry, T.na_Entry_answer, enF_an, sz, fun t nt => ?_⟩
    obtain ⟨G1, s1, S1, h1⟩ := Sep.mk (o := .tup r.tup) S nt
    exact q t G1 _ s1 h1 S1
def spEntry (C : Addr) : Sp := fun vs H Q _ => ∃ (G : Hp) (M : List (Addr × HO)) (b : Addr) (o : HO) (rw : Addr) (r : Rw), vs = [.ref b, .ref rw] ∧ Sep G ((b, o) :: M) H ∧ Bag G o ∧ G rw = some (.tup r.tup) ∧ OwAt G r.ow ∧ 0 ≤ r.tk ∧ r.tk ≤ 3 ∧ 0 ≤ r.qu ∧ r.qu ≤ 3 ∧
  ∀ (v : V) (o' : HO) (G' H' : Hp), Same G G' → EnAt G' C v r → Bag G' o' → Sep G' ((b, o') :: M) H' → Q v H'
theorem ok_entry (T : Top K mg w) {k : Nat} (G_pick : FnOk P w K mg base CX0 k T.a_pick T.d_pick ["_law_bag_here", "_law_many"] spPick) (G_Entry_init : FnOk P w K mg base CX0 k T.a_Entry_init T.d_Entry_init ["self", "owner", "word", "who", "ticket", "question", "answer"] (spEn T.C_Entry))
    (G_Line_init : FnOk P w K mg base CX0 k T.a_Line_init T.d_Line_init ["self", "far", "room"] (spLn T.C_Line)) (G_Line_send : FnOk P w K mg base CX0 k T.a_Line_send T.d_Line_send ["self", "owner", "word", "who", "question"] (spSend T.C_Line T.C_Entry)) :
    FnOk P w K mg base CX0 (k + 2) T.a_entry T.d_entry ["_law_bag_here", "_law_row"] (spEntry T.C_Entry) := by
  refine T.F_entry.ok sc_entry (fun vs H Q E h => ?_) (fun cdv A outer s H vs Q E hr h => ?_)
  · obtain ⟨G, M, b, o, rw, r, rfl, _⟩ := h
    rfl
  · obtain ⟨G, M, b, o, rw, r, rfl, S, B, hrw, how, t0, t3, q0, q3, q⟩ := h
    refine ⟨_, (pss_cons (xs_if (xt_cmp (op_eqLK K hr.u190) (pe_call G_pick (hr.mono (by omega)) (by rfl) T.g_pick T.F_pick.kp T.b_pick .nil pass0 (pa_cons (xv 0) (pa_cons pe_int pa_nil))) pe_int (nomark _))
      (pss_one (ps_ret (pe_make T.mk_Entry G_Entry_init (hr.mono (by omega)) (by rfl) T.g_Entry T.b_Entry_init .nil pass0 (pa_cons (pe_ix (ix_k K) (xv 1) pe_int (fun _ _ => rfl)) (pa_cons (pe_ix (ix_k K) (xv 1) pe_int (fun _ _ => rfl)) (pa_cons (pe_ix (ix_k K) (xv 1) pe_int (fun _ _ => rfl)) (pa_cons (pe_ix (ix_k K) (xv 1) pe_int (fun _ _ => rfl)) (pa_cons (pe_ix (ix_k K) (xv 1) pe_int (fun _ _ => rfl)) (pa_cons (pe_ix (ix_k K) (xv 1) pe_int (fun _ _ => rfl)) pa_nil)))))))))
      pss_nil)
      (pss_cons (ps_set (i := 2) sc_entry.nd rfl (.inl rfl) (pe_make T.mk_Line G_Line_init (hr.mono (by omega)) (by rfl) T.g_Line T.b_Line_init .nil pass0 (pa_cons (pe_tup (pa_cons (pe_tup (pa_cons (pe_ix (ix_k K) (xv 1) pe_int (fun _ _ => rfl)) (pa_cons (pe_ix (ix_k K) (xv 1) pe_int (fun _ _ => rfl)) (pa_cons (pe_ix (ix_k K) (xv 1) pe_int (fun _ _ => rfl)) (pa_cons (pe_ix (ix_k K) (xv 1) pe_int (fun _ _ => rfl)) pa_nil))))) pa_nil)) (pa_cons (pe_op op_addY pe_int (pe_call G_pick (hr.mono (by omega)) (by rfl) T.g_pick T.F_pick.kp T.b_pick .nil pass0 (pa_cons (xv 0) (pa_cons pe_int pa_nil)))) pa_nil))))
      (pss_cons (ps_set (i := 3) sc_entry.nd rfl (.inl rfl) (pe_meth (xv 2) T.cl_Line T.me_Line_send G_Line_send (hr.mono (by omega)) T.b_Line_send .nil pass0 (pa_cons (pe_ix (ix_k K) (xv 1) pe_int (fun _ _ => rfl)) (pa_cons (pe_ix (ix_k K) (xv 1) pe_int (fun _ _ => rfl)) (pa_cons (pe_ix (ix_k K) (xv 1) pe_int (fun _ _ => rfl)) (pa_cons (pe_ix (ix_k K) (xv 1) pe_int (fun _ _ => rfl)) pa_nil))))))
      (pss_cons (ps_for PassesOwn.never rfl (pi_range1 (by rfl) T.m_range (pa_cons pe_int pa_nil)) (pg_name (i := 4) sc_entry.nd rfl (.inl rfl))
      (pss_one (xs_if (xt_cmp (op_neLK K hr.u190) (pe_fldK K (xv 3)) (pe_ix (ix_k K) (xv 1) pe_int (fun _ _ => rfl)) (nomark _))
      (pss_one (ps_set (i := 3) sc_entry.nd rfl (.inl rfl) (pe_meth (xv 2) T.cl_Line T.me_Line_send G_Line_send (hr.mono (by omega)) T.b_Line_send .nil pass0 (pa_cons (pe_ix (ix_k K) (xv 1) pe_int (fun _ _ => rfl)) (pa_cons (pe_ix (ix_k K) (xv 1) pe_int (fun _ _ => rfl)) (pa_cons (pe_ix (ix_k K) (xv 1) pe_int (fun _ _ => rfl)) (pa_cons (pe_ix (ix_k K) (xv 1) pe_int (fun _ _ => rfl)) pa_nil)))))))
      pss_nil)))
      (pss_one (ps_ret (xv 3))))))), ?_⟩
    refine ⟨G, M, b, o, 2, rfl, S, B, by decide, by decide, fun r1 o1 H1 r10 r11 B1 S1 => ?_⟩
    have hT := SqT.of (K := K) (S1.st hrw)
    refine ⟨fun _ => ?_, fun _ => ?_⟩
    · refine ⟨_, _, .inr hT, atI_nat (j := 0) rfl, _, _, .inr hT, atI_nat (j := 1) rfl, _, _, .inr hT, atI_nat (j := 2) rfl, _, _, .inr hT, atI_nat (j := 3) rfl, _, _, .inr hT, atI_nat (j := 4) rfl, _, _, .inr hT, atI_nat (j := 5) rfl, fun e de ne nde hne => ?_⟩
      have S2 := S1.new2 (o := .ins T.C_Entry de []) (u := .own e) ne nde hne
      refine ⟨G, _, e, de, r, rfl, S2, fun H3 S3 => ⟨rfl, ?_⟩⟩
      obtain ⟨G2, s2, S4, h2⟩ := Sep.keep S3
      exact q _ o1 G2 _ s2 ⟨e, de, rfl, h2, how.same s2⟩ (B1.same s2) S4.drop
    · refine ⟨_, _, .inr hT, atI_nat (j := 5) rfl, _, _, .inr hT, atI_nat (j := 5) rfl, _, _, .inr hT, atI_nat (j := 5) rfl, _, _, .inr hT, atI_nat (j := 5) rfl, sz, fun t1 nt1 => ?_⟩
      obtain ⟨G2, s2, S2, h2⟩ := Sep.mk (o := .tup [.int r.an, .int r.an, .int r.an, .int r.an]) S1 nt1
      refine ⟨sz, fun t2 nt2 => ?_⟩
      obtain ⟨G3, s3, S3, h3⟩ := Sep.mk (o := .tup [.ref t1]) S2 nt2
      refine ⟨G3, _, b, o1, 3, rfl, S3, (B1.same s2).same s3, by decide, by decide, fun rm o4 H4 m0 m1 B4 S4 => fun x dx nx ndx hne => ?_⟩
      have S5 := S4.new2 (o := .ins T.C_Line dx []) (u := .own x) nx ndx hne
      refine ⟨G3, _, x, dx, t2, 1 + rm, _, rfl, S5, h3, fun l H6 S6 => ⟨rfl, ?_⟩⟩
      have st : StAt G3 t2 [[r.an, r.an, r.an, r.an]] := ⟨_, h3, .cons ⟨t1, rfl, s3 _ _ h2, rfl⟩ .nil⟩
      obtain ⟨qn, hqn⟩ := Int.eq_ofNat_of_zero_le q0
      obtain ⟨tn, htn⟩ := Int.eq_ofNat_of_zero_le t0
      have s03 := s2.trans s3
      have za : ([r.an, r.an, r.an, r.an] : List Int)[qn]? = some r.an := by
        have b4 : qn = 0 ∨ qn = 1 ∨ qn = 2 ∨ qn = 3 := by omega
        rcases b4 with rfl | rfl | rfl | rfl <;> rfl
      have hT6 := fun (G' : Hp) (H' : Hp) (M' : List (Addr × HO)) (e : Same G3 G') (S' : Sep G' M' H') => SqT.of (K := K) (S'.st (e _ _ (s03 _ _ hrw)))
      have S7 := S6.sw
      refine ⟨x, dx, lnF t2 (1 + rm) l 0 0, rfl, S7.hd, rfl, _, _, .inr (hT6 _ _ _ (Same.refl _) S7), atI_nat (j := 0) rfl, _, _, .inr (hT6 _ _ _ (Same.refl _) S7), atI_nat (j := 1) rfl, _, _, .inr (hT6 _ _ _ (Same.refl _) S7), atI_nat (j := 2) rfl, _, _, .inr (hT6 _ _ _ (Same.refl _) S7), atI_nat (j := 4) rfl, ?_⟩
      let rt : Nat → Rw := fun t => ⟨r.ow, r.wd, r.who, (t : Nat), (qn : Nat), r.an⟩
      have how3 := how.same s03
      refine ⟨G3, _, x, dx, t2, l, 1 + rm, 0, 0, qn, [], [], [[r.an, r.an, r.an, r.an]], [r.an, r.an, r.an, r.an], r.ow, r.wd, r.who, r.an, by rw [← hqn]; rfl, S7, .nil, st, how3, rfl, za, by omega, by omega, by simp; omega, fun e0 ws0 G8 H8 s8 en0 pw0 S8 => ?_⟩
      refine ⟨3, rfl, by decide, by decide, for_range (lo := 0) (n := (3 : Int).toNat) (fun i σ H' => ∃ (y4 : Option V) (e : Addr) (ws : List V) (rows : List Rw) (G' : Hp) (t : Nat), σ = [some (.ref b), some (.ref rw), some (.ref x), some (.ref e), y4] ∧ t = min i tn ∧ Same G3 G' ∧ EnAt G' T.C_Entry (.ref e) (rt t) ∧ Paired (RwAt G') ws rows ∧ (rows.length : Int) ≤ 1 + rm ∧ Sep G' ((x, .ins T.C_Line dx (lnF t2 (1 + rm) l ((t : Nat) + 1) 0)) :: (l, .lst ws) :: (dx, .own x) :: (b, o4) :: M) H')
        ⟨_, e0, ws0, _, G8, 0, rfl, by simp, s8, en0, pw0, push_len (by simp; omega) (by omega), S8⟩ (fun i σ H' hi h => ?_) (fun σ H' h => ?_)⟩
      · obtain ⟨y4, e, ws, rows, G9, t, rfl, ht, s9, en, pw, rl, S9⟩ := h
        have i3 : i < 3 := hi
        obtain ⟨ea, de, hee, he9, how9⟩ := id en
        cases hee
        refine ⟨e, T.C_Entry, de, _, _, rfl, S9.st he9, T.cl_Entry, T.na_Entry_ticket, enF_tk, _, _, .inr (hT6 _ _ _ s9 S9), atI_nat (j := 3) rfl, fun e1 => ?_, fun e1 => ?_⟩
        · have ne : t ≠ tn := fun z => by
            have e1 : (!decide (((t : Nat) : Int) = r.tk)) = true := e1
            rw [htn, z] at e1
            simp at e1
          refine ⟨x, dx, _, rfl, S9.hd, rfl, _, _, .inr (hT6 _ _ _ s9 S9), atI_nat (j := 0) rfl, _, _, .inr (hT6 _ _ _ s9 S9), atI_nat (j := 1) rfl, _, _, .inr (hT6 _ _ _ s9 S9), atI_nat (j := 2) rfl, _, _, .inr (hT6 _ _ _ s9 S9), atI_nat (j := 4) rfl, ?_⟩
          refine ⟨G9, _, x, dx, t2, l, 1 + rm, (t : Nat) + 1, 0, qn, ws, rows, [[r.an, r.an, r.an, r.an]], [r.an, r.an, r.an, r.an], r.ow, r.wd, r.who, r.an, by rw [← hqn]; rfl, S9, pw, st.same s9, how3.same s9, rfl, za, by omega, by omega, rl, fun e5 ws5 G10 H10 s10 en5 pw5 S10 => ?_⟩
          refine ⟨_, e5, ws5, _, G10, t + 1, rfl, by omega, s9.trans s10, ?_, pw5, push_len (by rw [List.length_append]; simp; omega) (by omega), ?_⟩
          · exact en5
          · exact S10
        · have eq : t = tn := by
            have e1 : (!decide (((t : Nat) : Int) = r.tk)) = false := e1
            rw [htn] at e1
            have e2 : ((t : Nat) : Int) = ((tn : Nat) : Int) := by simpa using e1
            omega
          exact ⟨_, e, ws, rows, G9, t, rfl, by omega, s9, en, pw, rl, S9⟩
      · obtain ⟨y4, e, ws, rows, G9, t, rfl, ht, s9, en, pw, rl, S9⟩ := h
        have ht : t = min 3 tn := ht
        have et : t = tn := by omega
        have er : rt t = r := by
          show (⟨r.ow, r.wd, r.who, ((t : Nat) : Int), ((qn : Nat) : Int), r.an⟩ : Rw) = r
          rw [et, ← htn, ← hqn]
        rw [er] at en
        exact q _ o4 G9 _ (s03.trans s9) en ((B4.same s9)) S9.drop.drop.drop

end
end K45
set_option Elab.async false
set_option linter.all false
set_option maxRecDepth 100000
set_option maxHeartbeats 4000000
namespace K45
open PySem PySem.Spec PyProof.Rows L2 XL
section
variable {P : Program} {w : World} {K : PySem.W.Frag} {mg : Str → Option Value} {base : Heap}
/-! ### drawn texts -/
structure Tx (a b : Nat) (z : Str) : Prop where
  lo : a ≤ z.length
  hi : z.length ≤ b
  ch : ∀ c ∈ z.cps.toList, c < 128
theorem Tx.wide {a b a' b' : Nat} {z : Str} (h : Tx a b z) (h1 : a' ≤ a) (h2 : b ≤ b') : Tx a' b' z := ⟨Nat.le_trans h1 h.lo, Nat.le_trans h.hi h2, h.ch⟩
theorem Tx.app {a b c d : Nat} {x y : Str} (h : Tx a b x) (k : Tx c d y) : Tx (a + c) (b + d) (x ++ y) := by
  have h1 := h.lo; have h2 := h.hi; have h3 := k.lo; have h4 := k.hi
  refine ⟨by rw [app_len]; omega, by rw [app_len]; omega, fun e he => ?_⟩
  rw [app_tl] at he
  rcases List.mem_append.mp he with z | z
  · exact h.ch e z
  · exact k.ch e z
theorem Tx.lit {a b : Nat} (z : Str) (h : (Nat.ble a z.length && Nat.ble z.length b && z.cps.toList.all fun c => decide (c < 128)) = true) : Tx a b z := by
  rw [Bool.and_eq_true, Bool.and_eq_true] at h
  exact ⟨Nat.le_of_ble_eq_true h.1.1, Nat.le_of_ble_eq_true h.1.2, fun c hc => of_decide_eq_true (List.all_eq_true.mp h.2 c hc)⟩
theorem Tx.join {ys : List Str} (h : ∀ y ∈ ys, Tx 1 1 y) : Tx ys.length ys.length (Txt.join "" ys) := by
  have e : (Txt.join "" ys).cps.toList = (ys.map fun y => y.cps.toList).flatten := by
    rw [TL.join_eq]
    exact (TL.tl_join "" ys).trans (joinL_nil _)
  have el : ∀ {ys : List Str}, (∀ y ∈ ys, Tx 1 1 y) → ((ys.map fun y => y.cps.toList).flatten).length = ys.length := by
    intro ys
    induction ys with
    | nil => intro _; rfl
    | cons y r ih =>
      intro h
      have h1 := h y List.mem_cons_self
      have z := ih fun y hy => h y (List.mem_cons_of_mem _ hy)
      have l1 := h1.lo; have l2 := h1.hi
      rw [len_tl] at l1 l2
      rw [List.map_cons, List.flatten_cons, List.length_append, z, List.length_cons]
      omega
  have l := el h
  refine ⟨by rw [len_tl, e, l]; exact Nat.le_refl _, by rw [len_tl, e, l]; exact Nat.le_refl _, fun c hc => ?_⟩
  rw [e] at hc
  obtain ⟨p, hp, hcp⟩ := List.mem_flatten.mp hc
  obtain ⟨y, hy, rfl⟩ := List.mem_map.mp hp
  exact (h y hy).ch c hcp
theorem sum_onesT : ∀ {ys : List Str}, (∀ y ∈ ys, Tx 1 1 y) → (ys.map (·.length)).sum = ys.length
  | [], _ => rfl
  | y :: r, h => by
    have h1 := h y List.mem_cons_self
    have z := sum_onesT fun y hy => h y (List.mem_cons_of_mem _ hy)
    have l1 := h1.lo; have l2 := h1.hi
    rw [List.map_cons, List.sum_cons, z, List.length_cons]
    omega
theorem Tx.small {a b : Nat} {z : Str} (h : Tx a b z) (hb : b ≤ 100000) : z.length ≤ sizeLine := Nat.le_trans h.hi (XL.small hb)
theorem cutF_len (z : Str) (k : Nat) (h : k ≤ z.length) : (cutS z none (some (k : Int))).length + (cutS z (some (k : Int)) none).length = z.length := by
  rw [cut_to_len, cut_from_len z k h]
  omega
/-- a text put in at a place -/
def putS (f : Str) (at_ : Nat) (x : Str) : Str := cutS f none (some (at_ : Int)) ++ x ++ cutS f (some (at_ : Int)) none
theorem str_ext {x y : Str} (h : x.cps.toList = y.cps.toList) : x = y := by
  have := Array.toList_inj.mp h
  cases x; cases y
  simp at this
  rw [this]
theorem putS_inj {f x y : Str} {k : Nat} (h : putS f k x = putS f k y) : x = y := by
  unfold putS at h
  have e := congrArg (fun z : Str => z.cps.toList) h
  simp only [app_tl, List.append_assoc] at e
  have e2 := List.append_cancel_left e
  exact str_ext (List.append_cancel_right e2)
theorem putS_tx {f x : Str} {k a b c d : Nat} (hf : Tx a b f) (hk : k ≤ f.length) (hx : Tx c d x) : Tx c (b + d) (putS f k x) := by
  have h1 := hx.lo; have h2 := hx.hi; have h3 := hf.hi
  have h4 := cutF_len f k hk
  refine ⟨?_, ?_, fun e he => ?_⟩
  · unfold putS; rw [app_len, app_len]; omega
  · unfold putS; rw [app_len, app_len]; omega
  · unfold putS at he
    rw [app_tl, app_tl] at he
    rcases List.mem_append.mp he with he | he
    · rcases List.mem_append.mp he with he | he
      · exact hf.ch e (cut_mem he)
      · exact hx.ch e he
    · exact hf.ch e (cut_mem he)
/-- a number as a text -/
def numS (n : Nat) : Str := Str.ofString (toString ((n : Nat) : Int))
theorem numS_tl (n : Nat) : (numS n).cps.toList = TL.numL n := TL.tl_num n
theorem numS_inj {m n : Nat} (h : numS m = numS n) : m = n := TL.numL_inj (by rw [← numS_tl, ← numS_tl, h])
theorem numS_tx {n k : Nat} (hk : 0 < k) (h : n < 10 ^ k) : Tx 1 k (numS n) := by
  have l := TL.numL_len hk h
  refine ⟨?_, ?_, fun c hc => ?_⟩
  · rw [len_tl, numS_tl]
    have := TL.numL_ne n
    exact List.length_pos_iff.mpr this
  · rw [len_tl, numS_tl]; exact l
  · rw [numS_tl] at hc
    have := TL.numL_digits n c hc
    omega
theorem toS (i : Nat) : (toString ((i : Nat) : Int) : Str) = numS i := rfl

theorem repr_short {z : Str} {n : Nat} (h : ∀ c ∈ z.cps.toList, c < 128) (l : z.length ≤ n) (hn : n ≤ 1000) : (reprText z).length ≤ 100000 := by
  have := PySem.StrLaws.reprText_len z fun c hc => Nat.lt_trans (h c hc) (by decide)
  omega
theorem Tx.rp {a b : Nat} {z : Str} (h : Tx a b z) (hb : b ≤ 1000) : RpV (.str z) := .inl ⟨_, rfl, repr_short h.ch h.hi hb⟩

/-! ### words that are none -/
def LN : Str := "abcdefghijklmnopqrstuvwxyz ABLNOS"
theorem LN_tx : Tx 33 33 LN := .lit _ (by decide +kernel)
theorem LN_len : LN.length = 33 := by decide +kernel
theorem LS_128 : ∀ c ∈ LS.cps.toList, c < 128 := by decide +kernel
theorem lt_tx {a b : Nat} {z : Str} (h : Lt a b z) : Tx a b z := ⟨h.lo, h.hi, fun c hc => LS_128 c (h.ch c hc)⟩
theorem wd_tx (k : Kd) : Tx 3 4 k.wd := by cases k <;> exact .lit _ (by decide +kernel)
theorem to_tx {a b k : Nat} {z : Str} (h : Tx a b z) : Tx 0 b (cutS z none (some (k : Int))) := ⟨Nat.zero_le _, by rw [cut_to_len]; have := h.hi; omega, fun c hc => h.ch c (cut_mem hc)⟩
theorem from_tx {a b k : Nat} {z : Str} (h : Tx a b z) (hk : k ≤ z.length) : Tx 0 b (cutS z (some (k : Int)) none) := ⟨Nat.zero_le _, by rw [cut_from_len z k hk]; have := h.hi; omega, fun c hc => h.ch c (cut_mem hc)⟩
theorem one_tx {z : Str} {a b : Nat} {c : Nat} (h : Tx a b z) (hc : c ∈ z.cps.toList) : Tx 1 1 (⟨#[c]⟩ : Str) := ⟨Nat.le_refl _, Nat.le_refl _, fun e he => by
  have : e = c := by simpa using he
  rw [this]
  exact h.ch c hc⟩
theorem wd_a (k : Kd) : (k.wd ++ ("a" : Str)) ∉ wds := by cases k <;> decide +kernel
theorem not_wd {z : Str} (h : z ∉ wds) (k : Kd) : z ≠ k.wd := fun e => h (by rw [e]; cases k <;> simp [wds, Kd.wd])
def spNone : Sp := fun vs H Q _ => ∃ (G : Hp) (M : List (Addr × HO)) (b : Addr) (o : HO), vs = [.ref b] ∧ Sep G ((b, o) :: M) H ∧ Bag G o ∧ ∀ (z : Str) (o' : HO) (G' H' : Hp), Same G G' → (∀ k : Kd, z ≠ k.wd) → Tx 0 20 z → Bag G' o' → Sep G' ((b, o') :: M) H' → Q (.str z) H'
theorem ok_none (T : Top K mg w) {k : Nat} (G_pick : FnOk P w K mg base CX0 k T.a_pick T.d_pick ["_law_bag_here", "_law_many"] spPick) (G_words : FnOk P w K mg base CX0 k T.a_words T.d_words [] spWords) (G_new_name : FnOk P w K mg base CX0 k T.a_new_name T.d_new_name ["_law_bag_here", "_law_used"] spNew) :
    FnOk P w K mg base CX0 (k + 1) T.a_none T.d_none ["_law_bag_here"] spNone := by
  refine T.F_none.ok sc_none (fun vs H Q E h => ?_) (fun cdv A outer s H vs Q E hr h => ?_)
  · obtain ⟨G, M, b, o, rfl, _⟩ := h
    rfl
  · obtain ⟨G, M, b, o, rfl, S, B, q⟩ := h
    refine ⟨_, (pss_cons (ps_set (i := 1) sc_none.nd rfl (.inl rfl) pe_str)
      (pss_cons (ps_set (i := 2) sc_none.nd rfl (.inl rfl) (pe_ix (ix_k K) (pe_call0 G_words (hr.mono (by omega)) (by rfl) T.g_words T.F_words.kp T.b_words .nil pass0) (pe_call G_pick (hr.mono (by omega)) (by rfl) T.g_pick T.F_pick.kp T.b_pick .nil pass0 (pa_cons (xv 0) (pa_cons pe_int pa_nil))) (fun _ _ => rfl)))
      (pss_cons (ps_set (i := 3) sc_none.nd rfl (.inl rfl) (pe_call G_pick (hr.mono (by omega)) (by rfl) T.g_pick T.F_pick.kp T.b_pick .nil pass0 (pa_cons (xv 0) (pa_cons (pe_callB (cr_lenK K) (by rfl) T.m_len (by decide +kernel) (pa_cons (xv 2) pa_nil)) pa_nil))))
      (pss_cons (ps_set (i := 4) sc_none.nd rfl (.inl rfl) (pe_ix (ix_k K) (xv 1) (pe_call G_pick (hr.mono (by omega)) (by rfl) T.g_pick T.F_pick.kp T.b_pick .nil pass0 (pa_cons (xv 0) (pa_cons (pe_callB (cr_lenK K) (by rfl) T.m_len (by decide +kernel) (pa_cons (xv 1) pa_nil)) pa_nil))) (fun _ _ => rfl)))
      (pss_cons (ps_set (i := 5) sc_none.nd rfl (.inl rfl) (pe_call G_pick (hr.mono (by omega)) (by rfl) T.g_pick T.F_pick.kp T.b_pick .nil pass0 (pa_cons (xv 0) (pa_cons pe_int pa_nil))))
      (xss_cut (xs_if (xt_cmp (op_eqLK K hr.u190) (xv 5) pe_int (nomark _))
      (pss_one (ps_set (i := 2) sc_none.nd rfl (.inl rfl) (pe_op op_addY (pe_op op_addY (pe_slice sl_str (xv 2) po_none (po_some (xv 3))) (xv 4)) (pe_slice sl_str (xv 2) (po_some (xv 3)) po_none))))
      (pss_one (xs_if (xt_cmp (op_eqLK K hr.u190) (xv 5) pe_int (nomark _))
      (pss_one (ps_set (i := 2) sc_none.nd rfl (.inl rfl) (pe_op op_addY (pe_slice sl_str (xv 2) po_none (po_some (xv 3))) (pe_slice sl_str (xv 2) (po_some (pe_op op_addY (xv 3) pe_int)) po_none))))
      (pss_one (xs_if (xt_cmp (op_eqLK K hr.u190) (xv 5) pe_int (nomark _))
      (pss_one (ps_set (i := 2) sc_none.nd rfl (.inl rfl) (pe_op op_addY (pe_op op_addY (pe_slice sl_str (xv 2) po_none (po_some (xv 3))) (xv 4)) (pe_slice sl_str (xv 2) (po_some (pe_op op_addY (xv 3) pe_int)) po_none))))
      (pss_one (xs_if (xt_cmp (op_eqLK K hr.u190) (xv 5) pe_int (nomark _))
      (pss_one (ps_set (i := 2) sc_none.nd rfl (.inl rfl) (pe_op op_addY (xv 2) (xv 4))))
      (pss_one (xs_if (xt_cmp (op_eqLK K hr.u190) (xv 5) pe_int (nomark _))
      (pss_one (ps_set (i := 2) sc_none.nd rfl (.inl rfl) pe_str))
      (pss_one (ps_set (i := 2) sc_none.nd rfl (.inl rfl) (pe_call G_new_name (hr.mono (by omega)) (by rfl) T.g_new_name T.F_new_name.kp T.b_new_name .nil pass0 (pa_cons (xv 0) (pa_cons (pe_lst pa_nil) pa_nil))))))))))))))
      (pss_cons (xs_if (xt_cmp (in_seqK K) (xv 2) (pe_call0 G_words (hr.mono (by omega)) (by rfl) T.g_words T.F_words.kp T.b_words .nil pass0) (by rfl))
      (pss_one (ps_ret (pe_op op_addY (xv 2) pe_str)))
      pss_nil)
      (pss_one (ps_ret (xv 2)))))))))), ?_⟩
    refine ⟨rfl, fun l nl => ?_⟩
    obtain ⟨G1, s1, S1, h1⟩ := Sep.mk (o := .lst (wds.map V.str)) S nl
    refine ⟨G1, M, b, o, 5, rfl, S1, B.same s1, by decide, by decide, fun r2 o2 H2 r20 r21 B2 S2 => ?_⟩
    obtain ⟨v, hv, hm⟩ := atI_in (xs := wds.map V.str) r20 (by rw [List.length_map]; exact r21)
    obtain ⟨z0, hz0, rfl⟩ := List.mem_map.mp hm
    obtain ⟨k0, rfl⟩ := wds_kd hz0
    refine ⟨_, _, .inl (SqL.of (S2.st h1)), hv, ?_⟩
    have wt := wd_tx k0
    have wlo := wt.lo
    have whi := wt.hi
    refine ⟨wt.small (by decide), G1, _, b, o2, _, rfl, S2, B2, by omega, by omega, fun r3 o3 H3 r30 r31 B3 S3 => ?_⟩
    obtain ⟨a, rfl⟩ := Int.eq_ofNat_of_zero_le r30
    refine ⟨LN_tx.small (by decide), G1, _, b, o3, _, rfl, S3, B3, by decide +kernel, by decide +kernel, fun r4 o4 H4 r40 r41 B4 S4 => ?_⟩
    obtain ⟨c, hc, hcm⟩ := atI_in (xs := LN.cps.toList) r40 (by
      have e : (LN.cps.toList.length : Nat) = LN.length := (len_tl LN).symm
      have r41 : r4 < ((LN.length : Nat) : Int) := r41
      omega)
    have sg := one_tx LN_tx hcm
    refine ⟨c, LN_tx.small (by decide), hc, ?_⟩
    generalize (⟨#[c]⟩ : Str) = sn at *
    refine ⟨G1, _, b, o4, 6, rfl, S4, B4, by decide, by decide, fun r5 o5 H5 r50 r51 B5 S5 => ?_⟩
    refine ⟨fun σ H' => ∃ (z : Str) (o' : HO) (G' : Hp), σ = [some (.ref b), some (.str LN), some (.str z), some (.int (a : Nat)), some (.str sn), some (.int r5)] ∧ Tx 0 20 z ∧ Same G1 G' ∧ Bag G' o' ∧ Sep G' ((b, o') :: M) H', ?_, fun σ H6 h => ?_⟩
    · have alt : a < k0.wd.length := by omega
      have fin : ∀ (z : Str) (n : Nat), Tx 0 n z → n ≤ 20 → ∃ (z' : Str) (o' : HO) (G' : Hp), [some (V.ref b), some (.str LN), some (.str z), some (.int (a : Nat)), some (.str sn), some (.int r5)] = [some (.ref b), some (.str LN), some (.str z'), some (.int (a : Nat)), some (.str sn), some (.int r5)] ∧ Tx 0 20 z' ∧ Same G1 G' ∧ Bag G' o' ∧ Sep G' ((b, o') :: M) H5 :=
        fun z n t hn => ⟨z, o5, G1, rfl, t.wide (Nat.le_refl _) hn, Same.refl _, B5, S5⟩
      have t1 := to_tx (k := a) wt
      have t2 := from_tx (k := a) wt (by omega)
      have t3 := from_tx (k := a + 1) wt (by omega)
      have l1 := t1.hi; have l2 := t2.hi; have l3 := t3.hi; have l4 := sg.hi
      have sW : k0.wd.length ≤ sizeLine := wt.small (by decide)
      have sm : ∀ n : Nat, n ≤ 100 → n ≤ sizeLine := fun n hn => small (by omega)
      refine ⟨fun _ => ?_, fun _ => ⟨fun _ => ?_, fun _ => ⟨fun _ => ?_, fun _ => ⟨fun _ => ?_, fun _ => ⟨fun _ => ?_, fun _ => ?_⟩⟩⟩⟩⟩
      · refine ⟨_, rfl, k0.wd, rfl, sW, sm _ (by omega), fun t et => ⟨_, rfl, k0.wd, rfl, sW, ?_, fun t' et' => ?_⟩⟩
        · rw [et, app_len]; exact sm _ (by omega)
        · rw [et', et]; exact fin _ _ ((t1.app (sg.wide (Nat.zero_le _) (Nat.le_refl _))).app t2) (by decide)
      · refine ⟨_, rfl, k0.wd, rfl, sW, _, rfl, k0.wd, rfl, sW, ?_, fun t' et' => ?_⟩
        · show (cutS k0.wd none (some (a : Int))).length + (cutS k0.wd (some ((a + 1 : Nat) : Int)) none).length ≤ sizeLine
          exact sm _ (by omega)
        · rw [et']; exact fin _ _ (t1.app t3) (by decide)
      · refine ⟨_, rfl, k0.wd, rfl, sW, sm _ (by omega), fun t et => ⟨_, rfl, k0.wd, rfl, sW, ?_, fun t' et' => ?_⟩⟩
        · rw [et, app_len]
          show (cutS k0.wd none (some (a : Int))).length + sn.length + (cutS k0.wd (some ((a + 1 : Nat) : Int)) none).length ≤ sizeLine
          exact sm _ (by omega)
        · rw [et', et]; exact fin _ _ ((t1.app (sg.wide (Nat.zero_le _) (Nat.le_refl _))).app t3) (by decide)
      · refine ⟨sm _ (by omega), fun t et => ?_⟩
        rw [et]; exact fin _ _ ((wt.wide (Nat.zero_le _) (Nat.le_refl _)).app (sg.wide (Nat.zero_le _) (Nat.le_refl _))) (by decide)
      · exact fin "" 0 (.lit _ (by decide +kernel)) (by decide)
      · refine ⟨sz, fun l2 nl2 => ?_⟩
        have S6 := (S5.new (o := .lst (([] : List Str).map V.str)) nl2).sw
        refine ⟨G1, M, b, o5, l2, [], rfl, S6, B5, fun z hz => (nomatch hz), by decide, fun z o7 H7 lt _ _ _ B7 S7 => ?_⟩
        exact ⟨z, o7, G1, rfl, (lt_tx lt).wide (by decide) (by decide), Same.refl _, B7, S7.sw.drop⟩
    · obtain ⟨z, o7, G7, rfl, tz, s7, B7, S7⟩ := h
      refine ⟨rfl, fun l8 nl8 => ?_⟩
      obtain ⟨G8, s8, S8, h8⟩ := Sep.mk (o := .lst (wds.map V.str)) S7 nl8
      refine ⟨l8, _, rfl, .inl (SqL.of (S8.st h8)), rfl, strs_flat _, fun e1 => ?_, fun e1 => ?_⟩
      · have hw : z ∈ wds := by
          have e2 : (if false = true then !inV (V.str z) (wds.map V.str) else inV (V.str z) (wds.map V.str)) = true := e1
          rw [if_neg (by decide), inV_str] at e2
          exact of_decide_eq_true e2
        obtain ⟨k9, rfl⟩ := wds_kd hw
        have w9 := wd_tx k9
        have h9 := w9.hi
        refine ⟨small (by show k9.wd.length + 1 ≤ 100000; omega), fun t et => ?_⟩
        rw [et]
        exact q _ o7 G8 _ (s1.trans (s7.trans s8)) (not_wd (wd_a k9)) (((w9.wide (Nat.zero_le _) (Nat.le_refl _)).app (Tx.lit (a := 0) (b := 1) ("a" : Str) (by decide +kernel))).wide (Nat.le_refl _) (by decide)) (B7.same s8) S8
      · have hw : z ∉ wds := by
          have e2 : (if false = true then !inV (V.str z) (wds.map V.str) else inV (V.str z) (wds.map V.str)) = false := e1
          rw [if_neg (by decide), inV_str] at e2
          exact of_decide_eq_false e2
        exact q _ o7 G8 _ (s1.trans (s7.trans s8)) (not_wd hw) tz (B7.same s8) S8
def spRefused : Sp := fun vs H Q _ => ∃ (G : Hp) (M : List (Addr × HO)) (z : Str), vs = [.str z] ∧ Sep G M H ∧ (∀ k : Kd, z ≠ k.wd) ∧ Tx 0 20 z ∧ ∀ G' H', Same G G' → Sep G' M H' → Q (.bl true) H'
theorem ok_refused (T : Top K mg w) (pf : PySem.XExc.PF P T.x_file) {k : Nat} (G_fence_of : FnOk P w K mg base (L2.CX P w) k T.a_fence_of T.d_fence_of ["word"] (spFenceX T.C_BadFence)) :
    FnOk P w K mg base CX0 (k + 1) T.a_refused T.d_refused ["_law_word"] spRefused := by
  refine T.F_refused.ok sc_refused (fun vs H Q E h => ?_) (fun cdv A outer s H vs Q E hr h => ?_)
  · obtain ⟨G, M, z, rfl, _⟩ := h
    rfl
  · obtain ⟨G, M, z, rfl, S, hz, tx, q⟩ := h
    refine ⟨_, (pss_cons (ps_try_as (i := 1) (Wout := fun _ _ _ _ => False) rfl rfl sc_refused.nd rfl rfl ⟨rfl, by decide, Or.inl T.g_BadFence⟩ takes0
      (fun W pn xe tk _ => (pss_one (ps_expr (pe_callS G_fence_of (hr.mono (by omega)) (by rfl) T.g_fence_of T.F_fence_of.kp T.b_fence_of (fun σ => passAt tk σ) (pa_cons (xv 0) pa_nil)))))
      (fun a oe cls d pn hz hf => (pss_cons (xs_if (PW.pt (xw_or (xt_truK K (pe_callB (call_isX hz hf) (by rfl) T.m_isinstance (by decide +kernel) (pa_cons (xv 1) (pa_cons (pe_glob (v := .ref T.C_NoAnswer) (by rfl) T.g_NoAnswer rfl) pa_nil)))) (xw_or (pt_not (xt_truK K (pe_callB (call_isX hz hf) (by rfl) T.m_isinstance (by decide +kernel) (pa_cons (xv 1) (pa_cons (pe_glob (v := .ref T.C_ScreenError) (by rfl) T.g_ScreenError rfl) pa_nil))))) (pw_or1 (pt_not (xt_truK K (pe_callB (call_isX hz hf) (by rfl) T.m_isinstance (by decide +kernel) (pa_cons (xv 1) (pa_cons (pe_bltn (v := .ty "ValueError") (by rfl) T.m_ValueError (by decide +kernel) rfl) pa_nil)))))))))
      (pss_one (ps_ret pe_bl))
      pss_nil)
      (pss_one (ps_ret (pe_cmpR (op_eqLK K hr.u190) (pe_xf T.xf_BadFence (T.x_BadFence P pf).noN hz hf (xv 1)) (xv 0) (nomark _)))))))
      (pss_one (ps_ret pe_bl))), ?_⟩
    refine ⟨z, rfl, hz, tx.rp (by decide), fun dd ndd => ?_⟩
    have S1 := S.newG (o := .xd [("fence", .str z)]) ndd
    have s1 := S.grow (o := .xd [("fence", .str z)]) ndd
    refine ⟨true, T.em_BadFence_BadFence, fun _ a na => ?_, tt⟩
    have hd1 : (upd G dd (.xd [("fence", .str z)])) dd = some (.xd [("fence", .str z)]) := upd_same
    generalize upd G dd (.xd [("fence", .str z)]) = G1 at *
    refine ⟨T.C_BadFence, dd, _, false, rfl, rfl, S1.st hd1, T.xc_BadFence, .inl ⟨_, _, rfl, fun u r => r, T.ki_BadFence_NoAnswer⟩, ⟨ff, fun _ => ?_⟩⟩
    refine ⟨T.C_BadFence, dd, _, true, rfl, rfl, S1.st hd1, T.xc_BadFence, .inl ⟨_, _, rfl, fun u r => r, T.ky_BadFence_ScreenError⟩, ⟨ff, fun _ => ?_⟩⟩
    refine ⟨T.C_BadFence, dd, _, true, rfl, rfl, S1.st hd1, T.xc_BadFence, .inl ⟨_, _, rfl, fun u r => r, T.kv_BadFence⟩, ⟨ff, fun _ => ?_⟩⟩
    refine ⟨rfl, rfl, dd, _, _, rfl, S1.st hd1, lk_eq, ?_⟩
    have q2 := q _ _ s1 S1
    rw [← decide_eq_true (rfl : z = z)] at q2
    exact q2

end
end K45
set_option Elab.async false
set_option linter.all false
set_option maxRecDepth 100000
set_option maxHeartbeats 4000000
namespace K45
open PySem PySem.Spec PyProof.Rows L2 XL
section
variable {P : Program} {w : World} {K : PySem.W.Frag} {mg : Str → Option Value} {base : Heap}
/-! ### the fences asked -/
def FcAt (c : Kd → Addr) (G : Hp) (v : V) (k : Kd) : Prop := ∃ p u, v = .ref p ∧ G p = some (.tup [.str k.wd, u]) ∧ FnAt c G u k
theorem FcAt.same {c : Kd → Addr} {G G' : Hp} {v : V} {k : Kd} (e : Same G G') (h : FcAt c G v k) : FcAt c G' v k := let ⟨p, u, h1, h2, h3⟩ := h; ⟨p, u, h1, e _ _ h2, h3.same e⟩
theorem f_lt {k : Kd} {r : Rw} {wh qu tk : Int} {a b c : Bool} (h1 : decide (r.who = wh) = a) (h2 : decide (r.qu = qu) = b) (h3 : decide (r.tk = tk) = c) : k.f r wh qu tk = k.lt a b c := by
  subst h1
  subst h2
  subst h3
  cases k <;> rfl
/-- the row, its own place as data -/
structure RwD (K : PySem.W.Frag) (G : Hp) (r : Rw) (d : PyData) : Prop where
  dp : Dp K G r.ow d
  lay : d.canLay0 = true
  dep : d.depth ≤ 10
  wd : PyData.canLay0 (.str r.wd) = true
  who : 0 ≤ r.who
  tk : 0 ≤ r.tk
  q0 : 0 ≤ r.qu
  q3 : r.qu ≤ 3
theorem RwD.same {K : PySem.W.Frag} {G G' : Hp} {r : Rw} {d : PyData} (e : Same G G') (h : RwD K G r d) : RwD K G' r d := ⟨dp_same e h.dp, h.lay, h.dep, h.wd, h.who, h.tk, h.q0, h.q3⟩
def rowD (r : Rw) (d : PyData) : PyData := .tuple [d, .str r.wd, .int r.who, .int r.tk, .int r.qu, .int r.an]
theorem row_dp {K : PySem.W.Frag} {G : Hp} {r : Rw} {d : PyData} {t : Addr} (h : RwD K G r d) (ht : G t = some (.tup r.tup)) : Dp K G (.ref t) (rowD r d) :=
  .tup (SqT.of ht) (.cons h.dp (.cons (.str _) (.cons (.int _) (.cons (.int _) (.cons (.int _) (.cons (.int _) .nil))))))
def spAsked (c : Kd → Addr) (Ce : Addr) (K : PySem.W.Frag) : Sp := fun vs H Q _ => ∃ (G : Hp) (M : List (Addr × HO)) (b : Addr) (o : HO) (l : Addr) (ws : List V) (ks : List Kd) (v : V) (rw : Addr) (r : Rw) (d : PyData), vs = [.ref b, .ref l, v, .ref rw] ∧ Sep G ((b, o) :: M) H ∧ Bag G o ∧
  G l = some (.lst ws) ∧ Paired (FcAt c G) ws ks ∧ EnAt G Ce v r ∧ G rw = some (.tup r.tup) ∧ RwD K G r d ∧ ∀ (o' : HO) (G' H' : Hp), Same G G' → Bag G' o' → Sep G' ((b, o') :: M) H' → Q (.bl true) H'
theorem ok_asked (T : Top K mg w) {k : Nat} (G_pick : FnOk P w K mg base CX0 k T.a_pick T.d_pick ["_law_bag_here", "_law_many"] spPick) (G_cases : FnOk P w K mg base CX0 k T.a_cases T.d_cases [] spCases) (G_lets : FnOk P w K mg base CX0 k T.a_lets T.d_lets ["_law_word", "_law_own", "_law_same", "_law_last"] spLLets)
    (G_other : FnOk P w K mg base CX0 k T.a_other T.d_other ["_law_bag_here", "_law_number"] spOther) (G_truth : FnOk P w K mg base CX0 k T.a_truth T.d_truth ["_law_told", "_law_due"] spTruth) (G_fields : FnOk P w K mg base CX0 k T.a_fields T.d_fields ["_law_entry_here"] (spFields T.C_Entry))
    (G_Fence_lets : FnOk P w K mg base CX0 k T.a_Fence_lets T.d_Fence_lets ["self", "entry", "who", "question", "ticket"] (fun vs H Q E => ∃ C, spLets C T.C_Entry ltA vs H Q E)) (G_Own_lets : FnOk P w K mg base CX0 k T.a_Own_lets T.d_Own_lets ["self", "entry", "who", "question", "ticket"] (spLets T.C_Own T.C_Entry ltO))
    (G_Same_lets : FnOk P w K mg base CX0 k T.a_Same_lets T.d_Same_lets ["self", "entry", "who", "question", "ticket"] (spLets T.C_Same T.C_Entry ltS)) (G_Both_lets : FnOk P w K mg base CX0 k T.a_Both_lets T.d_Both_lets ["self", "entry", "who", "question", "ticket"] (spLets T.C_Both T.C_Entry ltB)) (G_Last_lets : FnOk P w K mg base CX0 k T.a_Last_lets T.d_Last_lets ["self", "entry", "who", "question", "ticket"] (spLets T.C_Last T.C_Entry ltL)) :
    FnOk P w K mg base CX0 (k + 1) T.a_asked T.d_asked ["_law_bag_here", "_law_fences", "_law_entry_here", "_law_row"] (spAsked (kc T) T.C_Entry K) := by
  refine T.F_asked.ok sc_asked (fun vs H Q E h => ?_) (fun cdv A outer s H vs Q E hr h => ?_)
  · obtain ⟨G, M, b, o, l, ws, ks, v, rw, r, d, rfl, _⟩ := h
    rfl
  · obtain ⟨G, M, b, o, l, ws, ks, v, rw, r, d, rfl, S, B, hl, pw, en, hrw, rd, q⟩ := h
    refine ⟨_, (pss_cons (ps_for PassesOwn.never rfl (pi_listK K (pe_call0 G_cases (hr.mono (by omega)) (by rfl) T.g_cases T.F_cases.kp T.b_cases .nil pass0)) (pg_tupK K 3 (pgs_cons (pg_name (i := 4) sc_asked.nd rfl (.inl rfl)) (pgs_cons (pg_name (i := 5) sc_asked.nd rfl (.inl rfl)) (pgs_cons (pg_name (i := 6) sc_asked.nd rfl (.inl rfl)) pgs_nil))))
      (pss_cons (ps_set (i := 7) sc_asked.nd rfl (.inl rfl) (pe_ix (ix_k K) (xv 3) pe_int (fun _ _ => rfl)))
      (pss_cons (ps_set (i := 8) sc_asked.nd rfl (.inl rfl) (pe_ix (ix_k K) (xv 3) pe_int (fun _ _ => rfl)))
      (pss_cons (ps_set (i := 9) sc_asked.nd rfl (.inl rfl) (pe_ix (ix_k K) (xv 3) pe_int (fun _ _ => rfl)))
      (xss_cut (xs_if (pt_not (xt_truK K (xv 4)))
      (pss_one (ps_set (i := 7) sc_asked.nd rfl (.inl rfl) (pe_call G_other (hr.mono (by omega)) (by rfl) T.g_other T.F_other.kp T.b_other .nil pass0 (pa_cons (xv 0) (pa_cons (xv 7) pa_nil)))))
      pss_nil)
      (xss_cut (xs_if (pt_not (xt_truK K (xv 5)))
      (pss_one (ps_set (i := 8) sc_asked.nd rfl (.inl rfl) (pe_op op_modY (pe_callTy cr_int (by rfl) T.m_int (by decide +kernel) (pa_cons (pe_op op_addY (pe_op op_addY (xv 8) pe_int) (pe_call G_pick (hr.mono (by omega)) (by rfl) T.g_pick T.F_pick.kp T.b_pick .nil pass0 (pa_cons (xv 0) (pa_cons pe_int pa_nil)))) pa_nil)) pe_int)))
      pss_nil)
      (xss_cut (xs_if (pt_not (xt_truK K (xv 6)))
      (pss_one (ps_set (i := 9) sc_asked.nd rfl (.inl rfl) (pe_call G_other (hr.mono (by omega)) (by rfl) T.g_other T.F_other.kp T.b_other .nil pass0 (pa_cons (xv 0) (pa_cons (xv 9) pa_nil)))))
      pss_nil)
      (pss_one (ps_for PassesOwn.never rfl (pi_listK K (xv 1)) (pg_tupK K 2 (pgs_cons (pg_name (i := 10) sc_asked.nd rfl (.inl rfl)) (pgs_cons (pg_name (i := 11) sc_asked.nd rfl (.inl rfl)) pgs_nil)))
      (pss_cons (ps_set (i := 12) sc_asked.nd rfl (.inl rfl) (pe_call G_lets (hr.mono (by omega)) (by rfl) T.g_lets T.F_lets.kp T.b_lets .nil pass0 (pa_cons (xv 10) (pa_cons (xv 4) (pa_cons (xv 5) (pa_cons (xv 6) pa_nil))))))
      (pss_one (xs_if (pt_not (xt_truK K (pe_call G_truth (hr.mono (by omega)) (by rfl) T.g_truth T.F_truth.kp T.b_truth .nil pass0 (pa_cons (pe_or (pe_meth (xv 11) T.cl_Fence T.me_Fence_lets G_Fence_lets (hr.mono (by omega)) T.b_Fence_lets .nil pass0 (pa_cons (xv 2) (pa_cons (xv 7) (pa_cons (xv 8) (pa_cons (xv 9) pa_nil))))) (pe_or (pe_meth (xv 11) T.cl_Own T.me_Own_lets G_Own_lets (hr.mono (by omega)) T.b_Own_lets .nil pass0 (pa_cons (xv 2) (pa_cons (xv 7) (pa_cons (xv 8) (pa_cons (xv 9) pa_nil))))) (pe_or (pe_meth (xv 11) T.cl_Same T.me_Same_lets G_Same_lets (hr.mono (by omega)) T.b_Same_lets .nil pass0 (pa_cons (xv 2) (pa_cons (xv 7) (pa_cons (xv 8) (pa_cons (xv 9) pa_nil))))) (pe_or (pe_meth (xv 11) T.cl_Both T.me_Both_lets G_Both_lets (hr.mono (by omega)) T.b_Both_lets .nil pass0 (pa_cons (xv 2) (pa_cons (xv 7) (pa_cons (xv 8) (pa_cons (xv 9) pa_nil))))) (pe_meth (xv 11) T.cl_Last T.me_Last_lets G_Last_lets (hr.mono (by omega)) T.b_Last_lets .nil pass0 (pa_cons (xv 2) (pa_cons (xv 7) (pa_cons (xv 8) (pa_cons (xv 9) pa_nil))))))))) (pa_cons (xv 12) pa_nil)))))
      (pss_one (ps_ret pe_bl))
      pss_nil))))))))))))
      (pss_one (ps_ret (pe_cmpR (op_eqLK K hr.u190) (pe_call G_fields (hr.mono (by omega)) (by rfl) T.g_fields T.F_fields.kp T.b_fields .nil pass0 (pa_cons (xv 2) pa_nil)) (xv 3) (nomark _))))), ?_⟩
    obtain ⟨e, de, rfl, he, how⟩ := id en
    refine ⟨G, _, rfl, S, fun lc wc G1 H1 s1 hlc pc S1 => ?_⟩
    refine ⟨lc, rfl, ⟨_, SqL.of (S1.st hlc)⟩, for_list (xs := wc) (fun i σ H' => ∃ (y4 y5 y6 y7 y8 y9 y10 y11 y12 : Option V) (o' : HO) (G' : Hp), σ = [some (.ref b), some (.ref l), some (.ref e), some (.ref rw), y4, y5, y6, y7, y8, y9, y10, y11, y12] ∧ Same G1 G' ∧ Bag G' o' ∧ Sep G' ((b, o') :: M) H')
      ⟨_, _, _, _, _, _, _, _, _, o, G1, rfl, Same.refl _, B.same s1, S1⟩ (fun i σ H' _ h => ?_) (fun i y σ H' hy h => ?_) (fun σ H' h => ?_)⟩
    · obtain ⟨_, _, _, _, _, _, _, _, _, _, G', _, s', _, S'⟩ := h
      exact SqL.of (S'.st (s' _ _ hlc))
    · obtain ⟨y4, y5, y6, y7, y8, y9, y10, y11, y12, o2, G2, rfl, s2, B2, S2⟩ := h
      obtain ⟨x, hx, p, rfl, hp⟩ := prd_get pc hy
      have s02 := s1.trans s2
      refine ⟨p, _, rfl, SqT.of (S2.st (s2 _ _ hp)), rfl, _, _, rfl, _, _, rfl, _, _, rfl, rfl, ?_⟩
      have hT := SqT.of (K := K) (S2.st (s02 _ _ hrw))
      refine ⟨_, _, .inr hT, atI_nat (j := 2) rfl, _, _, .inr hT, atI_nat (j := 4) rfl, _, _, .inr hT, atI_nat (j := 3) rfl, ?_⟩
      -- who
      refine ⟨fun σ H' => ∃ (wh : Int) (o' : HO) (G' : Hp), σ = [some (.ref b), some (.ref l), some (.ref e), some (.ref rw), some (.bl x.1), some (.bl x.2.1), some (.bl x.2.2), some (.int wh), some (.int r.qu), some (.int r.tk), y10, y11, y12] ∧ decide (r.who = wh) = x.1 ∧ Same G2 G' ∧ Bag G' o' ∧ Sep G' ((b, o') :: M) H', ⟨fun e1 => ?_, fun e1 => ?_⟩, fun σ H3 h => ?_⟩
      · refine ⟨G2, M, b, o2, r.who, rfl, S2, B2, rd.who, fun m o' G' H' s' ne B' S' => ⟨m, o', G', rfl, ?_, s', B', S'⟩⟩
        rw [show x.1 = false by simpa using e1]
        exact decide_eq_false (Ne.symm ne)
      · refine ⟨r.who, o2, G2, rfl, ?_, Same.refl _, B2, S2⟩
        rw [show x.1 = true by simpa using e1]
        exact decide_eq_true rfl
      obtain ⟨wh, o3, G3, rfl, dw, s3, B3, S3⟩ := h
      -- question
      refine ⟨fun σ H' => ∃ (qu : Int) (o' : HO), σ = [some (.ref b), some (.ref l), some (.ref e), some (.ref rw), some (.bl x.1), some (.bl x.2.1), some (.bl x.2.2), some (.int wh), some (.int qu), some (.int r.tk), y10, y11, y12] ∧ decide (r.qu = qu) = x.2.1 ∧ Bag G3 o' ∧ Sep G3 ((b, o') :: M) H', ⟨fun e1 => ?_, fun e1 => ?_⟩, fun σ H4 h => ?_⟩
      · refine ⟨G3, M, b, o3, 3, rfl, S3, B3, by decide, by decide, fun r3 o4 H4 r30 r31 B4 S4 => ?_⟩
        refine ⟨by decide, fun m em m0 m1 => ⟨m, o4, rfl, ?_, B4, S4⟩⟩
        rw [show x.2.1 = false by simpa using e1]
        have := rd.q0
        have := rd.q3
        exact decide_eq_false (by omega)
      · refine ⟨r.qu, o3, rfl, ?_, B3, S3⟩
        rw [show x.2.1 = true by simpa using e1]
        exact decide_eq_true rfl
      obtain ⟨qu, o4, rfl, dq, B4, S4⟩ := h
      -- ticket
      refine ⟨fun σ H' => ∃ (tk : Int) (o' : HO) (G' : Hp), σ = [some (.ref b), some (.ref l), some (.ref e), some (.ref rw), some (.bl x.1), some (.bl x.2.1), some (.bl x.2.2), some (.int wh), some (.int qu), some (.int tk), y10, y11, y12] ∧ decide (r.tk = tk) = x.2.2 ∧ Same G3 G' ∧ Bag G' o' ∧ Sep G' ((b, o') :: M) H', ⟨fun e1 => ?_, fun e1 => ?_⟩, fun σ H5 h => ?_⟩
      · refine ⟨G3, M, b, o4, r.tk, rfl, S4, B4, rd.tk, fun m o' G' H' s' ne B' S' => ⟨m, o', G', rfl, ?_, s', B', S'⟩⟩
        rw [show x.2.2 = false by simpa using e1]
        exact decide_eq_false (Ne.symm ne)
      · refine ⟨r.tk, o4, G3, rfl, ?_, Same.refl _, B4, S4⟩
        rw [show x.2.2 = true by simpa using e1]
        exact decide_eq_true rfl
      obtain ⟨tk, o5, G5, rfl, dt, s5, B5, S5⟩ := h
      have s05 := s02.trans (s3.trans s5)
      refine ⟨l, rfl, ⟨_, SqL.of (S5.st (s05 _ _ hl))⟩, for_list (xs := ws) (fun j σ H' => ∃ (y10 y11 y12 : Option V), σ = [some (.ref b), some (.ref l), some (.ref e), some (.ref rw), some (.bl x.1), some (.bl x.2.1), some (.bl x.2.2), some (.int wh), some (.int qu), some (.int tk), y10, y11, y12] ∧ Sep G5 ((b, o5) :: M) H')
        ⟨_, _, _, rfl, S5⟩ (fun j σ H' _ h => ?_) (fun j y σ H' hy h => ?_) (fun σ H' h => ?_)⟩
      · obtain ⟨_, _, _, _, S'⟩ := h
        exact SqL.of (S'.st (s05 _ _ hl))
      · obtain ⟨y10, y11, y12, rfl, S6⟩ := h
        obtain ⟨k1, hk1, p1, u1, rfl, hp1, x1, dx1, rfl, hx1⟩ := prd_get pw hy
        refine ⟨p1, _, rfl, SqT.of (S6.st (s05 _ _ hp1)), rfl, _, _, rfl, _, _, rfl, rfl, ?_⟩
        refine ⟨k1, x.1, x.2.1, x.2.2, rfl, ?_⟩
        refine lets5 T (fun R h => h) (fun R h => h) (S6.st (s05 _ _ hx1)) (S6.st (s05 _ _ he)) ?_
        refine ⟨_, _, rfl, ?_⟩
        rw [f_lt dw dq dt, decide_eq_true rfl]
        exact ⟨ff, fun _ => ⟨_, _, _, rfl, S6⟩⟩
      · obtain ⟨y10, y11, y12, rfl, S6⟩ := h
        exact ⟨_, _, _, _, _, _, _, _, _, o5, G5, rfl, s2.trans (s3.trans s5), B5, S6⟩
    · obtain ⟨y4, y5, y6, y7, y8, y9, y10, y11, y12, o2, G2, rfl, s2, B2, S2⟩ := h
      have s02 := s1.trans s2
      refine ⟨G2, _, _, r, rfl, S2, en.same s02, fun t G3 H3 s3 ht S3 => ?_⟩
      have s03 := s02.trans s3
      have rd3 := rd.same s03
      obtain ⟨cl, dp⟩ := row_lay rd.lay rd.dep rd.wd (r := r)
      refine ⟨rowD r d, rowD r d, dp_same S3.1 (row_dp rd3 ht), dp_same S3.1 (row_dp rd3 (s03 _ _ hrw)), cl, cl, dp, ?_⟩
      have ee : (rowD r d).eqv (rowD r d) = true := SeqAt.eqv_refl _ cl
      rw [ee]
      exact q o2 G3 _ s03 (B2.same s3) S3

end
end K45
set_option Elab.async false
set_option linter.all false
set_option maxRecDepth 100000
set_option maxHeartbeats 4000000
namespace K45
open PySem PySem.Spec PyProof.Rows L2 XL
section
variable {P : Program} {w : World} {K : PySem.W.Frag} {mg : Str → Option Value} {base : Heap}
/-! ### their classes -/
/-- k's class is c's or below it -/
def Kd.isa : Kd → Kd → Bool
  | .a, .a => true
  | .o, .a => true
  | .o, .o => true
  | .s, .a => true
  | .s, .s => true
  | .b, .a => true
  | .b, .o => true
  | .b, .s => true
  | .b, .b => true
  | .l, .a => true
  | .l, .l => true
  | _, _ => false
theorem ki (T : Top K mg w) (k c : Kd) : PySem.W.kitOne K (.ref (kc T k)) (.ref (kc T c)) = some (k.isa c) := by
  cases k <;> cases c
  · exact T.ki_Fence_Fence
  · exact T.ki_Fence_Own
  · exact T.ki_Fence_Same
  · exact T.ki_Fence_Both
  · exact T.ki_Fence_Last
  · exact T.ki_Own_Fence
  · exact T.ki_Own_Own
  · exact T.ki_Own_Same
  · exact T.ki_Own_Both
  · exact T.ki_Own_Last
  · exact T.ki_Same_Fence
  · exact T.ki_Same_Own
  · exact T.ki_Same_Same
  · exact T.ki_Same_Both
  · exact T.ki_Same_Last
  · exact T.ki_Both_Fence
  · exact T.ki_Both_Own
  · exact T.ki_Both_Same
  · exact T.ki_Both_Both
  · exact T.ki_Both_Last
  · exact T.ki_Last_Fence
  · exact T.ki_Last_Own
  · exact T.ki_Last_Same
  · exact T.ki_Last_Both
  · exact T.ki_Last_Last
theorem ty5 (T : Top K mg w) {H : Hp} {x dx : Addr} (k : Kd) (h : H x = some (.ins (kc T k) dx [])) : TyOf K H (.ref x) (.ref (kc T k)) := by
  cases k with
  | a => exact .ins h T.cl_Fence T.ty_Fence.1 T.ty_Fence.2.1 T.ty_Fence.2.2.1 T.ty_Fence.2.2.2.1
  | o => exact .ins h T.cl_Own T.ty_Own.1 T.ty_Own.2.1 T.ty_Own.2.2.1 T.ty_Own.2.2.2.1
  | s => exact .ins h T.cl_Same T.ty_Same.1 T.ty_Same.2.1 T.ty_Same.2.2.1 T.ty_Same.2.2.2.1
  | b => exact .ins h T.cl_Both T.ty_Both.1 T.ty_Both.2.1 T.ty_Both.2.2.1 T.ty_Both.2.2.2.1
  | l => exact .ins h T.cl_Last T.ty_Last.1 T.ty_Last.2.1 T.ty_Last.2.2.1 T.ty_Last.2.2.2.1
theorem isa_l (k : Kd) : k.isa .l = decide (k.wd = ("last" : Str)) := by cases k <;> decide +kernel
theorem isa_o (k : Kd) (h : k.wd ≠ ("last" : Str)) : k.isa .o = decide (k.wd ∈ (["own", "both"] : List Str)) := by
  cases k with
  | l => exact absurd rfl h
  | _ => decide +kernel
theorem isa_s (k : Kd) (h : k.wd ≠ ("last" : Str)) : k.isa .s = decide (k.wd ∈ (["same", "both"] : List Str)) := by
  cases k with
  | l => exact absurd rfl h
  | _ => decide +kernel
theorem isa_b (k : Kd) (h : k.wd ≠ ("last" : Str)) : k.isa .b = decide (k.wd = ("both" : Str)) := by
  cases k with
  | l => exact absurd rfl h
  | _ => decide +kernel
def spClasses (c : Kd → Addr) : Sp := fun vs H Q _ => ∃ (G : Hp) (M : List (Addr × HO)) (l : Addr) (ws : List V) (ks : List Kd), vs = [.ref l] ∧ Sep G M H ∧ G l = some (.lst ws) ∧ Paired (FcAt c G) ws ks ∧ ∀ (G' H' : Hp), Same G G' → Sep G' M H' → Q (.bl true) H'
theorem ok_classes (T : Top K mg w) {k : Nat} : FnOk P w K mg base CX0 (k + 1) T.a_classes T.d_classes ["_law_fences"] (spClasses (kc T)) := by
  refine T.F_classes.ok sc_classes (fun vs H Q E h => ?_) (fun cdv A outer s H vs Q E hr h => ?_)
  · obtain ⟨G, M, l, ws, ks, rfl, _⟩ := h
    rfl
  · obtain ⟨G, M, l, ws, ks, rfl, S, hl, pw, q⟩ := h
    refine ⟨_, (pss_cons (ps_for PassesOwn.never rfl (pi_listK K (xv 0)) (pg_tupK K 2 (pgs_cons (pg_name (i := 1) sc_classes.nd rfl (.inl rfl)) (pgs_cons (pg_name (i := 2) sc_classes.nd rfl (.inl rfl)) pgs_nil)))
      (pss_cons (xs_if (PW.pt (xw_or (pt_not (xt_truK K (pe_callB (call_isK K) (by rfl) T.m_isinstance (by decide +kernel) (pa_cons (xv 2) (pa_cons (pe_glob (v := .ref T.C_Fence) (by rfl) T.g_Fence rfl) pa_nil))))) (pw_or1 (xt_cmp (op_neLK K hr.u190) (pe_callB (call_isK K) (by rfl) T.m_isinstance (by decide +kernel) (pa_cons (xv 2) (pa_cons (pe_glob (v := .ref T.C_Last) (by rfl) T.g_Last rfl) pa_nil))) (pe_cmpR (op_eqLK K hr.u190) (xv 1) pe_str (nomark _)) (nomark _)))))
      (pss_one (ps_ret pe_bl))
      pss_nil)
      (xss_cut (xs_if (PW.pt (xw_and (xt_cmp (op_neLK K hr.u190) (xv 1) pe_str (nomark _)) (pw_and1 (xt_cmp (op_neLK K hr.u190) (pe_callB (call_isK K) (by rfl) T.m_isinstance (by decide +kernel) (pa_cons (xv 2) (pa_cons (pe_glob (v := .ref T.C_Own) (by rfl) T.g_Own rfl) pa_nil))) (pe_cmpR (in_seqK K) (xv 1) (pe_tup (pa_cons pe_str (pa_cons pe_str pa_nil))) (by rfl)) (nomark _)))))
      (pss_one (ps_ret pe_bl))
      pss_nil)
      (xss_cut (xs_if (PW.pt (xw_and (xt_cmp (op_neLK K hr.u190) (xv 1) pe_str (nomark _)) (pw_and1 (xt_cmp (op_neLK K hr.u190) (pe_callB (call_isK K) (by rfl) T.m_isinstance (by decide +kernel) (pa_cons (xv 2) (pa_cons (pe_glob (v := .ref T.C_Same) (by rfl) T.g_Same rfl) pa_nil))) (pe_cmpR (in_seqK K) (xv 1) (pe_tup (pa_cons pe_str (pa_cons pe_str pa_nil))) (by rfl)) (nomark _)))))
      (pss_one (ps_ret pe_bl))
      pss_nil)
      (pss_one (xs_if (PW.pt (xw_and (xt_cmp (op_neLK K hr.u190) (xv 1) pe_str (nomark _)) (pw_and1 (xt_cmp (op_neLK K hr.u190) (pe_callB (call_isK K) (by rfl) T.m_isinstance (by decide +kernel) (pa_cons (xv 2) (pa_cons (pe_glob (v := .ref T.C_Both) (by rfl) T.g_Both rfl) pa_nil))) (pe_cmpR (op_eqLK K hr.u190) (xv 1) pe_str (nomark _)) (nomark _)))))
      (pss_one (ps_ret pe_bl))
      pss_nil))))))
      (pss_one (ps_ret pe_bl))), ?_⟩
    refine ⟨l, rfl, ⟨_, SqL.of (S.st hl)⟩, for_list (xs := ws) (fun i σ H' => ∃ (y1 y2 : Option V) (G' : Hp), σ = [some (.ref l), y1, y2] ∧ Same G G' ∧ Sep G' M H')
      ⟨_, _, G, rfl, Same.refl _, S⟩ (fun i σ H' _ h => ?_) (fun i y σ H' hy h => ?_) (fun σ H' h => ?_)⟩
    · obtain ⟨_, _, G', _, s', S'⟩ := h
      exact SqL.of (S'.st (s' _ _ hl))
    · obtain ⟨y1, y2, G1, rfl, s1, S1⟩ := h
      obtain ⟨k1, hk1, p1, u1, rfl, hp1, x1, dx1, rfl, hx1⟩ := prd_get pw hy
      refine ⟨p1, _, rfl, SqT.of (S1.st (s1 _ _ hp1)), rfl, _, _, rfl, _, _, rfl, rfl, ?_⟩
      have ty := fun (G' H' : Hp) (s' : Same G G') (S' : Sep G' M H') => ty5 T k1 (S'.st (s' _ _ hx1))
      have ia : k1.isa .a = true := by cases k1 <;> rfl
      refine ⟨_, _, _, _, k1.isa .a, rfl, .own _, .base (ty _ _ s1 S1), ki T k1 .a, ?_⟩
      rw [ia]
      refine ⟨ff, fun _ => ⟨_, _, _, _, k1.isa .l, rfl, .own _, .base (ty _ _ s1 S1), ki T k1 .l, ?_⟩⟩
      rw [isa_l]
      refine ⟨fun e => absurd e (by simp), fun _ => ?_⟩
      refine ⟨fun σ H' => ∃ (G' : Hp), σ = [some (.ref l), some (.str k1.wd), some (.ref x1)] ∧ Same G G' ∧ Sep G' M H', ⟨fun e => ?_, fun _ => ⟨ff, fun _ => ⟨G1, rfl, s1, S1⟩⟩⟩, fun σ H3 h => ?_⟩
      · have nl : k1.wd ≠ ("last" : Str) := fun z => by rw [z] at e; exact absurd e (by decide +kernel)
        refine ⟨_, _, _, _, k1.isa .o, rfl, .own _, .base (ty _ _ s1 S1), ki T k1 .o, sz, fun t nt => ?_⟩
        obtain ⟨G2, s2, S2, h2⟩ := Sep.mk (o := .tup ((["own", "both"] : List Str).map V.str)) S1 nt
        refine ⟨t, _, rfl, .inr (SqT.of (S2.st h2)), rfl, strs_flat _, ?_⟩
        refine ⟨fun e => ?_, fun _ => ⟨G2, rfl, s1.trans s2, S2⟩⟩
        have e2 : (!decide (k1.isa .o = (if false = true then !inV (V.str k1.wd) ((["own", "both"] : List Str).map V.str) else inV (V.str k1.wd) ((["own", "both"] : List Str).map V.str)))) = true := e
        rw [isa_o k1 nl, if_neg (by decide), inV_str] at e2
        simp at e2
      obtain ⟨G3, rfl, s3, S3⟩ := h
      refine ⟨fun σ H' => ∃ (G' : Hp), σ = [some (.ref l), some (.str k1.wd), some (.ref x1)] ∧ Same G G' ∧ Sep G' M H', ⟨fun e => ?_, fun _ => ⟨ff, fun _ => ⟨G3, rfl, s3, S3⟩⟩⟩, fun σ H5 h => ?_⟩
      · have nl : k1.wd ≠ ("last" : Str) := fun z => by rw [z] at e; exact absurd e (by decide +kernel)
        refine ⟨_, _, _, _, k1.isa .s, rfl, .own _, .base (ty _ _ s3 S3), ki T k1 .s, sz, fun t nt => ?_⟩
        obtain ⟨G4, s4, S4, h4⟩ := Sep.mk (o := .tup ((["same", "both"] : List Str).map V.str)) S3 nt
        refine ⟨t, _, rfl, .inr (SqT.of (S4.st h4)), rfl, strs_flat _, ?_⟩
        refine ⟨fun e => ?_, fun _ => ⟨G4, rfl, s3.trans s4, S4⟩⟩
        have e2 : (!decide (k1.isa .s = (if false = true then !inV (V.str k1.wd) ((["same", "both"] : List Str).map V.str) else inV (V.str k1.wd) ((["same", "both"] : List Str).map V.str)))) = true := e
        rw [isa_s k1 nl, if_neg (by decide), inV_str] at e2
        simp at e2
      obtain ⟨G5, rfl, s5, S5⟩ := h
      refine ⟨fun e => ?_, fun _ => ⟨ff, fun _ => ⟨_, _, G5, rfl, s5, S5⟩⟩⟩
      have nl : k1.wd ≠ ("last" : Str) := fun z => by rw [z] at e; exact absurd e (by decide +kernel)
      refine ⟨_, _, _, _, k1.isa .b, rfl, .own _, .base (ty _ _ s5 S5), ki T k1 .b, ?_⟩
      rw [isa_b k1 nl]
      exact ⟨fun e => absurd e (by simp), fun _ => ⟨_, _, G5, rfl, s5, S5⟩⟩
    · obtain ⟨y1, y2, G1, rfl, s1, S1⟩ := h
      exact q G1 _ s1 S1

end
end K45
set_option Elab.async false
set_option linter.all false
set_option maxRecDepth 100000
set_option maxHeartbeats 4000000
namespace K45
open PySem PySem.Spec PyProof.Rows L2 XL
section
variable {P : Program} {w : World} {K : PySem.W.Frag} {mg : Str → Option Value} {base : Heap}
/-! ### the law -/
theorem le25 (T : Top K mg w) (k1 k2 : Kd) : LeOk K (kc T k1) (kc T k2) := by
  cases k1 <;> cases k2
  · exact T.le_Fence_Fence
  · exact T.le_Fence_Own
  · exact T.le_Fence_Same
  · exact T.le_Fence_Both
  · exact T.le_Fence_Last
  · exact T.le_Own_Fence
  · exact T.le_Own_Own
  · exact T.le_Own_Same
  · exact T.le_Own_Both
  · exact T.le_Own_Last
  · exact T.le_Same_Fence
  · exact T.le_Same_Own
  · exact T.le_Same_Same
  · exact T.le_Same_Both
  · exact T.le_Same_Last
  · exact T.le_Both_Fence
  · exact T.le_Both_Own
  · exact T.le_Both_Same
  · exact T.le_Both_Both
  · exact T.le_Both_Last
  · exact T.le_Last_Fence
  · exact T.le_Last_Own
  · exact T.le_Last_Same
  · exact T.le_Last_Both
  · exact T.le_Last_Last
theorem ile (T : Top K mg w) (k : Kd) : PySem.W.findIn K (.ref (kc T k)) "__le__" = some (some (.ref T.a_Fence_le)) := by
  cases k
  · exact T.sp_Fence_le.1
  · exact T.ih_Own_le
  · exact T.ih_Same_le
  · exact T.ih_Both_le
  · exact T.ih_Last_le
def vS : V → Str
  | .str x => x
  | _ => ""
theorem perm_wds {ys : List V} {zs : List Str} (h : ys.Perm (zs.map V.str)) : ∃ us : List Str, ys = us.map V.str ∧ us.Perm zs := by
  refine ⟨ys.map vS, ?_, ?_⟩
  · rw [List.map_map]
    have e : ∀ y ∈ ys, (V.str ∘ vS) y = y := fun y hy => by
      obtain ⟨n, _, rfl⟩ := List.mem_map.mp (h.mem_iff.mp hy)
      rfl
    exact ((List.map_congr_left e).trans (List.map_id _)).symm
  · have h2 := h.map vS
    rw [List.map_map] at h2
    have e : zs.map (vS ∘ V.str) = zs := (List.map_congr_left fun _ _ => rfl).trans (List.map_id _)
    rw [e] at h2
    exact h2
theorem lay_tups {ds : List PyData} (h : ∀ d ∈ ds, ∃ n : Int, d = .tuple [.int n]) : (PyData.tuple ds).canLay0 = true ∧ (PyData.tuple ds).depth ≤ 10 := by
  refine ⟨?_, ?_⟩
  · simp only [PyData.canLay0]
    refine layAll fun d hd => ?_
    obtain ⟨n, rfl⟩ := h d hd
    rfl
  · simp only [PyData.depth]
    have := depthAll_le (n := 5) (xs := ds) fun d hd => by
      obtain ⟨n, rfl⟩ := h d hd
      simp only [PyData.depth, PyData.depthAll]
      omega
    omega
def spLaw (K : PySem.W.Frag) : Sp := fun vs H Q _ => ∃ (a : Addr) (ns : List Int), vs = [.ref a] ∧ SqL K H a (ns.map V.int) ∧ ns.length ≤ 63 ∧ ∀ H', Q (.bl true) H'
theorem ok_law (T : Top K mg w) {k : Nat} (G_bag : FnOk P w K mg base CX0 k T.a_bag T.d_bag ["_law_script"] (spBag K)) (G_pick : FnOk P w K mg base CX0 k T.a_pick T.d_pick ["_law_bag_here", "_law_many"] spPick) (G_mingled : FnOk P w K mg base CX0 k T.a_mingled T.d_mingled ["_law_bag_here", "_law_things"] (spMingled K))
    (G_words : FnOk P w K mg base CX0 k T.a_words T.d_words [] spWords) (G_fence_of : FnOk P w K mg base CX0 k T.a_fence_of T.d_fence_of ["word"] (spFenceG (kc T))) (G_classes : FnOk P w K mg base CX0 k T.a_classes T.d_classes ["_law_fences"] (spClasses (kc T)))
    (G_new_name : FnOk P w K mg base CX0 k T.a_new_name T.d_new_name ["_law_bag_here", "_law_used"] spNew) (G_any_number : FnOk P w K mg base CX0 k T.a_any_number T.d_any_number ["_law_bag_here"] spAnyN) (G_entry : FnOk P w K mg base CX0 k T.a_entry T.d_entry ["_law_bag_here", "_law_row"] (spEntry T.C_Entry))
    (G_Entry_init : FnOk P w K mg base CX0 k T.a_Entry_init T.d_Entry_init ["self", "owner", "word", "who", "ticket", "question", "answer"] (spEn T.C_Entry)) (G_fields : FnOk P w K mg base CX0 k T.a_fields T.d_fields ["_law_entry_here"] (spFields T.C_Entry)) (G_asked : FnOk P w K mg base CX0 k T.a_asked T.d_asked ["_law_bag_here", "_law_fences", "_law_entry_here", "_law_row"] (spAsked (kc T) T.C_Entry K))
    (G_none : FnOk P w K mg base CX0 k T.a_none T.d_none ["_law_bag_here"] spNone) (G_refused : FnOk P w K mg base CX0 k T.a_refused T.d_refused ["_law_word"] spRefused) (G_truth : FnOk P w K mg base CX0 k T.a_truth T.d_truth ["_law_told", "_law_due"] spTruth)
    (G_Fence_le : FnOk P w K mg base CX0 k T.a_Fence_le T.d_Fence_le ["self", "other"] (spLe (kc T))) (G_at_most : FnOk P w K mg base CX0 k T.a_at_most T.d_at_most ["_law_first", "_law_second"] spAtM) :
    FnOk P w K mg base CX0 (k + 2) T.a_law T.d_law ["_law_script"] (spLaw K) := by
  refine T.F_law.ok sc_law (fun vs H Q E h => ?_) (fun cdv A outer s H vs Q E hr h => ?_)
  · obtain ⟨a, ns, rfl, _⟩ := h
    rfl
  · obtain ⟨a, nn, rfl, ha, hl, q⟩ := h
    refine ⟨_, (pss_cons (ps_set (i := 1) sc_law.nd rfl (.inr rfl) (pe_call G_bag (hr.mono (by omega)) (by rfl) T.g_bag T.F_bag.kp T.b_bag .nil pass0 (pa_cons (xv 0) pa_nil)))
      (pss_cons (ps_set (i := 2) sc_law.nd rfl (.inl rfl) (pe_lst (pa_cons (pe_tup (pa_cons pe_str (pa_cons (pe_mk0 T.mk0_Fence (by rfl) T.g_Fence) pa_nil))) (pa_cons (pe_tup (pa_cons pe_str (pa_cons (pe_mk0 T.mk0_Own (by rfl) T.g_Own) pa_nil))) (pa_cons (pe_tup (pa_cons pe_str (pa_cons (pe_mk0 T.mk0_Same (by rfl) T.g_Same) pa_nil))) (pa_cons (pe_tup (pa_cons pe_str (pa_cons (pe_mk0 T.mk0_Both (by rfl) T.g_Both) pa_nil))) (pa_cons (pe_tup (pa_cons pe_str (pa_cons (pe_mk0 T.mk0_Last (by rfl) T.g_Last) pa_nil))) pa_nil)))))))
      (pss_cons (ps_for PassesOwn.never rfl (pi_listK K (pe_call G_mingled (hr.mono (by omega)) (by rfl) T.g_mingled T.F_mingled.kp T.b_mingled .nil pass0 (pa_cons (xv 1) (pa_cons (pe_call0 G_words (hr.mono (by omega)) (by rfl) T.g_words T.F_words.kp T.b_words .nil pass0) pa_nil)))) (pg_name (i := 3) sc_law.nd rfl (.inl rfl))
      (pss_one (ps_expr (pe_bmK K PySem.F.plainAttrs_list PySem.F.slot_list_append PySem.F.type_list_append mt_append (xv 2) (pa_cons (pe_tup (pa_cons (xv 3) (pa_cons (pe_call G_fence_of (hr.mono (by omega)) (by rfl) T.g_fence_of T.F_fence_of.kp T.b_fence_of .nil pass0 (pa_cons (xv 3) pa_nil)) pa_nil))) pa_nil)))))
      (pss_cons (xs_if (pt_not (xt_truK K (pe_call G_classes (hr.mono (by omega)) (by rfl) T.g_classes T.F_classes.kp T.b_classes .nil pass0 (pa_cons (xv 2) pa_nil))))
      (pss_one (ps_ret pe_bl))
      pss_nil)
      (pss_cons (ps_for PassesOwn.never rfl (pi_range1 (by rfl) T.m_range (pa_cons (pe_op op_addY pe_int (pe_call G_pick (hr.mono (by omega)) (by rfl) T.g_pick T.F_pick.kp T.b_pick .nil pass0 (pa_cons (xv 1) (pa_cons pe_int pa_nil)))) pa_nil)) (pg_name (i := 4) sc_law.nd rfl (.inl rfl))
      (pss_cons (ps_set (i := 3) sc_law.nd rfl (.inl rfl) (pe_call G_new_name (hr.mono (by omega)) (by rfl) T.g_new_name T.F_new_name.kp T.b_new_name .nil pass0 (pa_cons (xv 1) (pa_cons (pe_lst pa_nil) pa_nil))))
      (pss_cons (ps_set (i := 5) sc_law.nd rfl (.inl rfl) (pe_callTy (call_tupleK K) (by rfl) T.m_tuple (by decide +kernel) (pa_cons (pe_lc (own := [("_law_step", 12)]) (by rfl) sc_law.nd (pi_range1 (by rfl) T.m_range (pa_cons (pe_call G_pick (hr.mono (by omega)) (by rfl) T.g_pick T.F_pick.kp T.b_pick .nil pass0 (pa_cons (xv 1) (pa_cons pe_int pa_nil))) pa_nil)) (blkOk_by (N := ["_law_script", "_law_bag_here", "_law_made", "_law_word", "_law_turn", "_law_path", "_law_row", "_law_entry_here", "_law_first", "_law_one", "_law_second", "_law_two", "_law_step"]) (sc := defScope s_law) (by decide +kernel)) (fun _ _ _ _ _ => (pg_name (i := 12) sc_law.nd rfl (.inl rfl))) (fun _ _ _ _ _ => pts_nil) (fun _ _ _ _ _ => (pe_tup (pa_cons (pe_op op_addY pe_int (pe_call G_pick (hr.mono (by omega)) (by rfl) T.g_pick T.F_pick.kp T.b_pick .nil pass0 (pa_cons (xv 1) (pa_cons pe_int pa_nil)))) pa_nil)))) pa_nil)))
      (pss_cons (ps_set (i := 6) sc_law.nd rfl (.inl rfl) (pe_tup (pa_cons (xv 5) (pa_cons (xv 3) (pa_cons (pe_call G_any_number (hr.mono (by omega)) (by rfl) T.g_any_number T.F_any_number.kp T.b_any_number .nil pass0 (pa_cons (xv 1) pa_nil)) (pa_cons (pe_call G_pick (hr.mono (by omega)) (by rfl) T.g_pick T.F_pick.kp T.b_pick .nil pass0 (pa_cons (xv 1) (pa_cons pe_int pa_nil))) (pa_cons (pe_call G_pick (hr.mono (by omega)) (by rfl) T.g_pick T.F_pick.kp T.b_pick .nil pass0 (pa_cons (xv 1) (pa_cons pe_int pa_nil))) (pa_cons (pe_op op_addY pe_int (pe_call G_pick (hr.mono (by omega)) (by rfl) T.g_pick T.F_pick.kp T.b_pick .nil pass0 (pa_cons (xv 1) (pa_cons pe_int pa_nil)))) pa_nil))))))))
      (pss_cons (ps_set (i := 7) sc_law.nd rfl (.inl rfl) (pe_call G_entry (hr.mono (by omega)) (by rfl) T.g_entry T.F_entry.kp T.b_entry .nil pass0 (pa_cons (xv 1) (pa_cons (xv 6) pa_nil))))
      (xss_cut (xs_if (xt_cmp (op_eqLK K hr.u190) (pe_call G_pick (hr.mono (by omega)) (by rfl) T.g_pick T.F_pick.kp T.b_pick .nil pass0 (pa_cons (xv 1) (pa_cons pe_int pa_nil))) pe_int (nomark _))
      (pss_cons (ps_set (i := 6) sc_law.nd rfl (.inl rfl) (pe_tup (pa_cons (xv 5) (pa_cons (xv 3) (pa_cons (pe_ix (ix_k K) (xv 6) pe_int (fun _ _ => rfl)) (pa_cons (pe_call G_any_number (hr.mono (by omega)) (by rfl) T.g_any_number T.F_any_number.kp T.b_any_number .nil pass0 (pa_cons (xv 1) pa_nil)) (pa_cons (pe_ix (ix_k K) (xv 6) pe_int (fun _ _ => rfl)) (pa_cons (pe_ix (ix_k K) (xv 6) pe_int (fun _ _ => rfl)) pa_nil))))))))
      (pss_one (ps_set (i := 7) sc_law.nd rfl (.inl rfl) (pe_make T.mk_Entry G_Entry_init (hr.mono (by omega)) (by rfl) T.g_Entry T.b_Entry_init .nil pass0 (pa_cons (pe_ix (ix_k K) (xv 6) pe_int (fun _ _ => rfl)) (pa_cons (pe_ix (ix_k K) (xv 6) pe_int (fun _ _ => rfl)) (pa_cons (pe_ix (ix_k K) (xv 6) pe_int (fun _ _ => rfl)) (pa_cons (pe_ix (ix_k K) (xv 6) pe_int (fun _ _ => rfl)) (pa_cons (pe_ix (ix_k K) (xv 6) pe_int (fun _ _ => rfl)) (pa_cons (pe_ix (ix_k K) (xv 6) pe_int (fun _ _ => rfl)) pa_nil))))))))))
      pss_nil)
      (pss_one (xs_if (PW.pt (xw_or (xt_cmp (op_neLK K hr.u190) (pe_call G_fields (hr.mono (by omega)) (by rfl) T.g_fields T.F_fields.kp T.b_fields .nil pass0 (pa_cons (xv 7) pa_nil)) (xv 6) (nomark _)) (xw_or (pt_not (xt_truK K (pe_call G_asked (hr.mono (by omega)) (by rfl) T.g_asked T.F_asked.kp T.b_asked .nil pass0 (pa_cons (xv 1) (pa_cons (xv 2) (pa_cons (xv 7) (pa_cons (xv 6) pa_nil))))))) (pw_or1 (pt_not (xt_truK K (pe_call G_refused (hr.mono (by omega)) (by rfl) T.g_refused T.F_refused.kp T.b_refused .nil pass0 (pa_cons (pe_call G_none (hr.mono (by omega)) (by rfl) T.g_none T.F_none.kp T.b_none .nil pass0 (pa_cons (xv 1) pa_nil)) pa_nil))))))))
      (pss_one (ps_ret pe_bl))
      pss_nil))))))))
      (pss_cons (ps_for PassesOwn.never rfl (pi_listK K (xv 2)) (pg_tupK K 2 (pgs_cons (pg_name (i := 8) sc_law.nd rfl (.inl rfl)) (pgs_cons (pg_name (i := 9) sc_law.nd rfl (.inl rfl)) pgs_nil)))
      (pss_one (ps_for PassesOwn.never rfl (pi_listK K (xv 2)) (pg_tupK K 2 (pgs_cons (pg_name (i := 10) sc_law.nd rfl (.inl rfl)) (pgs_cons (pg_name (i := 11) sc_law.nd rfl (.inl rfl)) pgs_nil)))
      (pss_one (xs_if (pt_not (xt_truK K (pe_call G_truth (hr.mono (by omega)) (by rfl) T.g_truth T.F_truth.kp T.b_truth .nil pass0 (pa_cons (pe_cmpR (op_leO K G_Fence_le T.sp_Fence_le.2 T.b_Fence_le pass0 (hr.mono (by omega))) (xv 9) (xv 11) (nomark _)) (pa_cons (pe_call G_at_most (hr.mono (by omega)) (by rfl) T.g_at_most T.F_at_most.kp T.b_at_most .nil pass0 (pa_cons (xv 8) (pa_cons (xv 10) pa_nil))) pa_nil)))))
      (pss_one (ps_ret pe_bl))
      pss_nil)))))
      (pss_one (ps_ret (xe_and (pe_call G_refused (hr.mono (by omega)) (by rfl) T.g_refused T.F_refused.kp T.b_refused .nil pass0 (pa_cons pe_str pa_nil)) (pe_one (pe_call G_refused (hr.mono (by omega)) (by rfl) T.g_refused T.F_refused.kp T.b_refused .nil pass0 (pa_cons pe_str pa_nil)))))))))))), ?_⟩
    refine ⟨H, [], a, nn, rfl, sep0, ha, hl, fun b o1 G1 H1 _ B1 S1 => ?_⟩
    -- the fences by their classes
    refine fun x2 dx2 nx2 nd2 ne2 => ⟨sz, fun t2 nt2 => ?_⟩
    obtain ⟨Ga2, sa2, f2, Sa2⟩ := fresh_fn (c := kc T) .a S1 nx2 nd2 ne2
    obtain ⟨Gb2, sb2, Sb2, ht2⟩ := Sep.mk (o := .tup [.str (Kd.wd .a), .ref x2]) Sa2 nt2
    have c2 : FcAt (kc T) Gb2 (.ref t2) .a := ⟨t2, _, rfl, ht2, f2.same sb2⟩
    have z2 := sa2.trans sb2
    refine fun x3 dx3 nx3 nd3 ne3 => ⟨sz, fun t3 nt3 => ?_⟩
    obtain ⟨Ga3, sa3, f3, Sa3⟩ := fresh_fn (c := kc T) .o Sb2 nx3 nd3 ne3
    obtain ⟨Gb3, sb3, Sb3, ht3⟩ := Sep.mk (o := .tup [.str (Kd.wd .o), .ref x3]) Sa3 nt3
    have c3 : FcAt (kc T) Gb3 (.ref t3) .o := ⟨t3, _, rfl, ht3, f3.same sb3⟩
    have z3 := sa3.trans sb3
    refine fun x4 dx4 nx4 nd4 ne4 => ⟨sz, fun t4 nt4 => ?_⟩
    obtain ⟨Ga4, sa4, f4, Sa4⟩ := fresh_fn (c := kc T) .s Sb3 nx4 nd4 ne4
    obtain ⟨Gb4, sb4, Sb4, ht4⟩ := Sep.mk (o := .tup [.str (Kd.wd .s), .ref x4]) Sa4 nt4
    have c4 : FcAt (kc T) Gb4 (.ref t4) .s := ⟨t4, _, rfl, ht4, f4.same sb4⟩
    have z4 := sa4.trans sb4
    refine fun x5 dx5 nx5 nd5 ne5 => ⟨sz, fun t5 nt5 => ?_⟩
    obtain ⟨Ga5, sa5, f5, Sa5⟩ := fresh_fn (c := kc T) .b Sb4 nx5 nd5 ne5
    obtain ⟨Gb5, sb5, Sb5, ht5⟩ := Sep.mk (o := .tup [.str (Kd.wd .b), .ref x5]) Sa5 nt5
    have c5 : FcAt (kc T) Gb5 (.ref t5) .b := ⟨t5, _, rfl, ht5, f5.same sb5⟩
    have z5 := sa5.trans sb5
    refine fun x6 dx6 nx6 nd6 ne6 => ⟨sz, fun t6 nt6 => ?_⟩
    obtain ⟨Ga6, sa6, f6, Sa6⟩ := fresh_fn (c := kc T) .l Sb5 nx6 nd6 ne6
    obtain ⟨Gb6, sb6, Sb6, ht6⟩ := Sep.mk (o := .tup [.str (Kd.wd .l), .ref x6]) Sa6 nt6
    have c6 : FcAt (kc T) Gb6 (.ref t6) .l := ⟨t6, _, rfl, ht6, f6.same sb6⟩
    have z6 := sa6.trans sb6
    refine ⟨sz, fun L nL => ?_⟩
    have S7 := Sb6.new (o := .lst [.ref t2, .ref t3, .ref t4, .ref t5, .ref t6]) nL
    have p7 : Paired (FcAt (kc T) Gb6) [V.ref t2, .ref t3, .ref t4, .ref t5, .ref t6] kds := .cons (c2.same (z3.trans (z4.trans (z5.trans z6)))) (.cons (c3.same (z4.trans (z5.trans z6))) (.cons (c4.same (z5.trans z6)) (.cons (c5.same z6) (.cons c6 .nil))))
    have B7 := B1.same (z2.trans (z3.trans (z4.trans (z5.trans z6))))
    clear c2 c3 c4 c5 c6 z2 z3 z4 z5 z6
    -- and by their words
    refine ⟨rfl, fun lw nlw => ?_⟩
    obtain ⟨G8, s8, S8, h8⟩ := Sep.mk (o := .lst (wds.map V.str)) S7 nlw
    refine ⟨G8, _, b, o1, lw, _, rfl, S8.sw, B7.same s8, SqL.of h8, by decide, fun p ys o9 G9 H9 s9 hp pm B9 S9 => ?_⟩
    obtain ⟨us, rfl, pu⟩ := perm_wds pm
    refine ⟨p, rfl, ⟨_, SqL.of (S9.st hp)⟩, for_list (xs := us.map V.str) (fun i σ H' => ∃ (y3 : Option V) (ws : List V) (ks : List Kd) (G' : Hp), σ = [some (.ref a), some (.ref b), some (.ref L), y3, none, none, none, none, none, none, none, none, none] ∧ Paired (FcAt (kc T) G') ws ks ∧ ws.length = 5 + i ∧ Same G9 G' ∧ Sep G' [(L, .lst ws), (b, o9)] H')
      ⟨_, _, kds, G9, rfl, prd_imp (fun _ _ => FcAt.same (s8.trans s9)) p7, rfl, Same.refl _, S9.sw⟩ (fun i σ H' _ h => ?_) (fun i y σ H' hy h => ?_) (fun σ H' h => ?_)⟩
    · obtain ⟨_, _, _, G', _, _, _, s', S'⟩ := h
      exact SqL.of (S'.st (s' _ _ hp))
    · obtain ⟨y3, ws, ks, G10, rfl, pw, wl, s10, S10⟩ := h
      have il := (List.getElem?_eq_some_iff.mp hy).1
      rw [List.length_map, pu.length_eq] at il
      have il : i < 5 := il
      rw [List.getElem?_map] at hy
      obtain ⟨z, hz, rfl⟩ := Option.map_eq_some_iff.mp hy
      obtain ⟨k1, rfl⟩ := wds_kd (pu.mem_iff.mp (List.mem_of_getElem? hz))
      refine ⟨.inl ⟨rfl, _, SqL.of S10.hd⟩, G10, _, k1, rfl, S10, fun v G11 H11 s11 f11 S11 => ⟨sz, fun t nt => ?_⟩⟩
      obtain ⟨G12, s12, S12, h12⟩ := Sep.mk (o := .tup [.str k1.wd, v]) S11 nt
      refine ⟨L, _, _, rfl, rfl, S12.hd, smallL (by omega), ?_⟩
      exact ⟨_, ws ++ [.ref t], ks ++ [k1], G12, rfl, prd_app (prd_imp (fun _ _ => FcAt.same (s11.trans s12)) pw) (.cons ⟨t, v, rfl, h12, f11.same s12⟩ .nil), by rw [List.length_append, wl]; rfl, s10.trans (s11.trans s12), S12.set⟩
    obtain ⟨y3, ws, ks, G10, rfl, pw, wl, s10, S10⟩ := h
    have s11 := S10.frzS
    have S11 := S10.frz
    have hL : (upd G10 L (.lst ws)) L = some (.lst ws) := upd_same
    have B11 := (B9.same s10).same s11
    have pw := prd_imp (fun _ _ => FcAt.same s11) pw
    generalize upd G10 L (.lst ws) = G11 at *
    have wl9 : ws.length ≤ 10 := by
      rw [wl, List.length_map, pu.length_eq]
      decide
    refine ⟨G11, _, L, ws, ks, rfl, S11, hL, pw, fun G12 H12 s12 S12 => ⟨ff, fun _ => ?_⟩⟩
    have hL := s12 _ _ hL
    have pw := prd_imp (fun _ _ => FcAt.same s12) pw
    have B12 := B11.same s12
    -- the turns
    refine ⟨G12, _, b, o9, 5, rfl, S12, B12, by decide, by decide, fun r13 o13 H13 r130 r131 B13 S13 => ?_⟩
    refine ⟨1 + r13, rfl, by omega, by omega, for_range (lo := 0) (n := (1 + r13).toNat) (fun i σ H' => ∃ (y3 y4 y5 y6 y7 y8 y9 y10 y11 y12 : Option V) (o' : HO) (G' : Hp), σ = [some (.ref a), some (.ref b), some (.ref L), y3, y4, y5, y6, y7, y8, y9, y10, y11, y12] ∧ Same G12 G' ∧ Bag G' o' ∧ Sep G' [(b, o')] H')
      ⟨_, _, _, _, _, _, _, _, _, _, o13, G12, rfl, Same.refl _, B13, S13⟩ (fun i σ H' hi h => ?_) (fun σ H' h => ?_)⟩
    · obtain ⟨y3, y4, y5, y6, y7, y8, y9, y10, y11, y12, o14, G14, rfl, s14, B14, S14⟩ := h
      refine ⟨sz, fun l2 nl2 => ?_⟩
      have S15 := (S14.new (o := .lst (([] : List Str).map V.str)) nl2).sw
      refine ⟨G14, _, b, o14, l2, [], rfl, S15, B14, fun z hz => (nomatch hz), by decide, fun z o16 H16 lt _ _ _ B16 S16 => ?_⟩
      have S16 : Sep G14 [(b, o16)] H16 := S16.sw.drop
      -- its path
      refine ⟨G14, _, b, o16, 6, rfl, S16, B16, by decide, by decide, fun r17 o17 H17 r170 r171 B17 S17 => ⟨r17, rfl, by omega, by omega, fun D nD => lc_range (lo := 0) (n := r17.toNat) (fun j H' => ∃ (us : List V) (ds : List PyData) (o' : HO) (G' : Hp), Same G14 G' ∧ DpAll K G' us ds ∧ us.length = j ∧ (∀ u ∈ us, ∃ (r : Addr) (s : List Int), u = .ref r ∧ G' r = some (.tup (s.map V.int))) ∧ (∀ d ∈ ds, ∃ n : Int, d = .tuple [.int n]) ∧ Bag G' o' ∧ Sep G' [(D, .lst us), (b, o')] H')
        ⟨[], [], o17, G14, Same.refl _, .nil, rfl, (fun _ h => nomatch h), (fun _ h => nomatch h), B17, S17.new nD⟩ (fun j H' hj p => ?_) (fun H' p => ?_)⟩⟩
      · obtain ⟨us, ds, o', G', s', dd, ul, hu, hd, B', S'⟩ := p
        have jl : j < r17.toNat := hj
        refine ⟨rfl, G', _, b, o', 15, rfl, S'.sw, B', by decide, by decide, fun r18 o18 H18 r180 r181 B18 S18 => ⟨sz, fun t nt => ?_⟩⟩
        obtain ⟨G19, s19, S19, h19⟩ := Sep.mk (o := .tup (([1 + r18] : List Int).map V.int)) S18 nt
        refine ⟨us, S19.sw.hd, smallL (by omega), us ++ [.ref t], ds ++ [.tuple [.int (1 + r18)]], o18, G19, s'.trans s19, dpa_app (dpa_same s19 dd) (dpa_one (.tup (SqT.of h19) (.cons (.int _) .nil))), by rw [List.length_append, ul]; rfl, fun u hu' => ?_, fun d hd' => ?_, B18.same s19, S19.sw.set⟩
        · rcases List.mem_append.mp hu' with h | h
          · obtain ⟨r, s, h1, h2⟩ := hu u h
            exact ⟨r, s, h1, s19 _ _ h2⟩
          · rw [List.mem_singleton.mp h]
            exact ⟨t, [1 + r18], rfl, h19⟩
        · rcases List.mem_append.mp hd' with h | h
          · exact hd d h
          · exact ⟨1 + r18, List.mem_singleton.mp h⟩
      obtain ⟨us, ds, o18, G18, s18, dd, ul, hu, hd, B18, S18⟩ := p
      have ul : us.length ≤ 5 := by
        have : us.length = r17.toNat := ul
        omega
      refine ⟨D, _, rfl, .inl ⟨SqL.of S18.hd, fun u nu => ?_⟩⟩
      obtain ⟨G19, s19, S19, h19⟩ := Sep.mk (o := .tup us) S18 nu
      have S19 : Sep G19 [(b, o18)] _ := S19.drop
      have how : OwAt G19 (.ref u) := ⟨u, us, rfl, h19, ul, fun v hv => let ⟨r, s, k1, k2⟩ := hu v hv; ⟨r, s, k1, s19 _ _ k2⟩⟩
      have hdp : Dp K G19 (.ref u) (.tuple ds) := .tup (SqT.of h19) (dpa_same s19 dd)
      obtain ⟨lay1, dep1⟩ := lay_tups hd
      have lay2 : PyData.canLay0 (.str z) = true := (Fit.name lt).cl
      have B19 := B18.same s19
      have s1419 := s18.trans s19
      generalize PyData.tuple ds = pd at *
      -- the row
      refine ⟨G19, _, b, o18, rfl, S19, B19, fun n20 o20 G20 H20 s20 n0 B20 S20 => ?_⟩
      refine ⟨G20, _, b, o20, 4, rfl, S20, B20, by decide, by decide, fun r21 o21 H21 r210 r211 B21 S21 => ?_⟩
      refine ⟨G20, _, b, o21, 4, rfl, S21, B21, by decide, by decide, fun r22 o22 H22 r220 r221 B22 S22 => ?_⟩
      refine ⟨G20, _, b, o22, 3, rfl, S22, B22, by decide, by decide, fun r23 o23 H23 r230 r231 B23 S23 => ⟨sz, fun t nt => ?_⟩⟩
      obtain ⟨G24, s24, S24, h24⟩ := Sep.mk (o := .tup (Rw.tup ⟨.ref u, z, n20, r21, r22, 1 + r23⟩)) S23 nt
      have s1924 := s20.trans s24
      refine ⟨G24, _, b, o23, t, ⟨.ref u, z, n20, r21, r22, 1 + r23⟩, rfl, S24, B23.same s24, h24, how.same s1924, r210, by show r21 ≤ 3; omega, r220, by show r22 ≤ 3; omega, fun v o25 G25 H25 s25 en B25 S25 => ?_⟩
      have s1925 := s1924.trans s25
      refine ⟨fun σ H' => ∃ (r : Rw) (t : Addr) (v : V) (o' : HO) (G' : Hp), σ = [some (.ref a), some (.ref b), some (.ref L), some (.str z), some (.int (0 + (i : Nat))), some (.ref u), some (.ref t), some v, y8, y9, y10, y11, y12] ∧ RwD K G' r pd ∧ Same G25 G' ∧ G' t = some (.tup r.tup) ∧ EnAt G' T.C_Entry v r ∧ Bag G' o' ∧ Sep G' [(b, o')] H', ?_, fun σ H26 h => ?_⟩
      · have rd : RwD K G25 ⟨.ref u, z, n20, r21, r22, 1 + r23⟩ pd := ⟨dp_same s1925 hdp, lay1, dep1, lay2, n0, r210, r220, by show r22 ≤ 3; omega⟩
        refine ⟨G25, _, b, o25, 3, rfl, S25, B25, by decide, by decide, fun r26 o26 H26 r260 r261 B26 S26 => ⟨fun _ => ?_, fun _ => ?_⟩⟩
        · have hT := SqT.of (K := K) (S26.st (s25 _ _ h24))
          refine ⟨_, _, .inr hT, atI_nat (j := 2) rfl, ?_⟩
          refine ⟨G25, _, b, o26, rfl, S26, B26, fun n27 o27 G27 H27 s27 n270 B27 S27 => ?_⟩
          have hT7 := SqT.of (K := K) (S27.st (s27 _ _ (s25 _ _ h24)))
          refine ⟨_, _, .inr hT7, atI_nat (j := 4) rfl, _, _, .inr hT7, atI_nat (j := 5) rfl, sz, fun t8 nt8 => ?_⟩
          obtain ⟨G28, s28, S28, h28⟩ := Sep.mk (o := .tup (Rw.tup ⟨.ref u, z, n20, n27, r22, 1 + r23⟩)) S27 nt8
          have hT8 := SqT.of (K := K) (S28.st h28)
          refine ⟨_, _, .inr hT8, atI_nat (j := 0) rfl, _, _, .inr hT8, atI_nat (j := 1) rfl, _, _, .inr hT8, atI_nat (j := 2) rfl, _, _, .inr hT8, atI_nat (j := 3) rfl, _, _, .inr hT8, atI_nat (j := 4) rfl, _, _, .inr hT8, atI_nat (j := 5) rfl, fun e de ne nde hne => ?_⟩
          have S29 := S28.new2 (o := .ins T.C_Entry de []) (u := .own e) ne nde hne
          refine ⟨G28, _, e, de, ⟨.ref u, z, n20, n27, r22, 1 + r23⟩, rfl, S29, fun H30 S30 => ⟨rfl, ?_⟩⟩
          obtain ⟨G31, s31, S31, h31⟩ := Sep.keep S30
          have s2531 := s27.trans (s28.trans s31)
          exact ⟨⟨.ref u, z, n20, n27, r22, 1 + r23⟩, t8, _, o27, G31, rfl, ⟨dp_same (s1925.trans s2531) hdp, lay1, dep1, lay2, n0, n270, r220, by show r22 ≤ 3; omega⟩, s2531, s31 _ _ h28, ⟨e, de, rfl, h31, how.same (s1925.trans s2531)⟩, (B27.same s28).same s31, S31.drop⟩
        · exact ⟨_, t, v, o26, G25, rfl, rd, Same.refl _, s25 _ _ h24, en, B26, S26⟩
      obtain ⟨r, t2, v2, o27, G27, rfl, rd, s27, ht2, en2, B27, S27⟩ := h
      have s1427 := s1419.trans (s1925.trans s27)
      obtain ⟨cl, dp⟩ := row_lay rd.lay rd.dep rd.wd (r := r)
      have ee : (rowD r pd).eqv (rowD r pd) = true := SeqAt.eqv_refl _ cl
      refine ⟨G27, _, v2, r, rfl, S27, en2, fun t28 G28 H28 s28 ht28 S28 => ?_⟩
      have rd28 := rd.same s28
      refine ⟨rowD r pd, rowD r pd, dp_same S28.1 (row_dp rd28 ht28), dp_same S28.1 (row_dp rd28 (s28 _ _ ht2)), cl, cl, dp, ?_⟩
      rw [ee]
      refine ⟨ff, fun _ => ?_⟩
      have s1228 := s14.trans (s1427.trans s28)
      refine ⟨G28, _, b, o27, L, ws, ks, v2, t2, r, pd, rfl, S28, B27.same s28, s1228 _ _ hL, prd_imp (fun _ _ => FcAt.same s1228) pw, en2.same s28, s28 _ _ ht2, rd28, fun o29 G29 H29 s29 B29 S29 => ⟨ff, fun _ => ?_⟩⟩
      refine ⟨G29, _, b, o29, rfl, S29, B29, fun z30 o30 G30 H30 s30 nz tz B30 S30 => ?_⟩
      refine ⟨G30, _, z30, rfl, S30, nz, tz, fun G31 H31 s31 S31 => ⟨ff, fun _ => ?_⟩⟩
      exact ⟨_, _, _, _, _, _, _, _, _, _, o30, G31, rfl, s1228.trans (s29.trans (s30.trans s31)), B30.same s31, S31⟩
    obtain ⟨y3, y4, y5, y6, y7, y8, y9, y10, y11, y12, o14, G14, rfl, s14, B14, S14⟩ := h
    have hL := s14 _ _ hL
    have pw := prd_imp (fun _ _ => FcAt.same s14) pw
    -- any two
    refine ⟨L, rfl, ⟨_, SqL.of (S14.st hL)⟩, for_list (xs := ws) (fun i σ H' => ∃ (y3 y4 y5 y6 y7 y8 y9 y10 y11 y12 : Option V) (G' : Hp), σ = [some (.ref a), some (.ref b), some (.ref L), y3, y4, y5, y6, y7, y8, y9, y10, y11, y12] ∧ Same G14 G' ∧ Sep G' [(b, o14)] H')
      ⟨_, _, _, _, _, _, _, _, _, _, G14, rfl, Same.refl _, S14⟩ (fun i σ H' _ h => ?_) (fun i y σ H' hy h => ?_) (fun σ H' h => ?_)⟩
    · obtain ⟨_, _, _, _, _, _, _, _, _, _, G', _, s', S'⟩ := h
      exact SqL.of (S'.st (s' _ _ hL))
    · obtain ⟨y3, y4, y5, y6, y7, y8, y9, y10, y11, y12, G15, rfl, s15, S15⟩ := h
      obtain ⟨k1, hk1, p1, u1, rfl, hp1, x1, dx1, rfl, hx1⟩ := prd_get pw hy
      refine ⟨p1, _, rfl, SqT.of (S15.st (s15 _ _ hp1)), rfl, _, _, rfl, _, _, rfl, rfl, ?_⟩
      refine ⟨L, rfl, ⟨_, SqL.of (S15.st (s15 _ _ hL))⟩, for_list (xs := ws) (fun j σ H' => ∃ (y10 y11 : Option V) (G' : Hp), σ = [some (.ref a), some (.ref b), some (.ref L), y3, y4, y5, y6, y7, some (.str k1.wd), some (.ref x1), y10, y11, y12] ∧ Same G15 G' ∧ Sep G' [(b, o14)] H')
        ⟨_, _, G15, rfl, Same.refl _, S15⟩ (fun j σ H' _ h => ?_) (fun j y σ H' hy h => ?_) (fun σ H' h => ?_)⟩
      · obtain ⟨_, _, G', _, s', S'⟩ := h
        exact SqL.of (S'.st (s' _ _ (s15 _ _ hL)))
      · obtain ⟨y10, y11, G16, rfl, s16, S16⟩ := h
        obtain ⟨k2, hk2, p2, u2, rfl, hp2, x2, dx2, rfl, hx2⟩ := prd_get pw hy
        have s1516 := s15.trans s16
        refine ⟨p2, _, rfl, SqT.of (S16.st (s1516 _ _ hp2)), rfl, _, _, rfl, _, _, rfl, rfl, ?_⟩
        refine ⟨x1, x2, kc T k1, kc T k2, dx1, dx2, [], [], rfl, rfl, S16.st (s1516 _ _ hx1), S16.st (s1516 _ _ hx2), ile T k1, le25 T k1 k2, ?_⟩
        refine ⟨G16, _, _, _, k1, k2, rfl, S16, ⟨x1, dx1, rfl, s1516 _ _ hx1⟩, ⟨x2, dx2, rfl, s1516 _ _ hx2⟩, fun G17 H17 s17 S17 => ?_⟩
        refine ⟨G17, _, k1, k2, rfl, S17, fun G18 H18 s18 S18 => ⟨_, _, rfl, ?_⟩⟩
        rw [decide_eq_true rfl]
        exact ⟨ff, fun _ => ⟨_, _, G18, rfl, s16.trans (s17.trans s18), S18⟩⟩
      · obtain ⟨y10, y11, G16, rfl, s16, S16⟩ := h
        exact ⟨_, _, _, _, _, _, _, _, _, _, G16, rfl, s15.trans s16, S16⟩
    · obtain ⟨y3, y4, y5, y6, y7, y8, y9, y10, y11, y12, G15, rfl, s15, S15⟩ := h
      refine ⟨G15, _, "", rfl, S15, fun k => by cases k <;> decide +kernel, .lit _ (by decide +kernel), fun G16 H16 s16 S16 => ⟨fun _ => ?_, tt⟩⟩
      exact ⟨G16, _, "lasts", rfl, S16, fun k => by cases k <;> decide +kernel, .lit _ (by decide +kernel), fun G17 H17 s17 S17 => q _⟩

end
end K45
set_option Elab.async false
set_option linter.all false
set_option maxRecDepth 100000
set_option maxHeartbeats 4000000
namespace K45
open PySem PySem.Spec PyProof.Rows L2 XL
theorem law_end {l : PySem.W.OpenLaw} {w : World} {K : PySem.W.Frag} {h : Heap} {mg : Str → Option Value} {fa f : Addr} {file : Str} (X : K.In h) (G : h.Ns mainGlobals mg) (hfa : mg "law" = some (.ref fa))
    (t : ∃ T : Top K mg w, T.a_law = f ∧ T.x_file = file ∧ ∀ (s : Shared) (v : Value), BindsTo s T.d_law ⟨[v], []⟩ [("_law_script", v)]) (pf0 : PySem.XExc.PF l.prog file) :
    ∃ fd : FuncData, (∀ (s : Shared) (v : Value), BindsTo s fd ⟨[v], []⟩ [("_law_script", v)]) ∧ ∀ base : Heap, K.In base → base.Ns mainGlobals mg → FnOk l.prog w K mg base CX0 22 fa fd ["_law_script"] (spLaw K) := by
  obtain ⟨T, _, ef, hb⟩ := t
  have pf : PySem.XExc.PF l.prog T.x_file := by rw [ef]; exact pf0
  have e := hfa.symm.trans T.g_law
  cases e
  refine ⟨T.d_law, hb, fun base _ _ => ?_⟩
  have Gp : ∀ k, FnOk l.prog w K mg base CX0 (k + 2) T.a_pick T.d_pick _ spPick := fun k => ok_pick T (k := k) (ok_mixed T)
  have Gmi : FnOk l.prog w K mg base CX0 20 T.a_mingled T.d_mingled _ (spMingled K) := ok_mingled T (k := 19) (Gp 17)
  have Gnn : ∀ k, FnOk l.prog w K mg base CX0 (k + 3) T.a_new_name T.d_new_name _ spNew := fun k => ok_new_name T (k := k + 2) (Gp k)
  have Gei : ∀ k, FnOk l.prog w K mg base CX0 (k + 1) T.a_Entry_init T.d_Entry_init _ (spEn T.C_Entry) := fun k => ok_Entry_init T
  have Gfl : ∀ k, FnOk l.prog w K mg base CX0 (k + 1) T.a_Fence_lets T.d_Fence_lets _ (fun vs H Q E => ∃ C, spLets C T.C_Entry ltA vs H Q E) := fun k => ok_Fence_lets T
  have Gsl : ∀ k, FnOk l.prog w K mg base CX0 (k + 2) T.a_Same_lets T.d_Same_lets _ (spLets T.C_Same T.C_Entry ltS) := fun k => ok_Same_lets T pf (Gfl k)
  have Gol : ∀ k, FnOk l.prog w K mg base CX0 (k + 2) T.a_Own_lets T.d_Own_lets _ (spLets T.C_Own T.C_Entry ltO) := fun k => ok_Own_lets T pf (Gfl k)
  have Gbl : ∀ k, FnOk l.prog w K mg base CX0 (k + 4) T.a_Both_lets T.d_Both_lets _ (spLets T.C_Both T.C_Entry ltB) := fun k => ok_Both_lets T pf (ok_Own_letsB T pf (ok_Same_letsB T pf (Gfl k)))
  have Gll : ∀ k, FnOk l.prog w K mg base CX0 (k + 1) T.a_Last_lets T.d_Last_lets _ (spLets T.C_Last T.C_Entry ltL) := fun k => ok_Last_lets T
  have Gcs : ∀ k, FnOk l.prog w K mg base CX0 (k + 1) T.a_cases T.d_cases _ spCases := fun k => ok_cases T
  have Glt : ∀ k, FnOk l.prog w K mg base CX0 (k + 1) T.a_lets T.d_lets _ spLLets := fun k => ok_lets T
  have Gwd : ∀ k, FnOk l.prog w K mg base CX0 (k + 1) T.a_words T.d_words _ spWords := fun k => ok_words T
  have Gen : FnOk l.prog w K mg base CX0 20 T.a_entry T.d_entry _ (spEntry T.C_Entry) := ok_entry T (k := 18) (Gp 16) (Gei 17) (ok_Line_init T) (ok_Line_send T (k := 15) (Gei 15))
  have Gas := ok_asked T (k := 19) (Gp 17) (Gcs 18) (Glt 18) (ok_other T (k := 18) (Gp 16)) (ok_truth T) (ok_fields T) (Gfl 18) (Gol 17) (Gsl 17) (Gbl 15) (Gll 18)
  have Gno := ok_none T (k := 19) (Gp 17) (Gwd 18) (Gnn 16)
  have Grf := ok_refused T pf (k := 19) (ok_fence_ofX T pf (k := 17) (P := l.prog) (base := base))
  have Gle := ok_Fence_le T (k := 18) (Gei 17) (Gfl 17) (Gol 16) (Gsl 16) (Gbl 14) (Gll 17)
  exact ok_law T (k := 20) (ok_bag T) (Gp 18) Gmi (Gwd 19) (ok_fence_ofG T) (ok_classes T) (Gnn 17) (ok_any_number T (k := 19) (Gp 17)) Gen (Gei 19) (ok_fields T) Gas Gno Grf (ok_truth T) Gle (ok_at_most T (k := 19) (Gcs 18) (Glt 18))
end K45
set_option Elab.async false
set_option linter.all false
set_option maxRecDepth 100000
set_option maxHeartbeats 4000000
namespace K45
open PySem PySem.Spec PyProof.Rows L2 XL
theorem top_mk {K : PySem.W.Frag} {W : World} {h : Heap} {mg : Str → Option Value} (X : K.In h) (G : h.Ns mainGlobals mg)
    {file : Str}
    {C0 : Addr}
    (ca0 : PySem.W.nsIn K mainGlobals "Entry" = some (some (.ref C0)))
    {C1 : Addr}
    (ca1 : PySem.W.nsIn K mainGlobals "Line" = some (some (.ref C1)))
    {C2 : Addr}
    (ca2 : PySem.W.nsIn K mainGlobals "Fence" = some (some (.ref C2)))
    {C3 : Addr}
    (ca3 : PySem.W.nsIn K mainGlobals "Own" = some (some (.ref C3)))
    {C4 : Addr}
    (ca4 : PySem.W.nsIn K mainGlobals "Same" = some (some (.ref C4)))
    {C5 : Addr}
    (ca5 : PySem.W.nsIn K mainGlobals "Both" = some (some (.ref C5)))
    {C6 : Addr}
    (ca6 : PySem.W.nsIn K mainGlobals "Last" = some (some (.ref C6)))
    {f0 : Addr} {od0 an0 : Option Addr} {sl0 : Array (Option Value)} {oc0 kV0 dc0 pm0 cd0 ct0 : Value}
    (a0 : PySem.W.findIn K (.ref C0) "__init__" = some (some (.ref f0)))
    (i0 : PySem.W.isFn K (.ref f0) = true)
    (l0 : K.lookup f0 = some ⟨oc0, od0, .func (PySem.W.fnOf "__init__" "Entry.__init__" (defArgs s_Entry_init) (defBody s_Entry_init) (defScope s_Entry_init) .none kV0 dc0 pm0 an0 cd0 ct0), sl0⟩)
    (c0 : PySem.W.codeIn K cd0 "Entry.__init__" = true)
    (k0 : PySem.W.keepIn K (.ref f0) = true)
    {f1 : Addr} {od1 an1 : Option Addr} {sl1 : Array (Option Value)} {oc1 kV1 dc1 pm1 cd1 ct1 : Value}
    (a1 : PySem.W.findIn K (.ref C1) "__init__" = some (some (.ref f1)))
    (i1 : PySem.W.isFn K (.ref f1) = true)
    (l1 : K.lookup f1 = some ⟨oc1, od1, .func (PySem.W.fnOf "__init__" "Line.__init__" (defArgs s_Line_init) (defBody s_Line_init) (defScope s_Line_init) .none kV1 dc1 pm1 an1 cd1 ct1), sl1⟩)
    (c1 : PySem.W.codeIn K cd1 "Line.__init__" = true)
    (k1 : PySem.W.keepIn K (.ref f1) = true)
    {f2 : Addr} {od2 an2 : Option Addr} {sl2 : Array (Option Value)} {oc2 kV2 dc2 pm2 cd2 ct2 : Value}
    (a2 : PySem.W.findIn K (.ref C1) "send" = some (some (.ref f2)))
    (i2 : PySem.W.isFn K (.ref f2) = true)
    (l2 : K.lookup f2 = some ⟨oc2, od2, .func (PySem.W.fnOf "send" "Line.send" (defArgs s_Line_send) (defBody s_Line_send) (defScope s_Line_send) .none kV2 dc2 pm2 an2 cd2 ct2), sl2⟩)
    (c2 : PySem.W.codeIn K cd2 "Line.send" = true)
    (k2 : PySem.W.keepIn K (.ref f2) = true)
    {f3 : Addr} {od3 an3 : Option Addr} {sl3 : Array (Option Value)} {oc3 kV3 dc3 pm3 cd3 ct3 : Value}
    (a3 : PySem.W.findIn K (.ref C2) "lets" = some (some (.ref f3)))
    (i3 : PySem.W.isFn K (.ref f3) = true)
    (l3 : K.lookup f3 = some ⟨oc3, od3, .func (PySem.W.fnOf "lets" "Fence.lets" (defArgs s_Fence_lets) (defBody s_Fence_lets) (defScope s_Fence_lets) .none kV3 dc3 pm3 an3 cd3 ct3), sl3⟩)
    (c3 : PySem.W.codeIn K cd3 "Fence.lets" = true)
    (k3 : PySem.W.keepIn K (.ref f3) = true)
    {f4 : Addr} {od4 an4 : Option Addr} {sl4 : Array (Option Value)} {oc4 kV4 dc4 pm4 cd4 ct4 : Value}
    (a4 : PySem.W.findIn K (.ref C2) "__le__" = some (some (.ref f4)))
    (i4 : PySem.W.isFn K (.ref f4) = true)
    (l4 : K.lookup f4 = some ⟨oc4, od4, .func (PySem.W.fnOf "__le__" "Fence.__le__" (defArgs s_Fence_le) (defBody s_Fence_le) (defScope s_Fence_le) .none kV4 dc4 pm4 an4 cd4 ct4), sl4⟩)
    (c4 : PySem.W.codeIn K cd4 "Fence.__le__" = true)
    (k4 : PySem.W.keepIn K (.ref f4) = true)
    {f5 : Addr} {od5 an5 : Option Addr} {sl5 : Array (Option Value)} {oc5 kV5 dc5 pm5 ct5 : Value}
    (a5 : PySem.W.findIn K (.ref C3) "lets" = some (some (.ref f5)))
    (i5 : PySem.W.isFn K (.ref f5) = true)
    {cda5_ ccl5_ : Addr} {scl5 scc5 : Value} {scd5 sce5 : Option Addr} {sss5 sst5 : Array (Option Value)} {svs5 : Array Value} {stf5 : Tok}
    (l5 : K.lookup f5 = some ⟨oc5, od5, .func (PySem.W.ksFn "lets" "Own.lets" (defArgs s_Own_lets) (defBody s_Own_lets) (defScope s_Own_lets) .none kV5 dc5 pm5 an5 (.ref cda5_) ct5 ccl5_), sl5⟩)
    (c5 : PySem.W.codeIn K (.ref cda5_) "Own.lets" = true)
    (k5 : PySem.W.keepIn K (.ref f5) = true)
    (se5 : K.lookup cda5_ = some ⟨scl5, scd5, .fields svs5, sss5⟩)
    (sv5 : svs5[2]? = some (.str file stf5))
    (sq5 : K.lookup ccl5_ = some ⟨scc5, sce5, .cell (some (.ref C3)), sst5⟩)
    {f6 : Addr} {od6 an6 : Option Addr} {sl6 : Array (Option Value)} {oc6 kV6 dc6 pm6 ct6 : Value}
    (a6 : PySem.W.findIn K (.ref C4) "lets" = some (some (.ref f6)))
    (i6 : PySem.W.isFn K (.ref f6) = true)
    {cda6_ ccl6_ : Addr} {scl6 scc6 : Value} {scd6 sce6 : Option Addr} {sss6 sst6 : Array (Option Value)} {svs6 : Array Value} {stf6 : Tok}
    (l6 : K.lookup f6 = some ⟨oc6, od6, .func (PySem.W.ksFn "lets" "Same.lets" (defArgs s_Same_lets) (defBody s_Same_lets) (defScope s_Same_lets) .none kV6 dc6 pm6 an6 (.ref cda6_) ct6 ccl6_), sl6⟩)
    (c6 : PySem.W.codeIn K (.ref cda6_) "Same.lets" = true)
    (k6 : PySem.W.keepIn K (.ref f6) = true)
    (se6 : K.lookup cda6_ = some ⟨scl6, scd6, .fields svs6, sss6⟩)
    (sv6 : svs6[2]? = some (.str file stf6))
    (sq6 : K.lookup ccl6_ = some ⟨scc6, sce6, .cell (some (.ref C4)), sst6⟩)
    {f7 : Addr} {od7 an7 : Option Addr} {sl7 : Array (Option Value)} {oc7 kV7 dc7 pm7 ct7 : Value}
    (a7 : PySem.W.findIn K (.ref C5) "lets" = some (some (.ref f7)))
    (i7 : PySem.W.isFn K (.ref f7) = true)
    {cda7_ ccl7_ : Addr} {scl7 scc7 : Value} {scd7 sce7 : Option Addr} {sss7 sst7 : Array (Option Value)} {svs7 : Array Value} {stf7 : Tok}
    (l7 : K.lookup f7 = some ⟨oc7, od7, .func (PySem.W.ksFn "lets" "Both.lets" (defArgs s_Both_lets) (defBody s_Both_lets) (defScope s_Both_lets) .none kV7 dc7 pm7 an7 (.ref cda7_) ct7 ccl7_), sl7⟩)
    (c7 : PySem.W.codeIn K (.ref cda7_) "Both.lets" = true)
    (k7 : PySem.W.keepIn K (.ref f7) = true)
    (se7 : K.lookup cda7_ = some ⟨scl7, scd7, .fields svs7, sss7⟩)
    (sv7 : svs7[2]? = some (.str file stf7))
    (sq7 : K.lookup ccl7_ = some ⟨scc7, sce7, .cell (some (.ref C5)), sst7⟩)
    {f8 : Addr} {od8 an8 : Option Addr} {sl8 : Array (Option Value)} {oc8 kV8 dc8 pm8 cd8 ct8 : Value}
    (a8 : PySem.W.findIn K (.ref C6) "lets" = some (some (.ref f8)))
    (i8 : PySem.W.isFn K (.ref f8) = true)
    (l8 : K.lookup f8 = some ⟨oc8, od8, .func (PySem.W.fnOf "lets" "Last.lets" (defArgs s_Last_lets) (defBody s_Last_lets) (defScope s_Last_lets) .none kV8 dc8 pm8 an8 cd8 ct8), sl8⟩)
    (c8 : PySem.W.codeIn K cd8 "Last.lets" = true)
    (k8 : PySem.W.keepIn K (.ref f8) = true)
    {f9 : Addr} {od9 an9 : Option Addr} {sl9 : Array (Option Value)} {oc9 kV9 dc9 pm9 cd9 ct9 : Value}
    (a9 : PySem.W.nsIn K mainGlobals "fence_of" = some (some (.ref f9)))
    (l9 : K.lookup f9 = some ⟨oc9, od9, .func (PySem.W.fnOf "fence_of" "fence_of" (defArgs s_fence_of) (defBody s_fence_of) (defScope s_fence_of) .none kV9 dc9 pm9 an9 cd9 ct9), sl9⟩)
    (c9 : PySem.W.codeIn K cd9 "fence_of" = true)
    (k9 : PySem.W.keepIn K (.ref f9) = true)
    {f10 : Addr} {od10 an10 : Option Addr} {sl10 : Array (Option Value)} {oc10 kV10 dc10 pm10 cd10 ct10 : Value}
    (a10 : PySem.W.nsIn K mainGlobals "_law_mixed" = some (some (.ref f10)))
    (l10 : K.lookup f10 = some ⟨oc10, od10, .func (PySem.W.fnOf "_law_mixed" "_law_mixed" (defArgs s_mixed) (defBody s_mixed) (defScope s_mixed) .none kV10 dc10 pm10 an10 cd10 ct10), sl10⟩)
    (c10 : PySem.W.codeIn K cd10 "_law_mixed" = true)
    (k10 : PySem.W.keepIn K (.ref f10) = true)
    {f11 : Addr} {od11 an11 : Option Addr} {sl11 : Array (Option Value)} {oc11 kV11 dc11 pm11 cd11 ct11 : Value}
    (a11 : PySem.W.nsIn K mainGlobals "_law_bag" = some (some (.ref f11)))
    (l11 : K.lookup f11 = some ⟨oc11, od11, .func (PySem.W.fnOf "_law_bag" "_law_bag" (defArgs s_bag) (defBody s_bag) (defScope s_bag) .none kV11 dc11 pm11 an11 cd11 ct11), sl11⟩)
    (c11 : PySem.W.codeIn K cd11 "_law_bag" = true)
    (k11 : PySem.W.keepIn K (.ref f11) = true)
    {f12 : Addr} {od12 an12 : Option Addr} {sl12 : Array (Option Value)} {oc12 kV12 dc12 pm12 cd12 ct12 : Value}
    (a12 : PySem.W.nsIn K mainGlobals "_law_pick" = some (some (.ref f12)))
    (l12 : K.lookup f12 = some ⟨oc12, od12, .func (PySem.W.fnOf "_law_pick" "_law_pick" (defArgs s_pick) (defBody s_pick) (defScope s_pick) .none kV12 dc12 pm12 an12 cd12 ct12), sl12⟩)
    (c12 : PySem.W.codeIn K cd12 "_law_pick" = true)
    (k12 : PySem.W.keepIn K (.ref f12) = true)
    {f13 : Addr} {od13 an13 : Option Addr} {sl13 : Array (Option Value)} {oc13 kV13 dc13 pm13 cd13 ct13 : Value}
    (a13 : PySem.W.nsIn K mainGlobals "_law_mingled" = some (some (.ref f13)))
    (l13 : K.lookup f13 = some ⟨oc13, od13, .func (PySem.W.fnOf "_law_mingled" "_law_mingled" (defArgs s_mingled) (defBody s_mingled) (defScope s_mingled) .none kV13 dc13 pm13 an13 cd13 ct13), sl13⟩)
    (c13 : PySem.W.codeIn K cd13 "_law_mingled" = true)
    (k13 : PySem.W.keepIn K (.ref f13) = true)
    {f14 : Addr} {od14 an14 : Option Addr} {sl14 : Array (Option Value)} {oc14 kV14 dc14 pm14 cd14 ct14 : Value}
    (a14 : PySem.W.nsIn K mainGlobals "_law_new_name" = some (some (.ref f14)))
    (l14 : K.lookup f14 = some ⟨oc14, od14, .func (PySem.W.fnOf "_law_new_name" "_law_new_name" (defArgs s_new_name) (defBody s_new_name) (defScope s_new_name) .none kV14 dc14 pm14 an14 cd14 ct14), sl14⟩)
    (c14 : PySem.W.codeIn K cd14 "_law_new_name" = true)
    (k14 : PySem.W.keepIn K (.ref f14) = true)
    {f15 : Addr} {od15 an15 : Option Addr} {sl15 : Array (Option Value)} {oc15 kV15 dc15 pm15 cd15 ct15 : Value}
    (a15 : PySem.W.nsIn K mainGlobals "_law_words" = some (some (.ref f15)))
    (l15 : K.lookup f15 = some ⟨oc15, od15, .func (PySem.W.fnOf "_law_words" "_law_words" (defArgs s_words) (defBody s_words) (defScope s_words) .none kV15 dc15 pm15 an15 cd15 ct15), sl15⟩)
    (c15 : PySem.W.codeIn K cd15 "_law_words" = true)
    (k15 : PySem.W.keepIn K (.ref f15) = true)
    {f16 : Addr} {od16 an16 : Option Addr} {sl16 : Array (Option Value)} {oc16 kV16 dc16 pm16 cd16 ct16 : Value}
    (a16 : PySem.W.nsIn K mainGlobals "_law_lets" = some (some (.ref f16)))
    (l16 : K.lookup f16 = some ⟨oc16, od16, .func (PySem.W.fnOf "_law_lets" "_law_lets" (defArgs s_lets) (defBody s_lets) (defScope s_lets) .none kV16 dc16 pm16 an16 cd16 ct16), sl16⟩)
    (c16 : PySem.W.codeIn K cd16 "_law_lets" = true)
    (k16 : PySem.W.keepIn K (.ref f16) = true)
    {f17 : Addr} {od17 an17 : Option Addr} {sl17 : Array (Option Value)} {oc17 kV17 dc17 pm17 cd17 ct17 : Value}
    (a17 : PySem.W.nsIn K mainGlobals "_law_cases" = some (some (.ref f17)))
    (l17 : K.lookup f17 = some ⟨oc17, od17, .func (PySem.W.fnOf "_law_cases" "_law_cases" (defArgs s_cases) (defBody s_cases) (defScope s_cases) .none kV17 dc17 pm17 an17 cd17 ct17), sl17⟩)
    (c17 : PySem.W.codeIn K cd17 "_law_cases" = true)
    (k17 : PySem.W.keepIn K (.ref f17) = true)
    {f18 : Addr} {od18 an18 : Option Addr} {sl18 : Array (Option Value)} {oc18 kV18 dc18 pm18 cd18 ct18 : Value}
    (a18 : PySem.W.nsIn K mainGlobals "_law_at_most" = some (some (.ref f18)))
    (l18 : K.lookup f18 = some ⟨oc18, od18, .func (PySem.W.fnOf "_law_at_most" "_law_at_most" (defArgs s_at_most) (defBody s_at_most) (defScope s_at_most) .none kV18 dc18 pm18 an18 cd18 ct18), sl18⟩)
    (c18 : PySem.W.codeIn K cd18 "_law_at_most" = true)
    (k18 : PySem.W.keepIn K (.ref f18) = true)
    {f19 : Addr} {od19 an19 : Option Addr} {sl19 : Array (Option Value)} {oc19 kV19 dc19 pm19 cd19 ct19 : Value}
    (a19 : PySem.W.nsIn K mainGlobals "_law_truth" = some (some (.ref f19)))
    (l19 : K.lookup f19 = some ⟨oc19, od19, .func (PySem.W.fnOf "_law_truth" "_law_truth" (defArgs s_truth) (defBody s_truth) (defScope s_truth) .none kV19 dc19 pm19 an19 cd19 ct19), sl19⟩)
    (c19 : PySem.W.codeIn K cd19 "_law_truth" = true)
    (k19 : PySem.W.keepIn K (.ref f19) = true)
    {f20 : Addr} {od20 an20 : Option Addr} {sl20 : Array (Option Value)} {oc20 kV20 dc20 pm20 cd20 ct20 : Value}
    (a20 : PySem.W.nsIn K mainGlobals "_law_any_number" = some (some (.ref f20)))
    (l20 : K.lookup f20 = some ⟨oc20, od20, .func (PySem.W.fnOf "_law_any_number" "_law_any_number" (defArgs s_any_number) (defBody s_any_number) (defScope s_any_number) .none kV20 dc20 pm20 an20 cd20 ct20), sl20⟩)
    (c20 : PySem.W.codeIn K cd20 "_law_any_number" = true)
    (k20 : PySem.W.keepIn K (.ref f20) = true)
    {f21 : Addr} {od21 an21 : Option Addr} {sl21 : Array (Option Value)} {oc21 kV21 dc21 pm21 cd21 ct21 : Value}
    (a21 : PySem.W.nsIn K mainGlobals "_law_other" = some (some (.ref f21)))
    (l21 : K.lookup f21 = some ⟨oc21, od21, .func (PySem.W.fnOf "_law_other" "_law_other" (defArgs s_other) (defBody s_other) (defScope s_other) .none kV21 dc21 pm21 an21 cd21 ct21), sl21⟩)
    (c21 : PySem.W.codeIn K cd21 "_law_other" = true)
    (k21 : PySem.W.keepIn K (.ref f21) = true)
    {f22 : Addr} {od22 an22 : Option Addr} {sl22 : Array (Option Value)} {oc22 kV22 dc22 pm22 cd22 ct22 : Value}
    (a22 : PySem.W.nsIn K mainGlobals "_law_entry" = some (some (.ref f22)))
    (l22 : K.lookup f22 = some ⟨oc22, od22, .func (PySem.W.fnOf "_law_entry" "_law_entry" (defArgs s_entry) (defBody s_entry) (defScope s_entry) .none kV22 dc22 pm22 an22 cd22 ct22), sl22⟩)
    (c22 : PySem.W.codeIn K cd22 "_law_entry" = true)
    (k22 : PySem.W.keepIn K (.ref f22) = true)
    {f23 : Addr} {od23 an23 : Option Addr} {sl23 : Array (Option Value)} {oc23 kV23 dc23 pm23 cd23 ct23 : Value}
    (a23 : PySem.W.nsIn K mainGlobals "_law_fields" = some (some (.ref f23)))
    (l23 : K.lookup f23 = some ⟨oc23, od23, .func (PySem.W.fnOf "_law_fields" "_law_fields" (defArgs s_fields) (defBody s_fields) (defScope s_fields) .none kV23 dc23 pm23 an23 cd23 ct23), sl23⟩)
    (c23 : PySem.W.codeIn K cd23 "_law_fields" = true)
    (k23 : PySem.W.keepIn K (.ref f23) = true)
    {f24 : Addr} {od24 an24 : Option Addr} {sl24 : Array (Option Value)} {oc24 kV24 dc24 pm24 cd24 ct24 : Value}
    (a24 : PySem.W.nsIn K mainGlobals "_law_asked" = some (some (.ref f24)))
    (l24 : K.lookup f24 = some ⟨oc24, od24, .func (PySem.W.fnOf "_law_asked" "_law_asked" (defArgs s_asked) (defBody s_asked) (defScope s_asked) .none kV24 dc24 pm24 an24 cd24 ct24), sl24⟩)
    (c24 : PySem.W.codeIn K cd24 "_law_asked" = true)
    (k24 : PySem.W.keepIn K (.ref f24) = true)
    {f25 : Addr} {od25 an25 : Option Addr} {sl25 : Array (Option Value)} {oc25 kV25 dc25 pm25 cd25 ct25 : Value}
    (a25 : PySem.W.nsIn K mainGlobals "_law_classes" = some (some (.ref f25)))
    (l25 : K.lookup f25 = some ⟨oc25, od25, .func (PySem.W.fnOf "_law_classes" "_law_classes" (defArgs s_classes) (defBody s_classes) (defScope s_classes) .none kV25 dc25 pm25 an25 cd25 ct25), sl25⟩)
    (c25 : PySem.W.codeIn K cd25 "_law_classes" = true)
    (k25 : PySem.W.keepIn K (.ref f25) = true)
    {f26 : Addr} {od26 an26 : Option Addr} {sl26 : Array (Option Value)} {oc26 kV26 dc26 pm26 cd26 ct26 : Value}
    (a26 : PySem.W.nsIn K mainGlobals "_law_none" = some (some (.ref f26)))
    (l26 : K.lookup f26 = some ⟨oc26, od26, .func (PySem.W.fnOf "_law_none" "_law_none" (defArgs s_none) (defBody s_none) (defScope s_none) .none kV26 dc26 pm26 an26 cd26 ct26), sl26⟩)
    (c26 : PySem.W.codeIn K cd26 "_law_none" = true)
    (k26 : PySem.W.keepIn K (.ref f26) = true)
    {f27 : Addr} {od27 an27 : Option Addr} {sl27 : Array (Option Value)} {oc27 kV27 dc27 pm27 cd27 ct27 : Value}
    (a27 : PySem.W.nsIn K mainGlobals "_law_refused" = some (some (.ref f27)))
    (l27 : K.lookup f27 = some ⟨oc27, od27, .func (PySem.W.fnOf "_law_refused" "_law_refused" (defArgs s_refused) (defBody s_refused) (defScope s_refused) .none kV27 dc27 pm27 an27 cd27 ct27), sl27⟩)
    (c27 : PySem.W.codeIn K cd27 "_law_refused" = true)
    (k27 : PySem.W.keepIn K (.ref f27) = true)
    {f28 : Addr} {od28 an28 : Option Addr} {sl28 : Array (Option Value)} {oc28 kV28 dc28 pm28 cd28 ct28 : Value}
    (a28 : PySem.W.nsIn K mainGlobals "law" = some (some (.ref f28)))
    (l28 : K.lookup f28 = some ⟨oc28, od28, .func (PySem.W.fnOf "law" "law" (defArgs s_law) (defBody s_law) (defScope s_law) .none kV28 dc28 pm28 an28 cd28 ct28), sl28⟩)
    (c28 : PySem.W.codeIn K cd28 "law" = true)
    (k28 : PySem.W.keepIn K (.ref f28) = true)
    (z0 : PySem.W.nsIn K mainGlobals "ValueError" = some none)
    (z1 : PySem.W.nsIn K mainGlobals "abs" = some none)
    (z2 : PySem.W.nsIn K mainGlobals "bool" = some none)
    (z3 : PySem.W.nsIn K mainGlobals "enumerate" = some none)
    (z4 : PySem.W.nsIn K mainGlobals "int" = some none)
    (z5 : PySem.W.nsIn K mainGlobals "isinstance" = some none)
    (z6 : PySem.W.nsIn K mainGlobals "len" = some none)
    (z7 : PySem.W.nsIn K mainGlobals "list" = some none)
    (z8 : PySem.W.nsIn K mainGlobals "range" = some none)
    (z9 : PySem.W.nsIn K mainGlobals "super" = some none)
    (z10 : PySem.W.nsIn K mainGlobals "tuple" = some none)
    (cg0 : PySem.W.plainGet K C0 Str.empty = true)
    (ch0 : PySem.W.hasDictIn K C0 = true)
    (co0 : PySem.W.plainOver K C0 = true)
    (cs0 : PySem.W.findIn K (.ref C0) "__setattr__" = some (some (.builtin "object.__setattr__")))
    (cf0_0 : PySem.W.findIn K (.ref C0) "owner" = some none)
    (cf0_1 : PySem.W.findIn K (.ref C0) "word" = some none)
    (cf0_2 : PySem.W.findIn K (.ref C0) "who" = some none)
    (cf0_3 : PySem.W.findIn K (.ref C0) "ticket" = some none)
    (cf0_4 : PySem.W.findIn K (.ref C0) "question" = some none)
    (cf0_5 : PySem.W.findIn K (.ref C0) "answer" = some none)
    (cm0 : PySem.W.makesIn K C0 = true)
    (ck0 : PySem.W.keepIn K (.ref C0) = true)
    (cg1 : PySem.W.plainGet K C1 Str.empty = true)
    (ch1 : PySem.W.hasDictIn K C1 = true)
    (co1 : PySem.W.plainOver K C1 = true)
    (cs1 : PySem.W.findIn K (.ref C1) "__setattr__" = some (some (.builtin "object.__setattr__")))
    (cf1_0 : PySem.W.findIn K (.ref C1) "far" = some none)
    (cf1_1 : PySem.W.findIn K (.ref C1) "room" = some none)
    (cf1_2 : PySem.W.findIn K (.ref C1) "waiting" = some none)
    (cf1_3 : PySem.W.findIn K (.ref C1) "tickets" = some none)
    (cf1_4 : PySem.W.findIn K (.ref C1) "present" = some none)
    (cm1 : PySem.W.makesIn K C1 = true)
    (ck1 : PySem.W.keepIn K (.ref C1) = true)
    (cg2 : PySem.W.plainGet K C2 Str.empty = true)
    (ch2 : PySem.W.hasDictIn K C2 = true)
    (co2 : PySem.W.plainOver K C2 = true)
    (cs2 : PySem.W.findIn K (.ref C2) "__setattr__" = some (some (.builtin "object.__setattr__")))
    (ct2_a : PySem.W.findIn K (.ref C2) "__class__" = some (some (.builtin "object.__class__")))
    (ct2_b : PySem.W.specialIn K (.builtin "object.__class__") "__get__" = some (some (.builtin "getset_descriptor.__get__")))
    (ct2_c : PySem.W.takesIn K (.builtin "object.__class__") = some true)
    (ct2_d : PySem.W.mroIn K C2 (.type "object") = some true)
    (cg3 : PySem.W.plainGet K C3 Str.empty = true)
    (ch3 : PySem.W.hasDictIn K C3 = true)
    (co3 : PySem.W.plainOver K C3 = true)
    (cs3 : PySem.W.findIn K (.ref C3) "__setattr__" = some (some (.builtin "object.__setattr__")))
    (ct3_a : PySem.W.findIn K (.ref C3) "__class__" = some (some (.builtin "object.__class__")))
    (ct3_b : PySem.W.specialIn K (.builtin "object.__class__") "__get__" = some (some (.builtin "getset_descriptor.__get__")))
    (ct3_c : PySem.W.takesIn K (.builtin "object.__class__") = some true)
    (ct3_d : PySem.W.mroIn K C3 (.type "object") = some true)
    (cg4 : PySem.W.plainGet K C4 Str.empty = true)
    (ch4 : PySem.W.hasDictIn K C4 = true)
    (co4 : PySem.W.plainOver K C4 = true)
    (cs4 : PySem.W.findIn K (.ref C4) "__setattr__" = some (some (.builtin "object.__setattr__")))
    (ct4_a : PySem.W.findIn K (.ref C4) "__class__" = some (some (.builtin "object.__class__")))
    (ct4_b : PySem.W.specialIn K (.builtin "object.__class__") "__get__" = some (some (.builtin "getset_descriptor.__get__")))
    (ct4_c : PySem.W.takesIn K (.builtin "object.__class__") = some true)
    (ct4_d : PySem.W.mroIn K C4 (.type "object") = some true)
    (cg5 : PySem.W.plainGet K C5 Str.empty = true)
    (ch5 : PySem.W.hasDictIn K C5 = true)
    (co5 : PySem.W.plainOver K C5 = true)
    (cs5 : PySem.W.findIn K (.ref C5) "__setattr__" = some (some (.builtin "object.__setattr__")))
    (ct5_a : PySem.W.findIn K (.ref C5) "__class__" = some (some (.builtin "object.__class__")))
    (ct5_b : PySem.W.specialIn K (.builtin "object.__class__") "__get__" = some (some (.builtin "getset_descriptor.__get__")))
    (ct5_c : PySem.W.takesIn K (.builtin "object.__class__") = some true)
    (ct5_d : PySem.W.mroIn K C5 (.type "object") = some true)
    (cg6 : PySem.W.plainGet K C6 Str.empty = true)
    (ch6 : PySem.W.hasDictIn K C6 = true)
    (co6 : PySem.W.plainOver K C6 = true)
    (cs6 : PySem.W.findIn K (.ref C6) "__setattr__" = some (some (.builtin "object.__setattr__")))
    (ct6_a : PySem.W.findIn K (.ref C6) "__class__" = some (some (.builtin "object.__class__")))
    (ct6_b : PySem.W.specialIn K (.builtin "object.__class__") "__get__" = some (some (.builtin "getset_descriptor.__get__")))
    (ct6_c : PySem.W.takesIn K (.builtin "object.__class__") = some true)
    (ct6_d : PySem.W.mroIn K C6 (.type "object") = some true)
    {E0 : Addr}
    (xa0 : PySem.W.nsIn K mainGlobals "BadFence" = some (some (.ref E0)))
    {R0 : Addr}
    (ra0 : PySem.W.nsIn K mainGlobals "ScreenError" = some (some (.ref R0)))
    (rb0 : PySem.W.isClsIn K R0 = true)
    (rc0 : PySem.W.typeIn K (.ref R0) = some (.type "type"))
    {R1 : Addr}
    (ra1 : PySem.W.nsIn K mainGlobals "NoAnswer" = some (some (.ref R1)))
    (rb1 : PySem.W.isClsIn K R1 = true)
    (rc1 : PySem.W.typeIn K (.ref R1) = some (.type "type"))
    {J0 : Addr}
    {xnm0 xq0 : Str} {xN0 : Addr} {xbs0 xbm0 xsub0 : List Value} {xsn0 : List Str} {xab0 : Bool} {xcol0 : Option Bool} {xdd0 : Option Addr} {xm00 xm10 xm20 xm30 xm50 : Option Value}
    (xL0 : K.lookup E0 = some (excClassObj xnm0 xq0 E0 xN0 xbs0 xbm0 true xsn0 xsub0 xab0 xcol0 xdd0 xm00 xm10 xm20 xm30 xm50 "ValueError.__new__"))
    (xr0 : PySem.HandSPX.refsVE xbm0 = true)
    (xs0 : PySem.W.findIn K (.ref E0) "__setattr__" = some (some (.builtin "object.__setattr__")))
    (xg0 : PySem.W.findIn K (.ref E0) "__getattribute__" = some (some (.builtin "BaseException.__getattribute__")))
    (xh0 : PySem.W.findIn K (.ref E0) "__getattr__" = some none)
    (xf0 : PySem.W.findIn K (.ref E0) "fence" = some none)
    (xi0 : PySem.W.findIn K (.ref E0) "__init__" = some (some (.ref J0)))
    (xt0 : PySem.W.typeIn K (.ref J0) = some (.type "function"))
    {xoc0 xkV0 xdc0 xpm0 xct0 xccl0 xcl0 : Value} {xod0 xan0 xcdd0 xcld0 : Option Addr} {xsl0 xccs0 xcsl0 : Array (Option Value)} {cda0 cc0 : Addr} {xvs0 : Array Value} {xtf0 : Tok}
    (xl0 : K.lookup J0 = some ⟨xoc0, xod0, .func (PySem.W.ksFn "__init__" "BadFence.__init__" (defArgs s_BadFence_init) (defBody s_BadFence_init) (defScope s_BadFence_init) .none xkV0 xdc0 xpm0 xan0 (.ref cda0) xct0 cc0), xsl0⟩)
    (xd0 : PySem.W.codeIn K (.ref cda0) "BadFence.__init__" = true)
    (xe0 : K.lookup cda0 = some ⟨xccl0, xcdd0, .fields xvs0, xccs0⟩)
    (xv0 : xvs0[2]? = some (.str file xtf0))
    (xc0 : K.lookup cc0 = some ⟨xcl0, xcld0, .cell (some (.ref E0)), xcsl0⟩)
    (xk0 : PySem.W.keepIn K (.ref E0) = true)
    (xb0 : PySem.W.subIn K (.ref E0) (.type "BaseException") = some true)
    (xy0 : PySem.W.typeIn K (.ref E0) = some (.type "type"))
    (xj0 : PySem.W.hasDictIn K E0 = true)
    (xp0 : PySem.W.ks_superIn K E0 E0 "__init__" = some (some (.builtin "ValueError.__init__")))
    (xw0 : PySem.W.subIn K (.ref E0) (.type "ValueError") = some true)
    (xz0 : PySem.W.mroIn K E0 (.ref E0) = some true)
    (xo0 : PySem.W.nsIn K cStatics "thirdparty.any" = some none)
    (xu0 : PySem.W.nsIn K mainGlobals "super" = some none)
    (xca0 : PySem.W.findIn K (.ref E0) "__class__" = some (some (.builtin "object.__class__")))
    (xcb0 : PySem.W.specialIn K (.builtin "object.__class__") "__get__" = some (some (.builtin "getset_descriptor.__get__")))
    (xcc0 : PySem.W.takesIn K (.builtin "object.__class__") = some true)
    (xcd0 : PySem.W.mroIn K E0 (.type "object") = some true)
    (xn0_R1 : PySem.W.subIn K (.ref E0) (.ref R1) = some false)
    (xq0_R1 : (Value.ref E0 == Value.ref R1) = false)
    (xa0_0 : PySem.W.subIn K (.ref E0) (.ref R0) = some true)
    (xb0_0 : (Value.ref E0 == Value.ref R0) = false)
    (xsc0 : PySem.W.isClsIn K E0 = true)
    (xss0 : PySem.W.subIn K (.ref E0) (.ref E0) = some true)
    (su5_3 : PySem.W.ks_superIn K C3 C3 "lets" = some (some (.ref f3)))
    (sm5_3 : PySem.W.mroIn K C3 (.ref C3) = some true)
    (sI5_3 : PySem.W.isClsIn K C3 = true)
    (so5_3 : PySem.W.nsIn K cStatics "thirdparty.any" = some none)
    (sy5_3 : PySem.W.typeIn K (.ref f3) = some (.type "function"))
    (sf5_3 : PySem.W.fnIn K f3 = true)
    (su5_5 : PySem.W.ks_superIn K C5 C3 "lets" = some (some (.ref f6)))
    (sm5_5 : PySem.W.mroIn K C5 (.ref C3) = some true)
    (sI5_5 : PySem.W.isClsIn K C3 = true)
    (so5_5 : PySem.W.nsIn K cStatics "thirdparty.any" = some none)
    (sy5_5 : PySem.W.typeIn K (.ref f6) = some (.type "function"))
    (sf5_5 : PySem.W.fnIn K f6 = true)
    (su6_4 : PySem.W.ks_superIn K C4 C4 "lets" = some (some (.ref f3)))
    (sm6_4 : PySem.W.mroIn K C4 (.ref C4) = some true)
    (sI6_4 : PySem.W.isClsIn K C4 = true)
    (so6_4 : PySem.W.nsIn K cStatics "thirdparty.any" = some none)
    (sy6_4 : PySem.W.typeIn K (.ref f3) = some (.type "function"))
    (sf6_4 : PySem.W.fnIn K f3 = true)
    (su6_5 : PySem.W.ks_superIn K C5 C4 "lets" = some (some (.ref f3)))
    (sm6_5 : PySem.W.mroIn K C5 (.ref C4) = some true)
    (sI6_5 : PySem.W.isClsIn K C4 = true)
    (so6_5 : PySem.W.nsIn K cStatics "thirdparty.any" = some none)
    (sy6_5 : PySem.W.typeIn K (.ref f3) = some (.type "function"))
    (sf6_5 : PySem.W.fnIn K f3 = true)
    (su7_5 : PySem.W.ks_superIn K C5 C5 "lets" = some (some (.ref f5)))
    (sm7_5 : PySem.W.mroIn K C5 (.ref C5) = some true)
    (sI7_5 : PySem.W.isClsIn K C5 = true)
    (so7_5 : PySem.W.nsIn K cStatics "thirdparty.any" = some none)
    (sy7_5 : PySem.W.typeIn K (.ref f5) = some (.type "function"))
    (sf7_5 : PySem.W.fnIn K f5 = true)
    (nm2 : PySem.W.makesIn K C2 = true)
    (nt2 : PySem.W.findIn K (.ref C2) "__init__" = some (some (.builtin "object.__init__")))
    (nk2 : PySem.W.keepIn K (.ref C2) = true)
    (nm3 : PySem.W.makesIn K C3 = true)
    (nt3 : PySem.W.findIn K (.ref C3) "__init__" = some (some (.builtin "object.__init__")))
    (nk3 : PySem.W.keepIn K (.ref C3) = true)
    (ih3_le : PySem.W.findIn K (.ref C3) "__le__" = some (some (.ref f4)))
    (nm4 : PySem.W.makesIn K C4 = true)
    (nt4 : PySem.W.findIn K (.ref C4) "__init__" = some (some (.builtin "object.__init__")))
    (nk4 : PySem.W.keepIn K (.ref C4) = true)
    (ih4_le : PySem.W.findIn K (.ref C4) "__le__" = some (some (.ref f4)))
    (nm5 : PySem.W.makesIn K C5 = true)
    (nt5 : PySem.W.findIn K (.ref C5) "__init__" = some (some (.builtin "object.__init__")))
    (nk5 : PySem.W.keepIn K (.ref C5) = true)
    (ih5_le : PySem.W.findIn K (.ref C5) "__le__" = some (some (.ref f4)))
    (nm6 : PySem.W.makesIn K C6 = true)
    (nt6 : PySem.W.findIn K (.ref C6) "__init__" = some (some (.builtin "object.__init__")))
    (nk6 : PySem.W.keepIn K (.ref C6) = true)
    (ih6_le : PySem.W.findIn K (.ref C6) "__le__" = some (some (.ref f4)))
    (lg2 : PySem.W.findIn K (.ref C2) "__ge__" = some (some (.builtin "object.__ge__")))
    (lm2 : PySem.W.mroIn K C2 (.type "object") = some true)
    (kc2 : PySem.W.isClsIn K C2 = true)
    (kt2 : PySem.W.typeIn K (.ref C2) = some (.type "type"))
    (lg3 : PySem.W.findIn K (.ref C3) "__ge__" = some (some (.builtin "object.__ge__")))
    (lm3 : PySem.W.mroIn K C3 (.type "object") = some true)
    (kc3 : PySem.W.isClsIn K C3 = true)
    (kt3 : PySem.W.typeIn K (.ref C3) = some (.type "type"))
    (lg4 : PySem.W.findIn K (.ref C4) "__ge__" = some (some (.builtin "object.__ge__")))
    (lm4 : PySem.W.mroIn K C4 (.type "object") = some true)
    (kc4 : PySem.W.isClsIn K C4 = true)
    (kt4 : PySem.W.typeIn K (.ref C4) = some (.type "type"))
    (lg5 : PySem.W.findIn K (.ref C5) "__ge__" = some (some (.builtin "object.__ge__")))
    (lm5 : PySem.W.mroIn K C5 (.type "object") = some true)
    (kc5 : PySem.W.isClsIn K C5 = true)
    (kt5 : PySem.W.typeIn K (.ref C5) = some (.type "type"))
    (lg6 : PySem.W.findIn K (.ref C6) "__ge__" = some (some (.builtin "object.__ge__")))
    (lm6 : PySem.W.mroIn K C6 (.type "object") = some true)
    (kc6 : PySem.W.isClsIn K C6 = true)
    (kt6 : PySem.W.typeIn K (.ref C6) = some (.type "type"))
    (ls2_3 : PySem.W.subIn K (.ref C2) (.ref C3) = some false)
    (ln2_3 : (Value.ref C2 == Value.ref C3) = false)
    (ls2_4 : PySem.W.subIn K (.ref C2) (.ref C4) = some false)
    (ln2_4 : (Value.ref C2 == Value.ref C4) = false)
    (ls2_5 : PySem.W.subIn K (.ref C2) (.ref C5) = some false)
    (ln2_5 : (Value.ref C2 == Value.ref C5) = false)
    (ls2_6 : PySem.W.subIn K (.ref C2) (.ref C6) = some false)
    (ln2_6 : (Value.ref C2 == Value.ref C6) = false)
    (ls3_2 : PySem.W.subIn K (.ref C3) (.ref C2) = some true)
    (ln3_2 : (Value.ref C3 == Value.ref C2) = false)
    (ls3_4 : PySem.W.subIn K (.ref C3) (.ref C4) = some false)
    (ln3_4 : (Value.ref C3 == Value.ref C4) = false)
    (ls3_5 : PySem.W.subIn K (.ref C3) (.ref C5) = some false)
    (ln3_5 : (Value.ref C3 == Value.ref C5) = false)
    (ls3_6 : PySem.W.subIn K (.ref C3) (.ref C6) = some false)
    (ln3_6 : (Value.ref C3 == Value.ref C6) = false)
    (ls4_2 : PySem.W.subIn K (.ref C4) (.ref C2) = some true)
    (ln4_2 : (Value.ref C4 == Value.ref C2) = false)
    (ls4_3 : PySem.W.subIn K (.ref C4) (.ref C3) = some false)
    (ln4_3 : (Value.ref C4 == Value.ref C3) = false)
    (ls4_5 : PySem.W.subIn K (.ref C4) (.ref C5) = some false)
    (ln4_5 : (Value.ref C4 == Value.ref C5) = false)
    (ls4_6 : PySem.W.subIn K (.ref C4) (.ref C6) = some false)
    (ln4_6 : (Value.ref C4 == Value.ref C6) = false)
    (ls5_2 : PySem.W.subIn K (.ref C5) (.ref C2) = some true)
    (ln5_2 : (Value.ref C5 == Value.ref C2) = false)
    (ls5_3 : PySem.W.subIn K (.ref C5) (.ref C3) = some true)
    (ln5_3 : (Value.ref C5 == Value.ref C3) = false)
    (ls5_4 : PySem.W.subIn K (.ref C5) (.ref C4) = some true)
    (ln5_4 : (Value.ref C5 == Value.ref C4) = false)
    (ls5_6 : PySem.W.subIn K (.ref C5) (.ref C6) = some false)
    (ln5_6 : (Value.ref C5 == Value.ref C6) = false)
    (ls6_2 : PySem.W.subIn K (.ref C6) (.ref C2) = some true)
    (ln6_2 : (Value.ref C6 == Value.ref C2) = false)
    (ls6_3 : PySem.W.subIn K (.ref C6) (.ref C3) = some false)
    (ln6_3 : (Value.ref C6 == Value.ref C3) = false)
    (ls6_4 : PySem.W.subIn K (.ref C6) (.ref C4) = some false)
    (ln6_4 : (Value.ref C6 == Value.ref C4) = false)
    (ls6_5 : PySem.W.subIn K (.ref C6) (.ref C5) = some false)
    (ln6_5 : (Value.ref C6 == Value.ref C5) = false)
    : ∃ T : Top K mg W, T.a_law = f28 ∧ T.x_file = file ∧ ∀ (s : Shared) (v : Value), BindsTo s T.d_law ⟨[v], []⟩ [("_law_script", v)] := by
  have F0 := fun_mk (st := s_Entry_init) l0 c0 k0
  have F1 := fun_mk (st := s_Line_init) l1 c1 k1
  have F2 := fun_mk (st := s_Line_send) l2 c2 k2
  have F3 := fun_mk (st := s_Fence_lets) l3 c3 k3
  have F4 := fun_mk (st := s_Fence_le) l4 c4 k4
  have F8 := fun_mk (st := s_Last_lets) l8 c8 k8
  have F9 := fun_mk (st := s_fence_of) l9 c9 k9
  have F10 := fun_mk (st := s_mixed) l10 c10 k10
  have F11 := fun_mk (st := s_bag) l11 c11 k11
  have F12 := fun_mk (st := s_pick) l12 c12 k12
  have F13 := fun_mk (st := s_mingled) l13 c13 k13
  have F14 := fun_mk (st := s_new_name) l14 c14 k14
  have F15 := fun_mk (st := s_words) l15 c15 k15
  have F16 := fun_mk (st := s_lets) l16 c16 k16
  have F17 := fun_mk (st := s_cases) l17 c17 k17
  have F18 := fun_mk (st := s_at_most) l18 c18 k18
  have F19 := fun_mk (st := s_truth) l19 c19 k19
  have F20 := fun_mk (st := s_any_number) l20 c20 k20
  have F21 := fun_mk (st := s_other) l21 c21 k21
  have F22 := fun_mk (st := s_entry) l22 c22 k22
  have F23 := fun_mk (st := s_fields) l23 c23 k23
  have F24 := fun_mk (st := s_asked) l24 c24 k24
  have F25 := fun_mk (st := s_classes) l25 c25 k25
  have F26 := fun_mk (st := s_none) l26 c26 k26
  have F27 := fun_mk (st := s_refused) l27 c27 k27
  have F28 := fun_mk (st := s_law) l28 c28 k28
  exact ⟨⟨file,
    PySem.W.mg_none_of X G z0,
    PySem.W.mg_none_of X G z1,
    PySem.W.mg_none_of X G z2,
    PySem.W.mg_none_of X G z3,
    PySem.W.mg_none_of X G z4,
    PySem.W.mg_none_of X G z5,
    PySem.W.mg_none_of X G z6,
    PySem.W.mg_none_of X G z7,
    PySem.W.mg_none_of X G z8,
    PySem.W.mg_none_of X G z9,
    PySem.W.mg_none_of X G z10,
    f0,
    _,
    F0,
    F0.binds (ps := ["self", "owner", "word", "who", "ticket", "question", "answer"]) (fun _ _ _ _ _ _ us hl => match us, hl with | [_, _, _, _, _, _, _], _ => rfl),
    f1,
    _,
    F1,
    F1.binds (ps := ["self", "far", "room"]) (fun _ _ _ _ _ _ us hl => match us, hl with | [_, _, _], _ => rfl),
    f2,
    _,
    F2,
    F2.binds (ps := ["self", "owner", "word", "who", "question"]) (fun _ _ _ _ _ _ us hl => match us, hl with | [_, _, _, _, _], _ => rfl),
    f3,
    _,
    F3,
    F3.binds (ps := ["self", "entry", "who", "question", "ticket"]) (fun _ _ _ _ _ _ us hl => match us, hl with | [_, _, _, _, _], _ => rfl),
    f4,
    _,
    F4,
    F4.binds (ps := ["self", "other"]) (fun _ _ _ _ _ _ us hl => match us, hl with | [_, _], _ => rfl),
    f5,
    PySem.W.ksFn "lets" "Own.lets" (defArgs s_Own_lets) (defBody s_Own_lets) (defScope s_Own_lets) .none kV5 dc5 pm5 an5 (.ref cda5_) ct5 ccl5_,
    sup_binds (ps := ["self", "entry", "who", "question", "ticket"]) (fun us hl => match us, hl with | [_, _, _, _, _], _ => rfl),
    f6,
    PySem.W.ksFn "lets" "Same.lets" (defArgs s_Same_lets) (defBody s_Same_lets) (defScope s_Same_lets) .none kV6 dc6 pm6 an6 (.ref cda6_) ct6 ccl6_,
    sup_binds (ps := ["self", "entry", "who", "question", "ticket"]) (fun us hl => match us, hl with | [_, _, _, _, _], _ => rfl),
    f7,
    PySem.W.ksFn "lets" "Both.lets" (defArgs s_Both_lets) (defBody s_Both_lets) (defScope s_Both_lets) .none kV7 dc7 pm7 an7 (.ref cda7_) ct7 ccl7_,
    sup_binds (ps := ["self", "entry", "who", "question", "ticket"]) (fun us hl => match us, hl with | [_, _, _, _, _], _ => rfl),
    f8,
    _,
    F8,
    F8.binds (ps := ["self", "entry", "who", "question", "ticket"]) (fun _ _ _ _ _ _ us hl => match us, hl with | [_, _, _, _, _], _ => rfl),
    f9,
    _,
    F9,
    F9.binds (ps := ["word"]) (fun _ _ _ _ _ _ us hl => match us, hl with | [_], _ => rfl),
    PySem.W.mg_of X G a9,
    f10,
    _,
    F10,
    F10.binds (ps := ["_law_number", "_law_turn"]) (fun _ _ _ _ _ _ us hl => match us, hl with | [_, _], _ => rfl),
    PySem.W.mg_of X G a10,
    f11,
    _,
    F11,
    F11.binds (ps := ["_law_script"]) (fun _ _ _ _ _ _ us hl => match us, hl with | [_], _ => rfl),
    PySem.W.mg_of X G a11,
    f12,
    _,
    F12,
    F12.binds (ps := ["_law_bag_here", "_law_many"]) (fun _ _ _ _ _ _ us hl => match us, hl with | [_, _], _ => rfl),
    PySem.W.mg_of X G a12,
    f13,
    _,
    F13,
    F13.binds (ps := ["_law_bag_here", "_law_things"]) (fun _ _ _ _ _ _ us hl => match us, hl with | [_, _], _ => rfl),
    PySem.W.mg_of X G a13,
    f14,
    _,
    F14,
    F14.binds (ps := ["_law_bag_here", "_law_used"]) (fun _ _ _ _ _ _ us hl => match us, hl with | [_, _], _ => rfl),
    PySem.W.mg_of X G a14,
    f15,
    _,
    F15,
    F15.binds (ps := []) (fun _ _ _ _ _ _ us hl => match us, hl with | [], _ => rfl),
    PySem.W.mg_of X G a15,
    f16,
    _,
    F16,
    F16.binds (ps := ["_law_word", "_law_own", "_law_same", "_law_last"]) (fun _ _ _ _ _ _ us hl => match us, hl with | [_, _, _, _], _ => rfl),
    PySem.W.mg_of X G a16,
    f17,
    _,
    F17,
    F17.binds (ps := []) (fun _ _ _ _ _ _ us hl => match us, hl with | [], _ => rfl),
    PySem.W.mg_of X G a17,
    f18,
    _,
    F18,
    F18.binds (ps := ["_law_first", "_law_second"]) (fun _ _ _ _ _ _ us hl => match us, hl with | [_, _], _ => rfl),
    PySem.W.mg_of X G a18,
    f19,
    _,
    F19,
    F19.binds (ps := ["_law_told", "_law_due"]) (fun _ _ _ _ _ _ us hl => match us, hl with | [_, _], _ => rfl),
    PySem.W.mg_of X G a19,
    f20,
    _,
    F20,
    F20.binds (ps := ["_law_bag_here"]) (fun _ _ _ _ _ _ us hl => match us, hl with | [_], _ => rfl),
    PySem.W.mg_of X G a20,
    f21,
    _,
    F21,
    F21.binds (ps := ["_law_bag_here", "_law_number"]) (fun _ _ _ _ _ _ us hl => match us, hl with | [_, _], _ => rfl),
    PySem.W.mg_of X G a21,
    f22,
    _,
    F22,
    F22.binds (ps := ["_law_bag_here", "_law_row"]) (fun _ _ _ _ _ _ us hl => match us, hl with | [_, _], _ => rfl),
    PySem.W.mg_of X G a22,
    f23,
    _,
    F23,
    F23.binds (ps := ["_law_entry_here"]) (fun _ _ _ _ _ _ us hl => match us, hl with | [_], _ => rfl),
    PySem.W.mg_of X G a23,
    f24,
    _,
    F24,
    F24.binds (ps := ["_law_bag_here", "_law_fences", "_law_entry_here", "_law_row"]) (fun _ _ _ _ _ _ us hl => match us, hl with | [_, _, _, _], _ => rfl),
    PySem.W.mg_of X G a24,
    f25,
    _,
    F25,
    F25.binds (ps := ["_law_fences"]) (fun _ _ _ _ _ _ us hl => match us, hl with | [_], _ => rfl),
    PySem.W.mg_of X G a25,
    f26,
    _,
    F26,
    F26.binds (ps := ["_law_bag_here"]) (fun _ _ _ _ _ _ us hl => match us, hl with | [_], _ => rfl),
    PySem.W.mg_of X G a26,
    f27,
    _,
    F27,
    F27.binds (ps := ["_law_word"]) (fun _ _ _ _ _ _ us hl => match us, hl with | [_], _ => rfl),
    PySem.W.mg_of X G a27,
    f28,
    _,
    F28,
    F28.binds (ps := ["_law_script"]) (fun _ _ _ _ _ _ us hl => match us, hl with | [_], _ => rfl),
    PySem.W.mg_of X G a28,
    C0,
    PySem.W.mg_of X G ca0,
    ⟨cg0, ch0, co0, cs0⟩,
    cf0_0,
    cf0_1,
    cf0_2,
    cf0_3,
    cf0_4,
    cf0_5,
    ⟨cm0, a0, i0, ck0⟩,
    C1,
    PySem.W.mg_of X G ca1,
    ⟨cg1, ch1, co1, cs1⟩,
    cf1_0,
    cf1_1,
    cf1_2,
    cf1_3,
    cf1_4,
    ⟨cm1, a1, i1, ck1⟩,
    ⟨a2, i2, k2⟩,
    C2,
    PySem.W.mg_of X G ca2,
    ⟨cg2, ch2, co2, cs2⟩,
    ⟨a3, i3, k3⟩,
    ⟨a4, i4⟩,
    ⟨ct2_a, ct2_b, ct2_c, ct2_d, if_pos (beq_self_eq_true _)⟩,
    C3,
    PySem.W.mg_of X G ca3,
    ⟨cg3, ch3, co3, cs3⟩,
    ⟨a5, i5, k5⟩,
    ⟨ct3_a, ct3_b, ct3_c, ct3_d, if_pos (beq_self_eq_true _)⟩,
    C4,
    PySem.W.mg_of X G ca4,
    ⟨cg4, ch4, co4, cs4⟩,
    ⟨a6, i6, k6⟩,
    ⟨ct4_a, ct4_b, ct4_c, ct4_d, if_pos (beq_self_eq_true _)⟩,
    C5,
    PySem.W.mg_of X G ca5,
    ⟨cg5, ch5, co5, cs5⟩,
    ⟨a7, i7, k7⟩,
    ⟨ct5_a, ct5_b, ct5_c, ct5_d, if_pos (beq_self_eq_true _)⟩,
    C6,
    PySem.W.mg_of X G ca6,
    ⟨cg6, ch6, co6, cs6⟩,
    ⟨a8, i8, k8⟩,
    ⟨ct6_a, ct6_b, ct6_c, ct6_d, if_pos (beq_self_eq_true _)⟩,
    ⟨_, _, _, _, _, _, _, _, _, _, _, _, _, _, _, _, _, _, rfl, l5, c5, se5, sv5, sq5⟩,
    ⟨su5_3, sm5_3, sI5_3, so5_3, sy5_3, sf5_3⟩,
    ⟨su5_5, sm5_5, sI5_5, so5_5, sy5_5, sf5_5⟩,
    ⟨_, _, _, _, _, _, _, _, _, _, _, _, _, _, _, _, _, _, rfl, l6, c6, se6, sv6, sq6⟩,
    ⟨su6_4, sm6_4, sI6_4, so6_4, sy6_4, sf6_4⟩,
    ⟨su6_5, sm6_5, sI6_5, so6_5, sy6_5, sf6_5⟩,
    ⟨_, _, _, _, _, _, _, _, _, _, _, _, _, _, _, _, _, _, rfl, l7, c7, se7, sv7, sq7⟩,
    ⟨su7_5, sm7_5, sI7_5, so7_5, sy7_5, sf7_5⟩,
    ⟨nm2, nt2, nk2⟩,
    ⟨nm3, nt3, nk3⟩,
    ih3_le,
    ⟨nm4, nt4, nk4⟩,
    ih4_le,
    ⟨nm5, nt5, nk5⟩,
    ih5_le,
    ⟨nm6, nt6, nk6⟩,
    ih6_le,
    le_self,
    le_below ln2_3 ls3_2 lg3 lm3,
    le_below ln2_4 ls4_2 lg4 lm4,
    le_below ln2_5 ls5_2 lg5 lm5,
    le_below ln2_6 ls6_2 lg6 lm6,
    le_no ls2_3,
    le_self,
    le_no ls4_3,
    le_below ln3_5 ls5_3 lg5 lm5,
    le_no ls6_3,
    le_no ls2_4,
    le_no ls3_4,
    le_self,
    le_below ln4_5 ls5_4 lg5 lm5,
    le_no ls6_4,
    le_no ls2_5,
    le_no ls3_5,
    le_no ls4_5,
    le_self,
    le_no ls6_5,
    le_no ls2_6,
    le_no ls3_6,
    le_no ls4_6,
    le_no ls5_6,
    le_self,
    if_pos (beq_self_eq_true _),
    kit_of ln2_3 kc3 kt3 ls2_3,
    kit_of ln2_4 kc4 kt4 ls2_4,
    kit_of ln2_5 kc5 kt5 ls2_5,
    kit_of ln2_6 kc6 kt6 ls2_6,
    kit_of ln3_2 kc2 kt2 ls3_2,
    if_pos (beq_self_eq_true _),
    kit_of ln3_4 kc4 kt4 ls3_4,
    kit_of ln3_5 kc5 kt5 ls3_5,
    kit_of ln3_6 kc6 kt6 ls3_6,
    kit_of ln4_2 kc2 kt2 ls4_2,
    kit_of ln4_3 kc3 kt3 ls4_3,
    if_pos (beq_self_eq_true _),
    kit_of ln4_5 kc5 kt5 ls4_5,
    kit_of ln4_6 kc6 kt6 ls4_6,
    kit_of ln5_2 kc2 kt2 ls5_2,
    kit_of ln5_3 kc3 kt3 ls5_3,
    kit_of ln5_4 kc4 kt4 ls5_4,
    if_pos (beq_self_eq_true _),
    kit_of ln5_6 kc6 kt6 ls5_6,
    kit_of ln6_2 kc2 kt2 ls6_2,
    kit_of ln6_3 kc3 kt3 ls6_3,
    kit_of ln6_4 kc4 kt4 ls6_4,
    kit_of ln6_5 kc5 kt5 ls6_5,
    if_pos (beq_self_eq_true _),
    R0,
    PySem.W.mg_of X G ra0,
    R1,
    PySem.W.mg_of X G ra1,
    E0,
    J0,
    PySem.W.mg_of X G xa0,
    fun P pf => { gC := PySem.W.mg_of X G xa0, cls := ⟨_, _, _, _, _, _, _, _, _, _, _, _, _, _, _, xL0, xr0⟩, sa := xs0, ga := xg0, gg := xh0, noN := xf0, iC := xi0, tC := xt0, kC := xk0, exC := xb0, tyC := xy0, hdC := xj0, fn := ⟨_, _, _, _, _, _, _, _, _, _, _, ⟨9, 17, 9, 21⟩, ⟨9, 23, 9, 28⟩, ⟨⟨10, 8, 10, 13⟩, ⟨10, 8, 10, 15⟩, ⟨10, 8, 10, 24⟩, ⟨10, 27, 10, 40⟩, ⟨10, 41, 10, 46⟩, ⟨10, 40, 10, 49⟩, ⟨10, 25, 10, 50⟩, ⟨10, 8, 10, 51⟩, ⟨10, 8, 10, 51⟩, ⟨11, 8, 11, 12⟩, ⟨11, 8, 11, 18⟩, ⟨11, 21, 11, 26⟩, ⟨11, 8, 11, 26⟩, 114, .inl rfl⟩, _, _, _, _, _, _, _, _, _, xl0, xd0, xe0, xv0, pf.1, xc0, ⟨_, fun _ => rfl⟩, fun _ _ => rfl⟩, sup := xp0, subV := xw0, mroS := xz0, opq := xo0, htop := pf.2, hsup := PySem.W.mg_none_of X G xu0, f1 := by decide, f2 := by decide, f3 := by decide, f4 := by decide, ml := by decide +kernel },
    ⟨xg0, xh0, xb0, xj0, xca0, xcb0, xcc0, xcd0⟩,
    ⟨xg0, xh0, xb0, xj0⟩,
    kit_of xq0_R1 rb1 rc1 xn0_R1,
    kit_of xb0_0 rb0 rc0 xa0_0,
    kit_ty_of (by decide +kernel) xw0,
    exm_of xb0 xsc0 xy0 xss0⟩, rfl, rfl, fun s v => .of_eq rfl⟩
end K45
set_option Elab.async false
set_option linter.all false
set_option maxRecDepth 100000
set_option maxHeartbeats 4000000
namespace K45
open PySem PySem.Spec PyProof.Rows L2 XL
end K45
open PySem PySem.W PyProof.Rows
set_option maxHeartbeats 0 in
theorem PySem.Challenge.cw_drawnanew_k45_fences_let_holds : PySem.Challenge.rw_drawnanew_k45_fences_let.Holds := by
  w_on; o_law; k_head; (case hw => w_witness2)
  k_fill
  refine L2.walk_of (l := PySem.Challenge.rw_drawnanew_k45_fences_let) (n := 63) (k := 22) (x := "_law_script") (CX := fun _ => L2.CX0) (sp := fun w => K45.spLaw _) rfl (by decide) rfl ⟨rfl, by decide, by decide⟩ (fun w h Y => PySem.W.kIn_of Y) ?F (fun _ _ a ns hl _ hS => ⟨a, ns, rfl, hS, hl, fun _ => rfl⟩) (fun _ _ _ _ _ h => h)
  case F =>
    intro w mg fa h KX G hmg
    refine' K45.law_end KX G hmg (K45.top_mk (W := w) KX G ?ca0 ?ca1 ?ca2 ?ca3 ?ca4 ?ca5 ?ca6 ?a0 ?i0 ?l0 ?c0 ?k0 ?a1 ?i1 ?l1 ?c1 ?k1 ?a2 ?i2 ?l2 ?c2 ?k2 ?a3 ?i3 ?l3 ?c3 ?k3 ?a4 ?i4 ?l4 ?c4 ?k4 ?a5 ?i5 ?l5 ?c5 ?k5 ?se5 ?sv5 ?sq5 ?a6 ?i6 ?l6 ?c6 ?k6 ?se6 ?sv6 ?sq6 ?a7 ?i7 ?l7 ?c7 ?k7 ?se7 ?sv7 ?sq7 ?a8 ?i8 ?l8 ?c8 ?k8 ?a9 ?l9 ?c9 ?k9 ?a10 ?l10 ?c10 ?k10 ?a11 ?l11 ?c11 ?k11 ?a12 ?l12 ?c12 ?k12 ?a13 ?l13 ?c13 ?k13 ?a14 ?l14 ?c14 ?k14 ?a15 ?l15 ?c15 ?k15 ?a16 ?l16 ?c16 ?k16 ?a17 ?l17 ?c17 ?k17 ?a18 ?l18 ?c18 ?k18 ?a19 ?l19 ?c19 ?k19 ?a20 ?l20 ?c20 ?k20 ?a21 ?l21 ?c21 ?k21 ?a22 ?l22 ?c22 ?k22 ?a23 ?l23 ?c23 ?k23 ?a24 ?l24 ?c24 ?k24 ?a25 ?l25 ?c25 ?k25 ?a26 ?l26 ?c26 ?k26 ?a27 ?l27 ?c27 ?k27 ?a28 ?l28 ?c28 ?k28 ?z0 ?z1 ?z2 ?z3 ?z4 ?z5 ?z6 ?z7 ?z8 ?z9 ?z10 ?cg0 ?ch0 ?co0 ?cs0 ?cf0_0 ?cf0_1 ?cf0_2 ?cf0_3 ?cf0_4 ?cf0_5 ?cm0 ?ck0 ?cg1 ?ch1 ?co1 ?cs1 ?cf1_0 ?cf1_1 ?cf1_2 ?cf1_3 ?cf1_4 ?cm1 ?ck1 ?cg2 ?ch2 ?co2 ?cs2 ?ct2_a ?ct2_b ?ct2_c ?ct2_d ?cg3 ?ch3 ?co3 ?cs3 ?ct3_a ?ct3_b ?ct3_c ?ct3_d ?cg4 ?ch4 ?co4 ?cs4 ?ct4_a ?ct4_b ?ct4_c ?ct4_d ?cg5 ?ch5 ?co5 ?cs5 ?ct5_a ?ct5_b ?ct5_c ?ct5_d ?cg6 ?ch6 ?co6 ?cs6 ?ct6_a ?ct6_b ?ct6_c ?ct6_d ?xa0 ?ra0 ?rb0 ?rc0 ?ra1 ?rb1 ?rc1 ?xL0 ?xr0 ?xs0 ?xg0 ?xh0 ?xf0 ?xi0 ?xt0 ?xl0 ?xd0 ?xe0 ?xv0 ?xc0 ?xk0 ?xb0 ?xy0 ?xj0 ?xp0 ?xw0 ?xz0 ?xo0 ?xu0 ?xca0 ?xcb0 ?xcc0 ?xcd0 ?xn0_R1 ?xq0_R1 ?xa0_0 ?xb0_0 ?xsc0 ?xss0 ?su5_3 ?sm5_3 ?sI5_3 ?so5_3 ?sy5_3 ?sf5_3 ?su5_5 ?sm5_5 ?sI5_5 ?so5_5 ?sy5_5 ?sf5_5 ?su6_4 ?sm6_4 ?sI6_4 ?so6_4 ?sy6_4 ?sf6_4 ?su6_5 ?sm6_5 ?sI6_5 ?so6_5 ?sy6_5 ?sf6_5 ?su7_5 ?sm7_5 ?sI7_5 ?so7_5 ?sy7_5 ?sf7_5 ?nm2 ?nt2 ?nk2 ?nm3 ?nt3 ?nk3 ?ih3_le ?nm4 ?nt4 ?nk4 ?ih4_le ?nm5 ?nt5 ?nk5 ?ih5_le ?nm6 ?nt6 ?nk6 ?ih6_le ?lg2 ?lm2 ?kc2 ?kt2 ?lg3 ?lm3 ?kc3 ?kt3 ?lg4 ?lm4 ?kc4 ?kt4 ?lg5 ?lm5 ?kc5 ?kt5 ?lg6 ?lm6 ?kc6 ?kt6 ?ls2_3 ?ln2_3 ?ls2_4 ?ln2_4 ?ls2_5 ?ln2_5 ?ls2_6 ?ln2_6 ?ls3_2 ?ln3_2 ?ls3_4 ?ln3_4 ?ls3_5 ?ln3_5 ?ls3_6 ?ln3_6 ?ls4_2 ?ln4_2 ?ls4_3 ?ln4_3 ?ls4_5 ?ln4_5 ?ls4_6 ?ln4_6 ?ls5_2 ?ln5_2 ?ls5_3 ?ln5_3 ?ls5_4 ?ln5_4 ?ls5_6 ?ln5_6 ?ls6_2 ?ln6_2 ?ls6_3 ?ln6_3 ?ls6_4 ?ln6_4 ?ls6_5 ?ln6_5) ?pf
    (case ca0 => k_is)
    (case ca1 => k_is)
    (case ca2 => k_is)
    (case ca3 => k_is)
    (case ca4 => k_is)
    (case ca5 => k_is)
    (case ca6 => k_is)
    (case a0 => k_is)
    (case i0 => k_is)
    (case l0 => k_is)
    (case c0 => k_is)
    (case k0 => k_is)
    (case a1 => k_is)
    (case i1 => k_is)
    (case l1 => k_is)
    (case c1 => k_is)
    (case k1 => k_is)
    (case a2 => k_is)
    (case i2 => k_is)
    (case l2 => k_is)
    (case c2 => k_is)
    (case k2 => k_is)
    (case a3 => k_is)
    (case i3 => k_is)
    (case l3 => k_is)
    (case c3 => k_is)
    (case k3 => k_is)
    (case a4 => k_is)
    (case i4 => k_is)
    (case l4 => k_is)
    (case c4 => k_is)
    (case k4 => k_is)
    (case a5 => k_is)
    (case i5 => k_is)
    (case l5 => k_is)
    (case c5 => k_is)
    (case k5 => k_is)
    (case se5 => k_is)
    (case sv5 => rfl)
    (case sq5 => k_is)
    (case a6 => k_is)
    (case i6 => k_is)
    (case l6 => k_is)
    (case c6 => k_is)
    (case k6 => k_is)
    (case se6 => k_is)
    (case sv6 => rfl)
    (case sq6 => k_is)
    (case a7 => k_is)
    (case i7 => k_is)
    (case l7 => k_is)
    (case c7 => k_is)
    (case k7 => k_is)
    (case se7 => k_is)
    (case sv7 => rfl)
    (case sq7 => k_is)
    (case a8 => k_is)
    (case i8 => k_is)
    (case l8 => k_is)
    (case c8 => k_is)
    (case k8 => k_is)
    (case a9 => k_is)
    (case l9 => k_is)
    (case c9 => k_is)
    (case k9 => k_is)
    (case a10 => k_is)
    (case l10 => k_is)
    (case c10 => k_is)
    (case k10 => k_is)
    (case a11 => k_is)
    (case l11 => k_is)
    (case c11 => k_is)
    (case k11 => k_is)
    (case a12 => k_is)
    (case l12 => k_is)
    (case c12 => k_is)
    (case k12 => k_is)
    (case a13 => k_is)
    (case l13 => k_is)
    (case c13 => k_is)
    (case k13 => k_is)
    (case a14 => k_is)
    (case l14 => k_is)
    (case c14 => k_is)
    (case k14 => k_is)
    (case a15 => k_is)
    (case l15 => k_is)
    (case c15 => k_is)
    (case k15 => k_is)
    (case a16 => k_is)
    (case l16 => k_is)
    (case c16 => k_is)
    (case k16 => k_is)
    (case a17 => k_is)
    (case l17 => k_is)
    (case c17 => k_is)
    (case k17 => k_is)
    (case a18 => k_is)
    (case l18 => k_is)
    (case c18 => k_is)
    (case k18 => k_is)
    (case a19 => k_is)
    (case l19 => k_is)
    (case c19 => k_is)
    (case k19 => k_is)
    (case a20 => k_is)
    (case l20 => k_is)
    (case c20 => k_is)
    (case k20 => k_is)
    (case a21 => k_is)
    (case l21 => k_is)
    (case c21 => k_is)
    (case k21 => k_is)
    (case a22 => k_is)
    (case l22 => k_is)
    (case c22 => k_is)
    (case k22 => k_is)
    (case a23 => k_is)
    (case l23 => k_is)
    (case c23 => k_is)
    (case k23 => k_is)
    (case a24 => k_is)
    (case l24 => k_is)
    (case c24 => k_is)
    (case k24 => k_is)
    (case a25 => k_is)
    (case l25 => k_is)
    (case c25 => k_is)
    (case k25 => k_is)
    (case a26 => k_is)
    (case l26 => k_is)
    (case c26 => k_is)
    (case k26 => k_is)
    (case a27 => k_is)
    (case l27 => k_is)
    (case c27 => k_is)
    (case k27 => k_is)
    (case a28 => k_is)
    (case l28 => k_is)
    (case c28 => k_is)
    (case k28 => k_is)
    (case z0 => k_is)
    (case z1 => k_is)
    (case z2 => k_is)
    (case z3 => k_is)
    (case z4 => k_is)
    (case z5 => k_is)
    (case z6 => k_is)
    (case z7 => k_is)
    (case z8 => k_is)
    (case z9 => k_is)
    (case z10 => k_is)
    (case cg0 => k_is)
    (case ch0 => k_is)
    (case co0 => k_is)
    (case cs0 => k_is)
    (case cf0_0 => k_is)
    (case cf0_1 => k_is)
    (case cf0_2 => k_is)
    (case cf0_3 => k_is)
    (case cf0_4 => k_is)
    (case cf0_5 => k_is)
    (case cm0 => k_is)
    (case ck0 => k_is)
    (case cg1 => k_is)
    (case ch1 => k_is)
    (case co1 => k_is)
    (case cs1 => k_is)
    (case cf1_0 => k_is)
    (case cf1_1 => k_is)
    (case cf1_2 => k_is)
    (case cf1_3 => k_is)
    (case cf1_4 => k_is)
    (case cm1 => k_is)
    (case ck1 => k_is)
    (case cg2 => k_is)
    (case ch2 => k_is)
    (case co2 => k_is)
    (case cs2 => k_is)
    (case ct2_a => k_is)
    (case ct2_b => k_is)
    (case ct2_c => k_is)
    (case ct2_d => k_is)
    (case cg3 => k_is)
    (case ch3 => k_is)
    (case co3 => k_is)
    (case cs3 => k_is)
    (case ct3_a => k_is)
    (case ct3_b => k_is)
    (case ct3_c => k_is)
    (case ct3_d => k_is)
    (case cg4 => k_is)
    (case ch4 => k_is)
    (case co4 => k_is)
    (case cs4 => k_is)
    (case ct4_a => k_is)
    (case ct4_b => k_is)
    (case ct4_c => k_is)
    (case ct4_d => k_is)
    (case cg5 => k_is)
    (case ch5 => k_is)
    (case co5 => k_is)
    (case cs5 => k_is)
    (case ct5_a => k_is)
    (case ct5_b => k_is)
    (case ct5_c => k_is)
    (case ct5_d => k_is)
    (case cg6 => k_is)
    (case ch6 => k_is)
    (case co6 => k_is)
    (case cs6 => k_is)
    (case ct6_a => k_is)
    (case ct6_b => k_is)
    (case ct6_c => k_is)
    (case ct6_d => k_is)
    (case xa0 => k_is)
    (case ra0 => k_is)
    (case rb0 => k_is)
    (case rc0 => k_is)
    (case ra1 => k_is)
    (case rb1 => k_is)
    (case rc1 => k_is)
    (case xL0 => k_is)
    (case xr0 => first | rfl | decide +kernel)
    (case xs0 => k_is)
    (case xg0 => k_is)
    (case xh0 => k_is)
    (case xf0 => k_is)
    (case xi0 => k_is)
    (case xt0 => k_is)
    (case xl0 => k_is)
    (case xd0 => k_is)
    (case xe0 => k_is)
    (case xv0 => rfl)
    (case xc0 => k_is)
    (case xk0 => k_is)
    (case xb0 => k_is)
    (case xy0 => k_is)
    (case xj0 => k_is)
    (case xp0 => ks_is)
    (case xw0 => k_is)
    (case xz0 => k_is)
    (case xo0 => k_is)
    (case xu0 => k_is)
    (case xca0 => k_is)
    (case xcb0 => k_is)
    (case xcc0 => k_is)
    (case xcd0 => k_is)
    (case xn0_R1 => k_is)
    (case xq0_R1 => rfl)
    (case xa0_0 => k_is)
    (case xb0_0 => rfl)
    (case xsc0 => k_is)
    (case xss0 => k_is)
    (case su5_3 => ks_is)
    (case sm5_3 => k_is)
    (case sI5_3 => k_is)
    (case so5_3 => k_is)
    (case sy5_3 => k_is)
    (case sf5_3 => k_is)
    (case su5_5 => ks_is)
    (case sm5_5 => k_is)
    (case sI5_5 => k_is)
    (case so5_5 => k_is)
    (case sy5_5 => k_is)
    (case sf5_5 => k_is)
    (case su6_4 => ks_is)
    (case sm6_4 => k_is)
    (case sI6_4 => k_is)
    (case so6_4 => k_is)
    (case sy6_4 => k_is)
    (case sf6_4 => k_is)
    (case su6_5 => ks_is)
    (case sm6_5 => k_is)
    (case sI6_5 => k_is)
    (case so6_5 => k_is)
    (case sy6_5 => k_is)
    (case sf6_5 => k_is)
    (case su7_5 => ks_is)
    (case sm7_5 => k_is)
    (case sI7_5 => k_is)
    (case so7_5 => k_is)
    (case sy7_5 => k_is)
    (case sf7_5 => k_is)
    (case nm2 => k_is)
    (case nt2 => k_is)
    (case nk2 => k_is)
    (case nm3 => k_is)
    (case nt3 => k_is)
    (case nk3 => k_is)
    (case ih3_le => k_is)
    (case nm4 => k_is)
    (case nt4 => k_is)
    (case nk4 => k_is)
    (case ih4_le => k_is)
    (case nm5 => k_is)
    (case nt5 => k_is)
    (case nk5 => k_is)
    (case ih5_le => k_is)
    (case nm6 => k_is)
    (case nt6 => k_is)
    (case nk6 => k_is)
    (case ih6_le => k_is)
    (case lg2 => k_is)
    (case lm2 => k_is)
    (case kc2 => k_is)
    (case kt2 => k_is)
    (case lg3 => k_is)
    (case lm3 => k_is)
    (case kc3 => k_is)
    (case kt3 => k_is)
    (case lg4 => k_is)
    (case lm4 => k_is)
    (case kc4 => k_is)
    (case kt4 => k_is)
    (case lg5 => k_is)
    (case lm5 => k_is)
    (case kc5 => k_is)
    (case kt5 => k_is)
    (case lg6 => k_is)
    (case lm6 => k_is)
    (case kc6 => k_is)
    (case kt6 => k_is)
    (case ls2_3 => k_is)
    (case ln2_3 => rfl)
    (case ls2_4 => k_is)
    (case ln2_4 => rfl)
    (case ls2_5 => k_is)
    (case ln2_5 => rfl)
    (case ls2_6 => k_is)
    (case ln2_6 => rfl)
    (case ls3_2 => k_is)
    (case ln3_2 => rfl)
    (case ls3_4 => k_is)
    (case ln3_4 => rfl)
    (case ls3_5 => k_is)
    (case ln3_5 => rfl)
    (case ls3_6 => k_is)
    (case ln3_6 => rfl)
    (case ls4_2 => k_is)
    (case ln4_2 => rfl)
    (case ls4_3 => k_is)
    (case ln4_3 => rfl)
    (case ls4_5 => k_is)
    (case ln4_5 => rfl)
    (case ls4_6 => k_is)
    (case ln4_6 => rfl)
    (case ls5_2 => k_is)
    (case ln5_2 => rfl)
    (case ls5_3 => k_is)
    (case ln5_3 => rfl)
    (case ls5_4 => k_is)
    (case ln5_4 => rfl)
    (case ls5_6 => k_is)
    (case ln5_6 => rfl)
    (case ls6_2 => k_is)
    (case ln6_2 => rfl)
    (case ls6_3 => k_is)
    (case ln6_3 => rfl)
    (case ls6_4 => k_is)
    (case ln6_4 => rfl)
    (case ls6_5 => k_is)
    (case ln6_5 => rfl)
    (case pf => exact ⟨by first | rfl | decide +kernel, by first | rfl | decide +kernel⟩)
