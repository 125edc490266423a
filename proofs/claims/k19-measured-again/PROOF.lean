import PyProof.Rows.All
import Wide.All
import OpenK.AllK
import Wide.FinOn
import HandS.ForMost
import HandS.Flow
import HandS.IsInst
import HandS.Wide
import HandS.Walk
import PyProof.Rows.IntBool
import HandS.Property
import HandS.Star
import HandS.OwnEq
import HandS.SetFor
import KE.GoesEnum
import KE.GoesMore
import HandS.Strs
import HandS.Deep
import HandS.TupAny
import KE.KRevSl
import KE.KOpsOwn
import HandS.ForExc
import HandS.FStr
import HandS.ExcField
import HandS.ExcIs
import HandS.ExcSuper
import KE.KExcSuper
import KE.KExcIs
import HandS.OwnIter
import HandS.IterNext
import HandS.Text
import HandS.Zip
import HandS.HotCalls
import PyProof.ReprRoads
import HandS.Ends
import PyProof.AutoSeq1
import HandS.IterVal
import OpenK.KMake
import HandS.Defaults
import HandS.NoneIn
import HandS.Style
import OpenK.KWalk
import PyProof.StrLawsRepr
import HandS.Conv
import PySem.Challenge.RW_drawnanew_k19_measured_again
set_option Elab.async false
set_option linter.all false
set_option maxRecDepth 100000
set_option maxHeartbeats 4000000
/-! XBase: readings that compute, over the hand layer; the heap cut into a part that only grows and cells that change. -/
namespace XL
open PySem PySem.Spec PyProof.Rows L2
abbrev St := L2.St

/-! ### a reading may be exchanged for a stronger one -/
theorem pe_str {X : Cx} {e : Expr} {t t' : TE} (h : PE X e t) (k : ∀ σ H Q, t' σ H Q → t σ H Q) : PE X e t' := ⟨fun pins s σ H Q I q => h.run pins s σ H Q I (k σ H Q q)⟩
theorem pt_str {X : Cx} {e : Expr} {t t' : TT} (h : PT X e t) (k : ∀ σ H Q, t' σ H Q → t σ H Q) : PT X e t' := ⟨fun pins s σ H Q I q => h.run pins s σ H Q I (k σ H Q q)⟩
theorem ps_str {X : Cx} {e : Stmt} {t t' : TS} (h : PS X e t) (k : ∀ D σ H, t' D σ H → t D σ H) : PS X e t' := ⟨fun pins s σ H D I q => h.run pins s σ H D I (k D σ H q)⟩
theorem or_str {X : Cx} {f : Value → Value → Sem Value} {r r' : R2} (h : OpR X f r) (k : ∀ x y H Q, r' x y H Q → r x y H Q) : OpR X f r' := fun pins s σ H x y v u Q I rx ry q => h pins s σ H x y v u Q I rx ry (k x y H Q q)
theorem cr_str {X : Cx} {f : Value} {r r' : List V → Hp → VK → Prop} (h : CallR X f r) (k : ∀ xs H Q, r' xs H Q → r xs H Q) : CallR X f r' := fun pins s σ H xs us Q I rx q => h pins s σ H xs us Q I rx (k xs H Q q)
theorem OpR.or {X : Cx} {f : Value → Value → Sem Value} {r r' : R2} (h : OpR X f r) (h' : OpR X f r') : OpR X f (fun x y H Q => r x y H Q ∨ r' x y H Q) := by
  intro pins s σ H x y v u Q I rx ry q
  rcases q with q | q
  · exact h pins s σ H x y v u Q I rx ry q
  · exact h' pins s σ H x y v u Q I rx ry q

/-! ### names -/
def nth : St → Nat → Option V
  | [], _ => none
  | x :: _, 0 => x
  | _ :: r, n + 1 => nth r n
theorem nth_get : ∀ {σ : St} {i : Nat} {v : V}, nth σ i = some v → σ[i]? = some (some v)
  | [], _, _, h => nomatch h
  | _ :: _, 0, _, h => congrArg some h
  | _ :: r, n + 1, _, h => by
    rw [List.getElem?_cons_succ]
    exact nth_get (σ := r) h
def xVar (i : Nat) : TE := fun σ H Q => match nth σ i with
  | some v => Q v H
  | none => False
section
variable {X : Cx} {a b c : Expr} {ta tb tc : TE} {pos : Pos} {tA tB' : TT} {rest : List Expr}
theorem xv (i : Nat) {x : Str} {pos : Pos} (hN : X.N[i]? = some x := by rfl) (hv : Vis X.env.scope x := by first | exact Or.inl rfl | exact Or.inr (Or.inl rfl) | exact Or.inr (Or.inr rfl)) (hd : (x == ("__debug__" : Str)) = false := by decide)
    (hcd : (x == ("__classdict__" : Str)) = false := by decide) : PE X (.Name x pos) (xVar i) := pe_str (pe_var hN hv hd hcd) fun σ H Q h => by
  unfold xVar at h
  cases e : nth σ i with
  | none => rw [e] at h; exact h.elim
  | some v => rw [e] at h; exact ⟨v, nth_get e, h⟩

/-! ### arithmetic -/
theorem op_mul_ib : OpR X (binaryOp .Mult) (fun x y H Q => ∃ i k, x = .int i ∧ y = .bl k ∧ Q (.int (i * b2i k)) H) := by
  intro pins s σ H x y v u Q I rx ry h
  obtain ⟨i, k, rfl, rfl, q⟩ := h
  obtain ⟨t, rfl⟩ := rx
  cases ry
  refine PySem.IntBool.mul_int_bool ?_
  have e : (if k = true then (1 : Int) else 0) = b2i k := by cases k <;> rfl
  rw [e]
  exact ⟨.int (i * b2i k), H, I.tok _, ⟨_, rfl⟩, q⟩
def yAdd : R2 := fun x y H Q => match x, y with
  | .int i, .int j => Q (.int (i + j)) H
  | .int i, .bl k => Q (.int (i + b2i k)) H
  | .str a, .str b => a.length + b.length ≤ sizeLine ∧ ∀ r : Str, r = a ++ b → Q (.str r) H
  | .ref l, .ref b => rCat (.ref l) (.ref b) H Q
  | _, _ => False
theorem op_addY : OpR X (binaryOp .Add) yAdd := by
  refine or_str (OpR.or (op_add (X := X)) (OpR.or (op_add_ib (X := X)) (OpR.or (op_add_str (X := X)) (op_cat (X := X))))) fun x y H Q h => ?_
  unfold yAdd at h
  split at h
  · exact .inl ⟨_, _, rfl, rfl, h⟩
  · exact .inr (.inl ⟨_, _, rfl, rfl, h⟩)
  · exact .inr (.inr (.inl ⟨_, _, rfl, rfl, h.1, h.2 _ rfl⟩))
  · exact .inr (.inr (.inr h))
  · exact h.elim
def ySub : R2 := fun x y H Q => match x, y with
  | .int i, .int j => Q (.int (i - j)) H
  | _, _ => False
theorem op_subY : OpR X (binaryOp .Sub) ySub := by
  refine or_str (op_sub (X := X)) fun x y H Q h => ?_
  unfold ySub at h
  split at h
  · exact ⟨_, _, rfl, rfl, h⟩
  · exact h.elim
def yMul : R2 := fun x y H Q => match x, y with
  | .int i, .int j => CMul i j ∧ Q (.int (i * j)) H
  | .int i, .bl k => Q (.int (i * b2i k)) H
  | .ref l, .int k => rRep (.ref l) (.int k) H Q
  | _, _ => False
theorem op_mulY : OpR X (binaryOp .Mult) yMul := by
  refine or_str (OpR.or (op_mul (X := X)) (OpR.or (op_mul_ib (X := X)) (op_rep (X := X)))) fun x y H Q h => ?_
  unfold yMul at h
  split at h
  · exact .inl ⟨_, _, rfl, rfl, h.1, h.2⟩
  · exact .inr (.inl ⟨_, _, rfl, rfl, h⟩)
  · exact .inr (.inr h)
  · exact h.elim
def yMod : R2 := fun x y H Q => match x, y with
  | .int i, .int j => 0 < j ∧ ∀ r : Int, r = i % j → 0 ≤ r → r < j → Q (.int r) H
  | _, _ => False
theorem op_modY : OpR X (binaryOp .Mod) yMod := by
  refine or_str (op_mod (X := X)) fun x y H Q h => ?_
  unfold yMod at h
  split at h
  · exact ⟨_, _, rfl, rfl, h.1, h.2 _ rfl (Int.emod_nonneg _ (by have := h.1; omega)) (Int.emod_lt_of_pos _ h.1)⟩
  · exact h.elim
def yDiv : R2 := fun x y H Q => match x, y with
  | .int i, .int j => (0 < j ∧ j < 1073741824) ∧ ∀ r : Int, r = i / j → (0 ≤ i → 0 ≤ r) → Q (.int r) H
  | _, _ => False
theorem op_divY : OpR X (binaryOp .FloorDiv) yDiv := by
  refine or_str (op_fdiv (X := X)) fun x y H Q h => ?_
  unfold yDiv at h
  split at h
  · exact ⟨_, _, rfl, rfl, h.1, h.2 _ rfl (fun h0 => Int.ediv_nonneg h0 (by have := h.1.1; omega))⟩
  · exact h.elim
def yPow : R2 := fun x y H Q => match x, y with
  | .int i, .int j => CPow i j ∧ ∀ r : Int, r = i ^ j.toNat → Q (.int r) H
  | _, _ => False
theorem op_powY : OpR X (binaryOp .Pow) yPow := by
  refine or_str (op_pow (X := X)) fun x y H Q h => ?_
  unfold yPow at h
  split at h
  · exact ⟨_, _, rfl, rfl, h.1, h.2 _ rfl⟩
  · exact h.elim

/-! ### comparisons -/
def yCmp (p : Int → Int → Bool) : R2 := fun x y H Q => match x, y with
  | .int i, .int j => Q (.bl (p i j)) H
  | _, _ => False
theorem yCmp_rI {p : Int → Int → Bool} {x y : V} {H : Hp} {Q : VK} (h : yCmp p x y H Q) : rI0 (fun i j => .bl (p i j)) x y H Q := by
  unfold yCmp at h
  split at h
  · exact ⟨_, _, rfl, rfl, h⟩
  · exact h.elim
theorem op_ltY : OpR X (compareOp .Lt) (yCmp fun i j => decide (i < j)) := or_str (op_lt (X := X)) fun _ _ _ _ h => yCmp_rI h
theorem op_leY : OpR X (compareOp .LtE) (yCmp fun i j => decide (i ≤ j)) := or_str (op_le (X := X)) fun _ _ _ _ h => yCmp_rI h
theorem op_gtY : OpR X (compareOp .Gt) (yCmp fun i j => decide (j < i)) := or_str (op_gt (X := X)) fun _ _ _ _ h => yCmp_rI h
theorem op_geY : OpR X (compareOp .GtE) (yCmp fun i j => decide (j ≤ i)) := or_str (op_ge (X := X)) fun _ _ _ _ h => yCmp_rI h
def yEq (K : PySem.W.Frag) : R2 := fun x y H Q => match x, y with
  | .int i, .int j => Q (.bl (decide (i = j))) H
  | .str i, .str j => Q (.bl (decide (i = j))) H
  | .bl i, .bl j => Q (.bl (decide (i = j))) H
  | .ref a, .ref b => rEqD K (.ref a) (.ref b) H Q
  | x, y => scal x y = true ∧ Q (.bl (decide (x = y))) H
def yNe (K : PySem.W.Frag) : R2 := fun x y H Q => match x, y with
  | .int i, .int j => Q (.bl (!decide (i = j))) H
  | .str i, .str j => Q (.bl (!decide (i = j))) H
  | .bl i, .bl j => Q (.bl (!decide (i = j))) H
  | .ref a, .ref b => rNeD K (.ref a) (.ref b) H Q
  | x, y => scal x y = true ∧ Q (.bl (!decide (x = y))) H
theorem deci {i j : Int} : decide (V.int i = V.int j) = decide (i = j) := by by_cases h : i = j <;> simp [h]
theorem decs {i j : Str} : decide (V.str i = V.str j) = decide (i = j) := by by_cases h : i = j <;> simp [h]
theorem decb {i j : Bool} : decide (V.bl i = V.bl j) = decide (i = j) := by by_cases h : i = j <;> simp [h]
theorem op_eqY (hu : X.A.units + 64 < cLine) : OpR X (compareOp .Eq) (yEq X.K) := by
  refine or_str (OpR.or (op_eq (X := X)) (op_eqD hu)) fun x y H Q h => ?_
  unfold yEq at h
  split at h
  · exact .inl ⟨rfl, by rw [deci]; exact h⟩
  · exact .inl ⟨rfl, by rw [decs]; exact h⟩
  · exact .inl ⟨rfl, by rw [decb]; exact h⟩
  · exact .inr h
  · exact .inl h
theorem op_neY (hu : X.A.units + 64 < cLine) : OpR X (compareOp .NotEq) (yNe X.K) := by
  refine or_str (OpR.or (op_ne (X := X)) (op_neD hu)) fun x y H Q h => ?_
  unfold yNe at h
  split at h
  · exact .inl ⟨rfl, by rw [deci]; exact h⟩
  · exact .inl ⟨rfl, by rw [decs]; exact h⟩
  · exact .inl ⟨rfl, by rw [decb]; exact h⟩
  · exact .inr h
  · exact .inl h

/-! ### tests -/
/-- a bool as a test -/
def xB (t : TE) : TT := fun σ H Q => t σ H fun x H1 => match x with
  | .bl c => Q c H1
  | _ => False
theorem pe_mono {X : Cx} {e : Expr} {t : TE} (_h : PE X e t) : True := trivial
theorem xt_cmp {op : CmpOp} {r : R2} (ho : OpR X (compareOp op) r) (ha : PE X a ta) (hb : PE X b tb) (hm : behindInMarks op b = false) : PT X (.Compare a [op] [b] pos) (xB (tOp r ta tb)) := by
  refine ⟨fun pins s σ H Q I h => ?_⟩
  refine wpAny_isTrue_Compare1 (thn (ha.run pins s σ H _ I h) fun v s1 ⟨x, H1, I1, r1, q1⟩ => thn (hb.run pins s1 σ H1 _ I1 q1) fun u s2 ⟨y, H2, I2, r2, q2⟩ =>
    thn (ho pins s2 σ H2 x y v u _ I2 r1 r2 q2) fun c s3 ⟨z, H3, I3, r3, q3⟩ => ?_) hm
  cases z with
  | bl k =>
    cases r3
    exact wpAny_truthy_bool ⟨H3, I3, q3⟩
  | _ => exact False.elim q3
theorem xt_val {e : Expr} {t : TE} (h : PE X e t) (he : ∀ whole, isTrue e X.env whole = (do let v ← whole; standAt e.pos; holding [v] (truthy v)) := by intro _; rfl) : PT X e (xB t) := by
  refine ⟨fun pins s σ H Q I hw => ?_⟩
  refine isTrue_plain (thn (h.run pins s σ H _ I hw) fun v s1 ⟨x, H1, I1, r1, q1⟩ => ?_) (he _)
  cases x with
  | bl k =>
    cases r1
    exact wpAny_truthy_bool ⟨H1, I1, q1⟩
  | _ => exact False.elim q1
/-- the truth of a value -/
def yTru (K : PySem.W.Frag) (x : V) (H : Hp) (Q : Bool → Hp → Prop) : Prop := match x with
  | .bl c => Q c H
  | .int i => Q (i != 0) H
  | .non => Q false H
  | x => ∃ k, TruV K x H k ∧ Q k H
def xTru (K : PySem.W.Frag) (t : TE) : TT := fun σ H Q => t σ H fun x H1 => yTru K x H1 Q
theorem xt_tru (ha : PE X a ta) (he : ∀ whole, isTrue a X.env whole = (do let v ← whole; standAt a.pos; holding [v] (truthy v)) := by intro _; rfl) : PT X a (xTru X.K ta) := by
  have hq : PE X a (fun σ H Q => ta σ H Q) := ha
  refine ⟨fun pins s σ H Q I hw => ?_⟩
  refine isTrue_plain (thn (ha.run pins s σ H _ I hw) fun v s1 ⟨x, H1, I1, r1, q1⟩ => ?_) (he _)
  have q2 : ∃ k, TruV X.K x H1 k ∧ Q k H1 := by
    change yTru X.K x H1 Q at q1
    unfold yTru at q1
    split at q1
    · exact ⟨_, rfl, q1⟩
    · exact ⟨_, rfl, q1⟩
    · exact ⟨_, rfl, q1⟩
    · exact q1
  exact tru_ok pins s1 σ H1 x v Q I1 r1 q2
def xAnd (t u : TT) : TT := fun σ H Q => t σ H fun c H1 => (c = true → u σ H1 Q) ∧ (c = false → Q false H1)
def xOr (t u : TT) : TT := fun σ H Q => t σ H fun c H1 => (c = true → Q true H1) ∧ (c = false → u σ H1 Q)
theorem xw_and (ha : PT X a tA) (hb : PW X (.BoolOp .And (b :: rest) pos) tB') : PW X (.BoolOp .And (a :: b :: rest) pos) (xAnd tA tB') := by
  refine ⟨fun wh pins s0 σ H Q J h => ?_⟩
  refine isTrue_and (thn (ha.run pins s0 σ H _ J h) fun k s2 ⟨H2, J2, q2⟩ => ?_)
  cases k with
  | true => exact hb.run wh pins s2 σ H2 Q J2 (q2.1 rfl)
  | false => exact ⟨H2, J2, q2.2 rfl⟩
theorem xw_or (ha : PT X a tA) (hb : PW X (.BoolOp .Or (b :: rest) pos) tB') : PW X (.BoolOp .Or (a :: b :: rest) pos) (xOr tA tB') := by
  refine ⟨fun wh pins s0 σ H Q J h => ?_⟩
  refine isTrue_or (thn (ha.run pins s0 σ H _ J h) fun k s2 ⟨H2, J2, q2⟩ => ?_)
  cases k with
  | true => exact ⟨H2, J2, q2.1 rfl⟩
  | false => exact hb.run wh pins s2 σ H2 Q J2 (q2.2 rfl)
/-- and, or, not as values: of bools -/
def xAndV (ta tb : TE) : TE := fun σ H Q => ta σ H fun x H1 => match x with
  | .bl c => (c = true → tb σ H1 Q) ∧ (c = false → Q (.bl false) H1)
  | _ => False
def xOrV (ta tb : TE) : TE := fun σ H Q => ta σ H fun x H1 => match x with
  | .bl c => (c = true → Q (.bl true) H1) ∧ (c = false → tb σ H1 Q)
  | _ => False
def xNotV (ta : TE) : TE := fun σ H Q => ta σ H fun x H1 => match x with
  | .bl c => Q (.bl (!c)) H1
  | _ => False
theorem xe_and (ha : PE X a ta) (hb : PE X (.BoolOp .And (b :: rest) pos) tb) : PE X (.BoolOp .And (a :: b :: rest) pos) (xAndV ta tb) := by
  refine ⟨fun pins s0 σ H Q J h => ?_⟩
  refine BoolOp_and (thn (ha.run pins s0 σ H _ J h) fun v s2 ⟨x, H2, J2, r2, q2⟩ => ?_)
  cases x with
  | bl k =>
    cases r2
    refine wpAny_truthy_bool ?_
    cases k with
    | true => exact hb.run pins s2 σ H2 Q J2 (q2.1 rfl)
    | false => exact ⟨.bl false, H2, J2, rfl, q2.2 rfl⟩
  | _ => exact False.elim q2
theorem xe_or (ha : PE X a ta) (hb : PE X (.BoolOp .Or (b :: rest) pos) tb) : PE X (.BoolOp .Or (a :: b :: rest) pos) (xOrV ta tb) := by
  refine ⟨fun pins s0 σ H Q J h => ?_⟩
  refine BoolOp_or (thn (ha.run pins s0 σ H _ J h) fun v s2 ⟨x, H2, J2, r2, q2⟩ => ?_)
  cases x with
  | bl k =>
    cases r2
    refine wpAny_truthy_bool ?_
    cases k with
    | true => exact ⟨.bl true, H2, J2, rfl, q2.1 rfl⟩
    | false => exact hb.run pins s2 σ H2 Q J2 (q2.2 rfl)
  | _ => exact False.elim q2
theorem xe_not (ha : PE X a ta) : PE X (.UnaryOp .Not a pos) (xNotV ta) := by
  refine ⟨fun pins s0 σ H Q J h => ?_⟩
  refine UnaryOp_ (thn (ha.run pins s0 σ H _ J h) fun v s2 ⟨x, H2, J2, r2, q2⟩ => ?_)
  cases x with
  | bl k =>
    cases r2
    exact not_of (wpAny_truthy_bool ⟨.bl (!k), H2, J2, rfl, q2⟩)
  | _ => exact False.elim q2
/-- a if t else b -/
def xIf (t : TT) (ta tb : TE) : TE := fun σ H Q => t σ H fun c H1 => (c = true → ta σ H1 Q) ∧ (c = false → tb σ H1 Q)
theorem xe_if {c : Expr} (hc : PT X c tA) (ha : PE X a ta) (hb : PE X b tb) : PE X (.IfExp c a b pos) (xIf tA ta tb) := by
  refine ⟨fun pins s0 σ H Q J h => ?_⟩
  refine wpAny_IfExp (thn (hc.run pins s0 σ H _ J h) fun k s2 ⟨H2, J2, q2⟩ => ?_)
  cases k with
  | true => exact ha.run pins s2 σ H2 Q J2 (q2.1 rfl)
  | false => exact hb.run pins s2 σ H2 Q J2 (q2.2 rfl)
/-- if t: .. else: .. -/
def xIfS (c : TT) (t u : TS) : TS := fun D σ H => c σ H fun b H1 => (b = true → t D σ H1) ∧ (b = false → u D σ H1)
theorem xs_if {c : Expr} {as bs : List Stmt} {tc : TT} {t u : TS} (hc : PT X c tc) (ha : PSs X as t) (hb : PSs X bs u) : PS X (.If c as bs pos) (xIfS tc t u) := by
  refine ⟨fun pins s0 σ H D J h => ?_⟩
  refine wpAny_If (thn (hc.run pins s0 σ H _ J h) fun k s2 ⟨H2, J2, q2⟩ => ?_)
  cases k with
  | true => exact ha.run pins s2 σ H2 D J2 (q2.1 rfl)
  | false => exact hb.run pins s2 σ H2 D J2 (q2.2 rfl)

/-! ### calls of built-ins -/
def yLen (K : PySem.W.Frag) : List V → Hp → VK → Prop := fun xs H Q => match xs with
  | [.str y] => y.length ≤ sizeLine ∧ Q (.int y.length) H
  | [.ref p] => ∃ ys, (SqL K H p ys ∨ SqT K H p ys) ∧ Q (.int ys.length) H
  | _ => False
theorem cr_len : CallR X (.builtin "len") (yLen X.K) := by
  refine cr_str (call_len (X := X)) fun xs H Q h => ?_
  unfold yLen at h
  split at h
  · exact ⟨_, _, rfl, ⟨h.1, rfl⟩, h.2⟩
  · obtain ⟨ys, hy, q⟩ := h
    rcases hy with hy | hy
    · exact ⟨_, _, rfl, .inl ⟨ys, hy, rfl⟩, q⟩
    · exact ⟨_, _, rfl, .inr ⟨ys, hy, rfl⟩, q⟩
  · exact h.elim
def yInt : List V → Hp → VK → Prop := fun xs H Q => match xs with
  | [.int i] => Q (.int i) H
  | [.bl k] => Q (.int (if k then 1 else 0)) H
  | [.str z] => ∃ n, PySem.intText? z = some n ∧ z.length ≤ 640 ∧ Q (.int n) H
  | _ => False
theorem cr_int : CallR X (.type "int") yInt := by
  refine cr_str (CallR.or (call_int1 (X := X)) (call_int_str (X := X))) fun xs H Q h => ?_
  unfold yInt at h
  split at h
  · exact .inl (.inl ⟨_, rfl, h⟩)
  · exact .inl (.inr ⟨_, rfl, h⟩)
  · obtain ⟨n, h1, h2, q⟩ := h
    exact .inr ⟨_, n, rfl, h1, h2, q⟩
  · exact h.elim
def yAbs : List V → Hp → VK → Prop := fun xs H Q => match xs with
  | [.int i] => Q (.int i.natAbs) H
  | _ => False
theorem cr_abs : CallR X (.builtin "abs") yAbs := by
  refine cr_str (call_abs (X := X)) fun xs H Q h => ?_
  unfold yAbs at h
  split at h
  · rename_i i
    refine ⟨i, rfl, ?_⟩
    have e : (if i < 0 then -i else i) = (i.natAbs : Int) := by split <;> omega
    rw [e]
    exact h
  · exact h.elim
def yStr : List V → Hp → VK → Prop := fun xs H Q => match xs with
  | [.int i] => i.natAbs.log2 < 1920 ∧ Q (.str (toString i)) H
  | _ => False
theorem cr_strI : CallR X (.type "str") yStr := by
  refine cr_str (call_str_int (X := X)) fun xs H Q h => ?_
  unfold yStr at h
  split at h
  · exact ⟨_, rfl, h.1, h.2⟩
  · exact h.elim
def yIx (K : PySem.W.Frag) : R2 := fun x y H Q => match x, y with
  | .ref p, .int i => ∃ xs v, (SqL K H p xs ∨ SqT K H p xs) ∧ atI xs i = some v ∧ Q v H
  | .str z, .int i => ∃ c, z.length ≤ sizeLine ∧ atI z.cps.toList i = some c ∧ Q (.str ⟨#[c]⟩) H
  | _, _ => False
theorem ix_y : IxR X (yIx X.K) := by
  intro value slice pins s σ H x y v u Q I rx ry h hs
  refine ix_seq (X := X) value slice pins s σ H x y v u Q I rx ry ?_ hs
  unfold yIx at h
  split at h
  · obtain ⟨xs, z, h1, h2, q⟩ := h
    rcases h1 with h1 | h1
    · exact .inl ⟨_, xs, _, z, rfl, rfl, h1, h2, q⟩
    · exact .inr (.inl ⟨_, xs, _, z, rfl, rfl, h1, h2, q⟩)
  · obtain ⟨k, h1, h2, q⟩ := h
    exact .inr (.inr ⟨_, _, k, rfl, rfl, h1, h2, q⟩)
  · exact h.elim
end

/-! ### the heap: what only grows, and the cells that change -/
def Sep (G : Hp) (M : List (Addr × HO)) (H : Hp) : Prop := Same G H ∧ (∀ p ∈ M, H p.1 = some p.2 ∧ G p.1 = none) ∧ (M.map (·.1)).Nodup
section
variable {G G' H H' : Hp} {M : List (Addr × HO)} {p a b : Addr} {o o' u : HO}
theorem same_upd (h : H p = none) : Same H (upd H p o) := fun b x e => by
  rw [upd_ne (ne_of_none e h)]
  exact e
theorem sep0 : Sep H [] H := ⟨Same.refl H, (fun _ h => nomatch h), List.nodup_nil⟩
theorem Sep.st (S : Sep G M H) (h : G a = some o) : H a = some o := S.1 a o h
theorem Sep.hd (S : Sep G ((a, o) :: M) H) : H a = some o := (S.2.1 _ List.mem_cons_self).1
theorem Sep.at (S : Sep G M H) (h : (a, o) ∈ M) : H a = some o := (S.2.1 _ h).1
theorem Sep.fresh (S : Sep G M H) (h : H p = none) : G p = none := S.1.free h
theorem Sep.new (S : Sep G M H) (h : H p = none) : Sep G ((p, o) :: M) (upd H p o) := by
  refine ⟨S.1.trans (same_upd h), fun q hq => ?_, ?_⟩
  · rcases List.mem_cons.mp hq with rfl | hq
    · exact ⟨upd_same, S.fresh h⟩
    · exact ⟨same_upd h _ _ (S.2.1 q hq).1, (S.2.1 q hq).2⟩
  · rw [List.map_cons, List.nodup_cons]
    refine ⟨fun hm => ?_, S.2.2⟩
    obtain ⟨q, hq, e⟩ := List.mem_map.mp hm
    have z := (S.2.1 q hq).1
    rw [e, h] at z
    cases z
theorem Sep.newG (S : Sep G M H) (h : H p = none) : Sep (upd G p o) M (upd H p o) := by
  refine ⟨fun b x e => ?_, fun q hq => ?_, S.2.2⟩
  · by_cases hb : b = p
    · subst hb
      rw [upd_same] at e ⊢
      exact e
    · rw [upd_ne hb] at e ⊢
      exact S.1 b x e
  · have z := S.2.1 q hq
    refine ⟨same_upd h _ _ z.1, ?_⟩
    rw [upd_ne (ne_of_none z.1 h)]
    exact z.2
theorem Sep.grow (S : Sep G M H) (h : H p = none) : Same G (upd G p o) := same_upd (S.fresh h)
theorem Sep.set (S : Sep G ((a, o) :: M) H) : Sep G ((a, o') :: M) (upd H a o') := by
  have hn := S.2.2
  rw [List.map_cons, List.nodup_cons] at hn
  have ha := S.2.1 _ List.mem_cons_self
  refine ⟨fun b x e => ?_, fun q hq => ?_, S.2.2⟩
  · rw [upd_ne (ne_of_none e ha.2)]
    exact S.1 b x e
  · rcases List.mem_cons.mp hq with rfl | hq
    · exact ⟨upd_same, ha.2⟩
    · refine ⟨?_, (S.2.1 q (List.mem_cons_of_mem _ hq)).2⟩
      rw [upd_ne (show q.1 ≠ a from fun e => hn.1 (by have z : q.1 ∈ M.map (·.1) := List.mem_map_of_mem hq
                                                      rw [e] at z; exact z))]
      exact (S.2.1 q (List.mem_cons_of_mem _ hq)).1
theorem Sep.frz (S : Sep G ((a, o) :: M) H) : Sep (upd G a o) M H := by
  have hn := S.2.2
  rw [List.map_cons, List.nodup_cons] at hn
  have ha := S.2.1 _ List.mem_cons_self
  refine ⟨fun b x e => ?_, fun q hq => ?_, hn.2⟩
  · by_cases hb : b = a
    · subst hb
      rw [upd_same] at e
      cases e
      exact ha.1
    · rw [upd_ne hb] at e
      exact S.1 b x e
  · have z := S.2.1 q (List.mem_cons_of_mem _ hq)
    refine ⟨z.1, ?_⟩
    rw [upd_ne (show q.1 ≠ a from fun e => hn.1 (by have z : q.1 ∈ M.map (·.1) := List.mem_map_of_mem hq
                                                    rw [e] at z; exact z))]
    exact z.2
theorem Sep.none (S : Sep G ((a, o) :: M) H) : G a = none := (S.2.1 _ List.mem_cons_self).2
theorem Sep.frzS (S : Sep G ((a, o) :: M) H) : Same G (upd G a o) := same_upd S.none
theorem Sep.drop {q : Addr × HO} (S : Sep G (q :: M) H) : Sep G M H := by
  have hn := S.2.2
  rw [List.map_cons, List.nodup_cons] at hn
  exact ⟨S.1, fun p hp => S.2.1 p (List.mem_cons_of_mem _ hp), hn.2⟩
theorem Sep.perm {M' : List (Addr × HO)} (S : Sep G M H) (h : M.Perm M') : Sep G M' H :=
  ⟨S.1, fun q hq => S.2.1 q (h.mem_iff.mpr hq), (h.map _).nodup_iff.mp S.2.2⟩
theorem Sep.sw {q r : Addr × HO} (S : Sep G (q :: r :: M) H) : Sep G (r :: q :: M) H := S.perm (List.Perm.swap _ _ _)
theorem same_l {K : PySem.W.Frag} {xs : List V} (e : Same H H') (h : SqL K H a xs) : SqL K H' a xs := e.seq h
theorem same_t {K : PySem.W.Frag} {xs : List V} (e : Same H H') (h : SqT K H a xs) : SqT K H' a xs := by
  rcases h with (h | ⟨o, h⟩) | h
  · exact .inl (.inl (e _ _ h))
  · exact .inl (.inr ⟨o, e _ _ h⟩)
  · exact .inr h
theorem Sep.l {K : PySem.W.Frag} {xs : List V} (S : Sep G M H) (h : SqL K G a xs) : SqL K H a xs := same_l S.1 h
theorem Sep.t {K : PySem.W.Frag} {xs : List V} (S : Sep G M H) (h : SqT K G a xs) : SqT K H a xs := same_t S.1 h
end
mutual
theorem dp_same {K : PySem.W.Frag} {H H' : Hp} (e : Same H H') : ∀ {d : PyData} {v : V}, Dp K H v d → Dp K H' v d
  | _, _, .non => .non
  | _, _, .bl b => .bl b
  | _, _, .int i => .int i
  | _, _, .str x => .str x
  | _, _, .lst h hs => .lst (same_l e h) (dpa_same e hs)
  | _, _, .tup h hs => .tup (same_t e h) (dpa_same e hs)
theorem dpa_same {K : PySem.W.Frag} {H H' : Hp} (e : Same H H') : ∀ {ds : List PyData} {vs : List V}, DpAll K H vs ds → DpAll K H' vs ds
  | _, _, .nil => .nil
  | _, _, .cons h hs => .cons (dp_same e h) (dpa_same e hs)
end

/-! ### loops by what has been gone through -/
theorem take_pre {α : Type} {xs : List α} {i : Nat} {x : α} (h : xs[i]? = some x) : xs = xs.take i ++ x :: xs.drop (i + 1) ∧ xs.take (i + 1) = xs.take i ++ [x] := by
  have hi : i < xs.length := (List.getElem?_eq_some_iff.mp h).1
  have e : xs[i] = x := (List.getElem?_eq_some_iff.mp h).2
  refine ⟨?_, ?_⟩
  · rw [← e, List.getElem_cons_drop, List.take_append_drop]
  · rw [List.take_add_one, h]
    rfl
section
variable {K : PySem.W.Frag} {a : Addr} {xs : List V} {g : TG} {tb : TS} {D : Ends} {σ : L2.St} {H : Hp}
theorem for_pre (Pv : List V → L2.St → Hp → Prop) (h0 : Pv [] σ H) (hl : ∀ pre σ H, Pv pre σ H → SqL K H a xs)
    (hs : ∀ pre x post σ H, xs = pre ++ x :: post → Pv pre σ H → g x σ H fun σ2 H2 => tb { D with nx := Pv (pre ++ [x]), ct := Pv (pre ++ [x]), bk := D.nx } σ2 H2) (hd : ∀ σ H, Pv xs σ H → D.nx σ H) :
    ∃ W : Nat → Nat → L2.St → Hp → Prop, (∃ m, W 0 m σ H) ∧ ∀ i m σ H, W i m σ H →
      ((Itl K a).stop i H ∧ D.nx σ H) ∨ ((Itl K a).go i H ∧ ∃ N : L2.St → Hp → Prop, (∀ σ' H', N σ' H' → ∃ m', m' < m ∧ W (i + 1) m' σ' H') ∧ ∀ x H', (Itl K a).yld i H x H' → g x σ H' fun σ2 H2 => tb { D with nx := N, ct := N, bk := D.nx } σ2 H2) :=
  for_list (fun i => Pv (xs.take i)) h0 (fun i σ H _ p => hl _ σ H p) (fun i x σ H hx p => by
    rw [(take_pre hx).2]
    exact hs _ x _ σ H (take_pre hx).1 p) (fun σ H p => hd σ H (by rw [List.take_length] at p; exact p))
theorem for_preT (Pv : List V → L2.St → Hp → Prop) (h0 : Pv [] σ H) (hl : ∀ pre σ H, Pv pre σ H → SqT K H a xs)
    (hs : ∀ pre x post σ H, xs = pre ++ x :: post → Pv pre σ H → g x σ H fun σ2 H2 => tb { D with nx := Pv (pre ++ [x]), ct := Pv (pre ++ [x]), bk := D.nx } σ2 H2) (hd : ∀ σ H, Pv xs σ H → D.nx σ H) :
    ∃ W : Nat → Nat → L2.St → Hp → Prop, (∃ m, W 0 m σ H) ∧ ∀ i m σ H, W i m σ H →
      ((Itt K a).stop i H ∧ D.nx σ H) ∨ ((Itt K a).go i H ∧ ∃ N : L2.St → Hp → Prop, (∀ σ' H', N σ' H' → ∃ m', m' < m ∧ W (i + 1) m' σ' H') ∧ ∀ x H', (Itt K a).yld i H x H' → g x σ H' fun σ2 H2 => tb { D with nx := N, ct := N, bk := D.nx } σ2 H2) :=
  for_tup (fun i => Pv (xs.take i)) h0 (fun i σ H _ p => hl _ σ H p) (fun i x σ H hx p => by
    rw [(take_pre hx).2]
    exact hs _ x _ σ H (take_pre hx).1 p) (fun σ H p => hd σ H (by rw [List.take_length] at p; exact p))
/-- for i, x in enumerate(xs) -/
theorem for_enum {i j : Nat} (Pv : List V → L2.St → Hp → Prop) (h0 : Pv [] σ H) (hl : ∀ pre σ H, Pv pre σ H → SqL K H a xs)
    (hs : ∀ pre x post σ H T, xs = pre ++ x :: post → Pv pre σ H → H T = none →
      tb { D with nx := Pv (pre ++ [x]), ct := Pv (pre ++ [x]), bk := D.nx } ((σ.set i (some (.int (pre.length : Nat)))).set j (some x)) (upd H T (.tup [.int (pre.length : Nat), x]))) (hd : ∀ σ H, Pv xs σ H → D.nx σ H) :
    ∃ W : Nat → Nat → L2.St → Hp → Prop, (∃ m, W 0 m σ H) ∧ ∀ k m σ H, W k m σ H →
      ((Ite K a).stop k H ∧ D.nx σ H) ∨ ((Ite K a).go k H ∧ ∃ N : L2.St → Hp → Prop, (∀ σ' H', N σ' H' → ∃ m', m' < m ∧ W (k + 1) m' σ' H') ∧ ∀ x H', (Ite K a).yld k H x H' →
        (gTup K 2 (gCons (gName i) (gCons (gName j) gNil))) x σ H' fun σ2 H2 => tb { D with nx := N, ct := N, bk := D.nx } σ2 H2) := by
  refine ⟨fun k m σ H => m = xs.length - k ∧ k ≤ xs.length ∧ Pv (xs.take k) σ H, ⟨xs.length, by simp, Nat.zero_le _, h0⟩, ?_⟩
  rintro k m σ H ⟨rfl, hk, p⟩
  have q := hl _ σ H p
  by_cases hlt : k < xs.length
  · refine .inr ⟨⟨xs, xs[k], q, by simp [hlt]⟩, Pv (xs.take (k + 1)), fun σ' H' p' => ⟨xs.length - (k + 1), by omega, rfl, hlt, p'⟩, fun v H' y => ?_⟩
    obtain ⟨T, x, rfl, nT, rfl, hx⟩ := y
    have hx := hx xs q
    refine ⟨T, _, rfl, SqT.of upd_same, rfl, _, _, rfl, _, _, rfl, rfl, ?_⟩
    have z := hs _ x _ σ H T (take_pre hx).1 p nT
    rw [(take_pre hx).2]
    rw [show (xs.take k).length = k by rw [List.length_take]; omega] at z
    exact z
  · have e : k = xs.length := by omega
    subst e
    rw [List.take_length] at p
    exact .inl ⟨⟨xs, q, Nat.le_refl _⟩, hd σ H p⟩
/-- [e for x in xs] -/
theorem lc_pre {te : TE} {vs : List Nat} {i : Nat} {H1 : Hp} {L : Addr} {Qd : Hp → Prop} (Pv : List V → Hp → Prop) (h0 : Pv [] (upd H1 L (.lst []))) (hl : ∀ pre H, Pv pre H → SqL K H a xs)
    (hw : ∀ x, wipe ((wipe σ vs).set i (some x)) vs = wipe σ vs)
    (hs : ∀ pre x post H, xs = pre ++ x :: post → Pv pre H → te ((wipe σ vs).set i (some x)) H fun y H4 => ∃ acc, H4 L = some (.lst acc) ∧ acc.length < sizeLine ∧ Pv (pre ++ [x]) (upd H4 L (.lst (acc ++ [y])))) (hd : ∀ H, Pv xs H → Qd H) :
    ∃ W : Nat → Nat → Hp → Prop, (∃ m, W 0 m (upd H1 L (.lst []))) ∧ ∀ k m H, W k m H →
      ((Itl K a).stop k H ∧ Qd H) ∨ ((Itl K a).go k H ∧ ∃ Nx : Hp → Prop, (∀ H', Nx H' → ∃ m', m' < m ∧ W (k + 1) m' H') ∧ ∀ x H', (Itl K a).yld k H x H' → gName i x (wipe σ vs) H' fun σ2 H2 => wipe σ2 vs = wipe σ vs ∧ tYes σ2 H2 fun b H3 =>
        if b = true then te σ2 H3 fun y H4 => ∃ acc, H4 L = some (.lst acc) ∧ acc.length < sizeLine ∧ Nx (upd H4 L (.lst (acc ++ [y]))) else Nx H3) :=
  lc_list (fun k => Pv (xs.take k)) h0 (fun k H _ p => hl _ H p) (fun k x H hx p => ⟨hw x, by
    rw [(take_pre hx).2]
    exact hs _ x _ H (take_pre hx).1 p⟩) (fun H p => hd H (by rw [List.take_length] at p; exact p))
/-- [e for x in range(n)] -/
theorem lc_rng {te : TE} {vs : List Nat} {i : Nat} {n : Nat} {lo : Int} {H1 : Hp} {L : Addr} {Qd : Hp → Prop} (Pv : Nat → Hp → Prop) (h0 : Pv 0 (upd H1 L (.lst [])))
    (hw : ∀ x, wipe ((wipe σ vs).set i (some x)) vs = wipe σ vs)
    (hs : ∀ k H, k < n → Pv k H → te ((wipe σ vs).set i (some (.int (lo + k)))) H fun y H4 => ∃ acc, H4 L = some (.lst acc) ∧ acc.length < sizeLine ∧ Pv (k + 1) (upd H4 L (.lst (acc ++ [y])))) (hd : ∀ H, Pv n H → Qd H) :
    ∃ W : Nat → Nat → Hp → Prop, (∃ m, W 0 m (upd H1 L (.lst []))) ∧ ∀ k m H, W k m H →
      ((Itr lo n).stop k H ∧ Qd H) ∨ ((Itr lo n).go k H ∧ ∃ Nx : Hp → Prop, (∀ H', Nx H' → ∃ m', m' < m ∧ W (k + 1) m' H') ∧ ∀ x H', (Itr lo n).yld k H x H' → gName i x (wipe σ vs) H' fun σ2 H2 => wipe σ2 vs = wipe σ vs ∧ tYes σ2 H2 fun b H3 =>
        if b = true then te σ2 H3 fun y H4 => ∃ acc, H4 L = some (.lst acc) ∧ acc.length < sizeLine ∧ Nx (upd H4 L (.lst (acc ++ [y]))) else Nx H3) :=
  lc_range (lo := lo) (n := n) Pv h0 (fun k H hk p => ⟨hw _, hs k H hk p⟩) hd
end
/-! ### places of lists -/
theorem atI_in {α : Type} {xs : List α} {i : Int} (h0 : 0 ≤ i) (h1 : i < xs.length) : ∃ v, atI xs i = some v ∧ v ∈ xs := by
  obtain ⟨j, rfl⟩ : ∃ j : Nat, i = (j : Int) := ⟨i.toNat, by omega⟩
  have hj : j < xs.length := by omega
  exact ⟨xs[j], atI_nat (List.getElem?_eq_getElem hj), List.getElem_mem hj⟩
theorem small {n : Nat} (h : n ≤ 100000) : n ≤ sizeLine := Nat.le_trans h (by decide)
theorem smallL {n : Nat} (h : n < 100000) : n < sizeLine := Nat.lt_of_lt_of_le h (by decide)
theorem sz {n : Nat} (h : Nat.ble n 100000 = true := by rfl) : n ≤ sizeLine := small (Nat.le_of_ble_eq_true h)
theorem seqIdx {i : Int} {n : Nat} (h0 : 0 ≤ i) (h1 : i < n) : seqIndex? i n = some i.toNat := by
  unfold seqIndex?
  have e : (if i < 0 then i + n else i) = i := by rw [if_neg (by omega)]
  simp only [e]
  rw [if_pos (by simp; omega)]
theorem atN {α : Type} {xs : List α} {i : Int} {v : α} (h0 : 0 ≤ i) (h : atI xs i = some v) : xs[i.toNat]? = some v := by
  obtain ⟨j, rfl⟩ : ∃ j : Nat, i = (j : Int) := ⟨i.toNat, by omega⟩
  unfold atI ixN at h
  rw [if_pos (by omega)] at h
  split at h
  · simpa using h
  · cases h
theorem mem_erase {α : Type} {xs : List α} {k : Nat} {y : α} (h : y ∈ xs.eraseIdx k) : y ∈ xs := List.mem_of_mem_eraseIdx h
/-- the i-th of a paired list -/
theorem prd_get {α β : Type} {F : α → β → Prop} : ∀ {xs : List α} {ys : List β} {i : Nat} {x : α}, Paired F xs ys → xs[i]? = some x → ∃ y, ys[i]? = some y ∧ F x y
  | _, _, _, _, .nil, h => by simp at h
  | _, _, 0, _, .cons r _, h => by
    simp at h
    subst h
    exact ⟨_, rfl, r⟩
  | _, _, i + 1, _, .cons _ t, h => by
    rw [List.getElem?_cons_succ] at h
    obtain ⟨y, h1, h2⟩ := prd_get t h
    exact ⟨y, by rw [List.getElem?_cons_succ]; exact h1, h2⟩
theorem prd_len {α β : Type} {F : α → β → Prop} : ∀ {xs : List α} {ys : List β}, Paired F xs ys → xs.length = ys.length
  | _, _, .nil => rfl
  | _, _, .cons _ t => congrArg (· + 1) (prd_len t)
theorem prd_imp {α β : Type} {F F' : α → β → Prop} (k : ∀ x y, F x y → F' x y) : ∀ {xs : List α} {ys : List β}, Paired F xs ys → Paired F' xs ys
  | _, _, .nil => .nil
  | _, _, .cons r t => .cons (k _ _ r) (prd_imp k t)
theorem prd_app {α β : Type} {F : α → β → Prop} : ∀ {xs xs' : List α} {ys ys' : List β}, Paired F xs ys → Paired F xs' ys' → Paired F (xs ++ xs') (ys ++ ys')
  | _, _, _, _, .nil, s => s
  | _, _, _, _, .cons r t, s => .cons r (prd_app t s)
theorem prd_take {α β : Type} {F : α → β → Prop} : ∀ {xs : List α} {ys : List β} (n : Nat), Paired F xs ys → Paired F (xs.take n) (ys.take n)
  | _, _, 0, _ => .nil
  | _, _, _ + 1, .nil => .nil
  | _, _, n + 1, .cons r t => .cons r (prd_take n t)
/-- each has a partner -/
theorem prd_ex {α β : Type} {F : α → β → Prop} : ∀ {xs : List α}, (∀ x ∈ xs, ∃ y, F x y) → ∃ ys, Paired F xs ys
  | [], _ => ⟨[], .nil⟩
  | x :: r, h => by
    obtain ⟨y, hy⟩ := h x List.mem_cons_self
    obtain ⟨ys, hs⟩ := prd_ex fun x hx => h x (List.mem_cons_of_mem _ hx)
    exact ⟨y :: ys, .cons hy hs⟩
theorem prd_mem {α β : Type} {F : α → β → Prop} {x : α} : ∀ {xs : List α} {ys : List β}, Paired F xs ys → x ∈ xs → ∃ y ∈ ys, F x y
  | _, _, .nil, h => nomatch h
  | _, _, .cons (b := b) r t, h => by
    rcases List.mem_cons.mp h with rfl | h
    · exact ⟨b, List.mem_cons_self, r⟩
    · obtain ⟨y, h1, h2⟩ := prd_mem t h
      exact ⟨y, List.mem_cons_of_mem _ h1, h2⟩
/-- a statement and what follows it, with a word J between them -/
def xCut (t u : TS) : TS := fun D σ H => ∃ J : L2.St → Hp → Prop, t { D with nx := J } σ H ∧ ∀ σ' H', J σ' H' → u D σ' H'
theorem xss_cut {X : Cx} {st : Stmt} {sts : List Stmt} {t u : TS} (h1 : PS X st t) (h2 : PSs X sts u) : PSs X (st :: sts) (xCut t u) := by
  refine ⟨fun pins s0 σ H D I h => ?_⟩
  obtain ⟨J, hj, hu⟩ := h
  refine wpAny_execs_cons (thn (h1.run pins s0 σ H { D with nx := J } I hj) fun fl s2 q => ?_)
  cases fl with
  | next =>
    obtain ⟨σ2, H2, I2, q2⟩ := q
    exact h2.run pins s2 σ2 H2 D I2 (hu σ2 H2 q2)
  | _ => exact q
section
variable {K : PySem.W.Frag} {a : Addr} {xs : List V} {σ : L2.St}
/-- [e for x in xs], by the turn -/
theorem lc_at {te : TE} {vs : List Nat} {i : Nat} {H1 : Hp} {L : Addr} {Qd : Hp → Prop} (Pv : Nat → Hp → Prop) (h0 : Pv 0 (upd H1 L (.lst []))) (hl : ∀ k H, Pv k H → SqL K H a xs)
    (hw : ∀ x, wipe ((wipe σ vs).set i (some x)) vs = wipe σ vs)
    (hs : ∀ k x H, xs[k]? = some x → Pv k H → te ((wipe σ vs).set i (some x)) H fun y H4 => ∃ acc, H4 L = some (.lst acc) ∧ acc.length < sizeLine ∧ Pv (k + 1) (upd H4 L (.lst (acc ++ [y])))) (hd : ∀ H, Pv xs.length H → Qd H) :
    ∃ W : Nat → Nat → Hp → Prop, (∃ m, W 0 m (upd H1 L (.lst []))) ∧ ∀ k m H, W k m H →
      ((Itl K a).stop k H ∧ Qd H) ∨ ((Itl K a).go k H ∧ ∃ Nx : Hp → Prop, (∀ H', Nx H' → ∃ m', m' < m ∧ W (k + 1) m' H') ∧ ∀ x H', (Itl K a).yld k H x H' → gName i x (wipe σ vs) H' fun σ2 H2 => wipe σ2 vs = wipe σ vs ∧ tYes σ2 H2 fun b H3 =>
        if b = true then te σ2 H3 fun y H4 => ∃ acc, H4 L = some (.lst acc) ∧ acc.length < sizeLine ∧ Nx (upd H4 L (.lst (acc ++ [y]))) else Nx H3) :=
  lc_list Pv h0 (fun k H _ p => hl _ H p) (fun k x H hx p => ⟨hw x, hs _ x H hx p⟩) hd
end
theorem take_snoc {α : Type} {xs : List α} {i : Nat} {x : α} (h : xs[i]? = some x) : xs.take (i + 1) = xs.take i ++ [x] := (take_pre h).2
theorem ff {A : Prop} (h : false = true) : A := nomatch h
theorem tt {A : Prop} (h : true = false) : A := nomatch h
/-! ### the same with the written part K said (within a comprehension the reading must not name its context) -/
section
variable {X : Cx} (K : PySem.W.Frag) {a b e o : Expr} {es : List Expr} {ta tb te to : TE} {t : TA} {pos : Pos} {tg : Expr}
theorem ix_k (h : X.K = K := by rfl) : IxR X (yIx K) := h ▸ ix_y
theorem cr_lenK (h : X.K = K := by rfl) : CallR X (.builtin "len") (yLen K) := h ▸ cr_len
theorem op_eqK (hu : X.A.units + 64 < cLine) (h : X.K = K := by rfl) : OpR X (compareOp .Eq) (yEq K) := h ▸ op_eqY hu
theorem op_neK (hu : X.A.units + 64 < cLine) (h : X.K = K := by rfl) : OpR X (compareOp .NotEq) (yNe K) := h ▸ op_neY hu
theorem xt_truK (ha : PE X a ta) (h : X.K = K := by rfl) (he : ∀ whole, isTrue a X.env whole = (do let v ← whole; standAt a.pos; holding [v] (truthy v)) := by intro _; rfl) : PT X a (xTru K ta) := h ▸ xt_tru ha he
theorem call_isK (h : X.K = K := by rfl) : CallR X (.builtin "isinstance") (rIsi K) := h ▸ call_isi
def yList (K : PySem.W.Frag) : List V → Hp → VK → Prop := fun xs H Q => ∃ p ys, xs = [.ref p] ∧ (SqL K H p ys ∨ SqT K H p ys) ∧ ∀ l, H l = none → Q (.ref l) (upd H l (.lst ys))
theorem call_listK (h : X.K = K := by rfl) : CallR X (.type "list") (yList K) := h ▸ call_list_of
def yTup (K : PySem.W.Frag) : List V → Hp → VK → Prop := fun xs H Q => ∃ p ys, xs = [.ref p] ∧ ((SqL K H p ys ∧ ∀ l, H l = none → Q (.ref l) (upd H l (.tup ys))) ∨ (SqT K H p ys ∧ Q (.ref p) H))
theorem call_tupleK (h : X.K = K := by rfl) : CallR X (.type "tuple") (yTup K) := h ▸ call_tuple_of
theorem cr_sumK (hc : X.calm = true) (h : X.K = K := by rfl) : CallR X (.builtin "sum") (rSum K) := h ▸ cr_sum hc
theorem sl_listK (h : X.K = K := by rfl) : SlR X (rSlL K) := h ▸ sl_list
theorem pi_listK (ha : PE X a ta) (h : X.K = K := by rfl) : PI X tg a (iList K ta) := h ▸ pi_list ha
theorem pi_tupK (ha : PE X a ta) (h : X.K = K := by rfl) : PI X tg a (iTup K ta) := h ▸ pi_tup ha
theorem pe_bmK {T id : String} {name : Str} {apos cpos : Pos} {r : V → List V → Hp → VK → Prop} (pa : PlainAttrs T) (slot : Slot T name id) (hty : typeOf (.builtin id) = pure (.type "method_descriptor")) (hm : MtR X id r) (ho : PE X o to) (ha : PA X (e :: es) t) (hK : X.K = K := by rfl)
    (hbase : attributeBase o name X.env (eval o X.env) = eval o X.env := by rfl)
    (hfew : ((backTo cpos (starEach (e :: es) X.env)).all (fun x => !x.1) && (backToKw cpos (keywordEach [] X.env)).all (fun x => x.1.isSome)
      && decide ((e :: es).length + ([] : List Keyword).length + (if ([] : List Keyword).isEmpty then 0 else 1) < 30)) = true := by rfl)
    (hline : (apos.endLine == cpos.line) = true := by rfl) (hs : starEach (e :: es) X.env = (false, eval e X.env) :: starEach es X.env := by rfl) (hplain : (backTo cpos (starEach es X.env)).any (·.1) = false := by rfl) :
    PE X (.Call (.Attribute o name apos) (e :: es) [] cpos) (tBM K T r to t) := hK ▸ pe_bm pa slot hty hm ho ha hbase hfew hline hs hplain
end
section
variable {X : Cx} {a b c o : Expr} {ta tb tc : TE} {pos : Pos}
/-- a op1 b op2 c, b asked once -/
def xChain (r r' : R2) (ta tb tc : TE) : TE := fun σ H Q => ta σ H fun x H1 => tb σ H1 fun y H2 => r x y H2 fun z H3 => match z with
  | .bl k => (k = true → tc σ H3 fun w' H4 => r' y w' H4 Q) ∧ (k = false → Q (.bl false) H3)
  | _ => False
theorem xe_chain {op op' : CmpOp} {r r' : R2} (ho : OpR X (compareOp op) r) (ho' : OpR X (compareOp op') r') (ha : PE X a ta) (hb : PE X b tb) (hc : PE X c tc)
    (hm : lastMarks [op, op'] [b, c] = false := by with_unfolding_all rfl) : PE X (.Compare a [op, op'] [b, c] pos) (xChain r r' ta tb tc) := by
  refine ⟨fun pins s0 σ H Q J h => ?_⟩
  refine Compare_chain (thn (ha.run pins s0 σ H _ J h) fun v s1 ⟨x, H1, J1, r1, q1⟩ => chain_link (thn (hb.run pins s1 σ H1 _ J1 q1) fun u s2 ⟨y, H2, J2, r2, q2⟩ =>
    thn (ho pins s2 σ H2 x y v u _ J2 r1 r2 q2) fun d s3 ⟨z, H3, J3, r3, q3⟩ => ?_)) hm
  cases z with
  | bl k =>
    cases r3
    refine wpAny_truthy_bool ?_
    cases k with
    | false => exact ite_ff ⟨.bl false, H3, J3, rfl, q3.2 rfl⟩
    | true => exact ite_tt (chain_last (thn (hc.run pins s3 σ H3 _ J3 (q3.1 rfl)) fun w' s4 ⟨z', H4, J4, r4, q4⟩ => ho' pins s4 σ H4 y z' u w' Q J4 r2 r4 q4))
  | _ => exact False.elim q3
theorem xt_chain {op op' : CmpOp} {r r' : R2} (ho : OpR X (compareOp op) r) (ho' : OpR X (compareOp op') r') (ha : PE X a ta) (hb : PE X b tb) (hc : PE X c tc)
    (hm : lastMarks [op, op'] [b, c] = false := by with_unfolding_all rfl) : PT X (.Compare a [op, op'] [b, c] pos) (xB (xChain r r' ta tb tc)) := by
  refine ⟨fun pins s0 σ H Q J h => ?_⟩
  refine isTrue_chain (thn (ha.run pins s0 σ H _ J h) fun v s1 ⟨x, H1, J1, r1, q1⟩ => test_link (thn (hb.run pins s1 σ H1 _ J1 q1) fun u s2 ⟨y, H2, J2, r2, q2⟩ =>
    thn (ho pins s2 σ H2 x y v u _ J2 r1 r2 q2) fun d s3 ⟨z, H3, J3, r3, q3⟩ => ?_)) hm
  cases z with
  | bl k =>
    cases r3
    refine wpAny_truthy_bool ?_
    cases k with
    | false => exact ite_ff ⟨H3, J3, q3.2 rfl⟩
    | true =>
      refine ite_tt (test_last (thn (hc.run pins s3 σ H3 _ J3 (q3.1 rfl)) fun w' s4 ⟨z', H4, J4, r4, q4⟩ => thn (ho' pins s4 σ H4 y z' u w' _ J4 r2 r4 q4) fun d' s5 ⟨z2, H5, J5, r5, q5⟩ => ?_))
      cases z2 with
      | bl k2 =>
        cases r5
        exact wpAny_truthy_bool ⟨H5, J5, q5⟩
      | _ => exact False.elim q5
  | _ => exact False.elim q3
/-- while: a word with its measure -/
def xWhile (c : TT) (tb : TS) : TS := fun D σ H => ∃ W : Nat → L2.St → Hp → Prop, (∃ m, W m σ H) ∧ ∀ m σ H, W m σ H → c σ H fun b H1 =>
  (b = true → tb { D with nx := fun σ' H' => ∃ m', m' < m ∧ W m' σ' H', ct := fun σ' H' => ∃ m', m' < m ∧ W m' σ' H', bk := D.nx } σ H1) ∧ (b = false → D.nx σ H1)
theorem xs_while {c : Expr} {body : List Stmt} {tc : TT} {tb : TS} (hp : PassesOwn (model X.prog X.w) X.A X.env X.xe) (hc : PT X c tc) (hb : PSs X body tb) : PS X (.While c body [] pos) (xWhile tc tb) := by
  refine ⟨fun pins s0 σ H D J h => ?_⟩
  obtain ⟨W, ⟨m0, w0⟩, turn⟩ := h
  refine wpAny_While (codeAny_whileLoop (fun n s' => ∃ σ' H', L2.Inv X pins σ' H' s' ∧ W n σ' H') ?_ m0 ⟨σ, H, J, w0⟩)
  rintro n s1 ⟨σ1, H1, J1, w1⟩
  refine wpAny_passesOwn hp (thn (hc.run pins s1 σ1 H1 _ J1 (turn n σ1 H1 w1)) fun k s2 ⟨H2, J2, q2⟩ => ?_)
  cases k with
  | true =>
    rw [if_pos rfl]
    refine wpAny_passesOwn hp (thn (hb.run pins s2 σ1 H2 _ J2 (q2.1 rfl)) fun f s3 q3 => ?_)
    cases f with
    | next =>
      obtain ⟨σ3, H3, J3, m', hm, w3⟩ := q3
      exact ⟨m', hm, σ3, H3, J3, w3⟩
    | cont =>
      obtain ⟨σ3, H3, J3, m', hm, w3⟩ := q3
      exact ⟨m', hm, σ3, H3, J3, w3⟩
    | brk => exact q3
    | ret v => exact q3
  | false =>
    rw [if_neg Bool.false_ne_true]
    exact wpAny_execs_nil ⟨σ1, H2, J2, q2.2 rfl⟩
/-- a comparison by an own method (__le__ ..) of two instances of C -/
def yOwn (C : Addr) (sp : Sp) (E : XK) : R2 := fun x y H Q => ∃ a b dx dy fs gs, x = .ref a ∧ y = .ref b ∧ H a = some (.ins C dx fs) ∧ H b = some (.ins C dy gs) ∧ sp [.ref a, .ref b] H Q E
theorem op_own {CX : CXT} {C f : Addr} {fd : FuncData} {ps : List Str} {sp : Sp} {E : XK} {op : CmpOp} {n : Nat} (hop : compareOp op = richCompare op) (F : FnOk X.prog X.w X.K X.mg X.base CX n f fd ps sp)
    (hs : PySem.W.findIn X.K (.ref C) (cmpInfo op).2.1 = some (some (.ref f))) (hf : PySem.W.isFn X.K (.ref f) = true) (hb : Binds X.K fd ps []) (hx : Passes CX X E) (hr : Room n X.A) : OpR X (compareOp op) (yOwn C sp E) := by
  intro pins s σ H x y u v Q I rx ry h
  obtain ⟨a, b, dx, dy, fs, gs, rfl, rfl, ha, hb', hsp⟩ := h
  cases rx
  cases ry
  rw [hop]
  obtain ⟨mA, J1, _⟩ := ins_get I.hok ha
  obtain ⟨mB, J2, _⟩ := ins_get I.hok hb'
  obtain ⟨od, J1, _⟩ := J1.look
  obtain ⟨od', J2, _⟩ := J2.look
  obtain ⟨m, hF⟩ := I.fr
  refine PySem.W.cmp_K (op := op) (tb := .ref C) hr.units0 hF I.ok.mod.kin J1 J2.type (by simp [PySem.W.notFirst]) hs hf ?_
  have hl := F.len _ _ _ _ hsp
  refine wpAny_mono (run_fn (us := [.ref a, .ref b]) (vs := [.ref a, .ref b]) (dvs := []) F hr hb .nil hx I (.cons rfl (.cons rfl .nil)) hsp) (fun v s' q => ?_) fun _ _ e => e
  obtain ⟨z, H', I', rz, q⟩ := q
  have fin : EP X pins σ Q v s' := ⟨z, H', I', rz, q⟩
  cases v <;> first | exact fin | (cases z <;> first | exact absurd (show _ = _ from rz) (by intro e; cases e) | (obtain ⟨_, e⟩ := rz; cases e))
variable (K : PySem.W.Frag)
theorem pe_fldK {f : Str} (ha : PE X a ta) (hb : attributeBase a f X.env (eval a X.env) = eval a X.env := by rfl) (h : X.K = K := by rfl) : PE X (.Attribute a f pos) (tFld K ta f) := h ▸ pe_fld ha hb
theorem in_seqK (h : X.K = K := by rfl) : OpR X (compareOp .In) (rIn K false) := h ▸ op_in_seq
theorem notin_seqK (h : X.K = K := by rfl) : OpR X (compareOp .NotIn) (rIn K true) := h ▸ op_notIn_seq
theorem mt_countK (h : X.K = K := by rfl) : MtR X "list.count" (rCntI K) := h ▸ mt_lcount
theorem cr_allK (hc : X.calm = true) (h : X.K = K := by rfl) : CallR X (.builtin "all") (rAll K) := h ▸ cr_all hc
theorem cr_anyK (hc : X.calm = true) (h : X.K = K := by rfl) : CallR X (.builtin "any") (rAny K) := h ▸ cr_any hc
end
theorem xe_glob {X : Cx} {x z : Str} {pos : Pos} (hg : Gl X x) (hm : ∃ t, X.mg x = some (.str z t)) (hd : (x == ("__debug__" : Str)) = false := by decide) : PE X (.Name x pos) (tC (.str z)) := by
  obtain ⟨t, hm⟩ := hm
  exact pe_glob hg hm ⟨_, rfl⟩ hd
theorem xe_globI {X : Cx} {x : Str} {z : Int} {pos : Pos} (hg : Gl X x) (hm : ∃ t, X.mg x = some (.int z t)) (hd : (x == ("__debug__" : Str)) = false := by decide) : PE X (.Name x pos) (tC (.int z)) := by
  obtain ⟨t, hm⟩ := hm
  exact pe_glob hg hm ⟨_, rfl⟩ hd
theorem prd_unsnoc {α β : Type} {F : α → β → Prop} {x : α} : ∀ {xs : List α} {ys : List β}, Paired F (xs ++ [x]) ys → ∃ ys' y, ys = ys' ++ [y] ∧ Paired F xs ys' ∧ F x y
  | [], _, .cons r .nil => ⟨[], _, rfl, .nil, r⟩
  | _ :: xs, _, .cons (b := b) r t => by
    obtain ⟨ys', y, rfl, h1, h2⟩ := prd_unsnoc (xs := xs) t
    exact ⟨b :: ys', y, rfl, .cons r h1, h2⟩
theorem nil_or_snoc {α : Type} (xs : List α) : xs = [] ∨ ∃ ys y, xs = ys ++ [y] := by
  rcases List.eq_nil_or_concat xs with h | ⟨ys, y, h⟩
  · exact .inl h
  · exact .inr ⟨ys, y, by simpa using h⟩
theorem pg_tupK {X : Cx} (K : PySem.W.Frag) (n : Nat) {es : List Expr} {k : Nat} {pos : Pos} {t : TGs} (h : PGs X es t) (hc : X.calm = true := by rfl) (hK : X.K = K := by rfl)
    (hn : (assignEach es X.env).length = n := by rfl) (hst : (assignEach es X.env).findIdx? (·.1) = none := by rfl) : PG X (.Tuple es k pos) (gTup K n t) := hK ▸ pg_tup hc h hn hst
theorem perm_erase {α : Type} : ∀ {xs : List α} {i : Nat} {x : α}, xs[i]? = some x → (x :: xs.eraseIdx i).Perm xs
  | [], _, _, h => by simp at h
  | y :: r, 0, x, h => by
    simp at h
    subst h
    exact List.Perm.refl _
  | y :: r, i + 1, x, h => by
    rw [List.getElem?_cons_succ] at h
    exact (List.Perm.swap _ _ _).trans (List.Perm.cons _ (perm_erase h))
theorem Sep.new2 {G H : Hp} {M : List (Addr × HO)} {x dx : Addr} {o u : HO} (S : Sep G M H) (h1 : H x = Option.none) (h2 : H dx = Option.none) (ne : dx ≠ x) : Sep G ((x, o) :: (dx, u) :: M) (upd (upd H dx u) x o) :=
  (S.new h2).new (by rw [upd_ne (Ne.symm ne)]; exact h1)
end XL
set_option Elab.async false
set_option linter.all false
set_option maxRecDepth 100000
set_option maxHeartbeats 4000000
/-! XIter: enumerate of a tuple. -/
namespace XL
open PySem PySem.Spec PyProof.Rows L2
theorem meets_enum1 {v : Value} {o : Obj} {Hq : Heap → Prop} (B : Begins v o Hq) :
    Meets (Builtin.«enumerate.__new__» ⟨[.type "enumerate", v], []⟩) (fun _ R s => Hq s.heap ∧
      R (.ok (.ret (.ref (s.heap.push o).objs.size))) { s with heap := (s.heap.push o).push { cls := .type "enumerate", data := .fields #[.none, .bool false, .ref s.heap.objs.size, rawInt 0, .none, .none] } }) :=
  .of_wp fun prog w A R s z => by
    obtain ⟨hp, g, d, tk, os⟩ := s
    obtain ⟨z1, z2⟩ := z
    have hsub := sub_enumerate
    have begin1 : ∀ {A' : Around} {E : Value → Shared → Prop} {Q : Value → Shared → Prop}, Q (.ref hp.objs.size) ⟨hp.push o, g, d, tk, os⟩ → wpAny (model prog w) A' (pyIter v) Q E ⟨hp, g, d, tk, os⟩ := fun q => B.iter prog w _ _ ⟨hp, g, d, tk, os⟩ _ z1 q
    wp_walk using begin1
    refine wpAny_stack_any fun st => wpAny_pure ?_
    split
    · rename_i c _ _ _ _ _
      cases (c == Value.type "enumerate") <;> (wp_walk using begin1; exact ⟨_, rfl, z2⟩)
    · wp_walk using begin1
      exact ⟨_, rfl, z2⟩
theorem call_enum1 {prog : Program} {w : World} {A : Around} {E : Value → Shared → Prop} {s : Shared} {v : Value} {o : Obj} {Hq : Heap → Prop} {Q : Value → Shared → Prop} (B : Begins v o Hq) (h1 : Hq s.heap)
    (k : ∀ h', IsEnum h' (s.heap.objs.size + 1) s.heap.objs.size 0 .none → h'.get? s.heap.objs.size = some o → (∀ b o, s.heap.get? b = some o → h'.get? b = some o) → Q (.ref (s.heap.objs.size + 1)) { s with heap := h' }) :
    wpAny (model prog w) A (call (.type "enumerate") [v]) Q E s := by
  refine callType_new F.called_enumerate (by decide) (F.typeCall_enumerate_1 _) (F.newCall_enumerate_1 _) (fun ob => F.args_object_init_2 ob _) F.entry_enumerate_new (meets_enum1 B) ⟨h1, ?_⟩
  have hz : (s.heap.push o).objs.size = s.heap.objs.size + 1 := Heap.size_push ..
  show _ ∧ _
  rw [hz]
  have he : IsEnum ((s.heap.push o).push { cls := .type "enumerate", data := .fields #[.none, .bool false, .ref s.heap.objs.size, rawInt 0, .none, .none] }) (s.heap.objs.size + 1) s.heap.objs.size 0 .none := by
    have z := Heap.get?_push_size (s.heap.push o) (o := { cls := .type "enumerate", data := .fields #[.none, .bool false, .ref s.heap.objs.size, rawInt 0, .none, .none] }) rfl
    rw [hz] at z
    exact z
  exact ⟨⟨_, he, rfl⟩, k _ he (Heap.get?_push_of_some _ (Heap.get?_push_size _ B.free)) fun b o x => Heap.get?_push_of_some _ (Heap.get?_push_of_some _ x)⟩
/-- the tuple at a, each item in a new pair -/
def IteT (K : PySem.W.Frag) (a : Addr) : It :=
  ⟨fun i H => ∃ (xs : List V) (x : V), SqT K H a xs ∧ xs[i]? = some x, fun i H v H' => ∃ T x, v = .ref T ∧ H T = none ∧ H' = upd H T (.tup [.int (i : Nat), x]) ∧ ∀ xs, SqT K H a xs → xs[i]? = some x, fun i H => ∃ xs : List V, SqT K H a xs ∧ xs.length ≤ i⟩
theorem turn_enumT {P : Program} {w : World} {K : PySem.W.Frag} {elts : List Expr} {kk : Nat} {tpos : Pos} (a e it : Addr) (hai : a ≠ it) (hae : a ≠ e) :
    Turn P w K (.Tuple elts kk tpos) (IteT K a) [e, it] e (fun i h => (∃ old, IsEnum h e it ((i : Nat) : Int) old) ∧ h.IsTupleIter it a i ∧ e ≠ it) where
  mem := by simp
  obj := fun i h st b hb => by
    obtain ⟨⟨old, he⟩, ⟨o, ho, hc, hd⟩, _⟩ := st
    have q : b = e ∨ b = it := by simpa using hb
    rcases q with z | z
    · rw [z]; exact ⟨_, he, fun v q => nomatch q⟩
    · rw [z]; exact ⟨o, ho, fun v q => by rw [hd] at q; cases q⟩
  keep := fun i h h' st k => let ⟨⟨old, he⟩, hi, hne⟩ := st; ⟨⟨old, k e (by simp) _ he⟩, hi.at fun o q => k it (by simp) o q, hne⟩
  item := by
    intro X hP hw hK hc i pins s σ H E I hf st hg
    subst hP hw hK
    obtain ⟨⟨old, he⟩, hit, hne⟩ := st
    obtain ⟨xs, x, hq, hx⟩ := hg
    obtain ⟨its, rv, p, hz⟩ := I.tuple hq
    obtain ⟨u, hu, ru⟩ := rv.get hx
    have hel : e < s.heap.objs.size := Heap.lt_size he
    have hil : it < s.heap.objs.size := by obtain ⟨_, q, _⟩ := hit; exact Heap.lt_size q
    have hlen : i < its.toArray.size := by
      have z := (List.getElem?_eq_some_iff.mp hu).1
      simpa using z
    refine wpAny_pyNext_enum_itemC (c := ((i : Nat) : Int)) (Draws.tuple (A := X.A.in1) (I.ok.hd hc) it a hai its.toArray) he ⟨hit, p⟩ hlen hne (by simp; exact ⟨hne, fun z => hae z.symm⟩) fun y h' tk hy ho st' hT hsz hk => ?_
    have ey : y = u := by
      have z : its[i]? = some y := by simpa using hy
      rw [hu] at z
      exact (Option.some.inj z).symm
    subst ey
    refine ⟨_, rfl, wpAny_letOwnedTupleGo_enum (s := { s with heap := h', toks := tk + 1 }) ho fun h'' he' sb => ?_⟩
    have hT2 : h''.get? s.heap.objs.size = some { cls := .type "tuple", data := .seq #[.int i tk, y] } := (sb.2 _ (Nat.ne_of_gt hel)).trans hT
    have new : ObjOk X.prog X.w (upd H s.heap.objs.size (.tup [.int (i : Nat), x])) h'' s.heap.objs.size (.tup [.int (i : Nat), x]) :=
      ⟨by show 2 ≤ sizeLine; decide, [.int i tk, y], .cons ⟨_, rfl⟩ (.cons ru .nil), ⟨_, hT2, rfl, _, rfl⟩⟩
    have I1 : L2.Inv X pins σ (upd H s.heap.objs.size (.tup [.int (i : Nat), x])) { s with heap := h'', toks := tk + 1 } :=
      I.turnedNew (ch := [e, it]) (fun b ob hb q => (sb.2 b (fun z => hb (by simp [z]))).trans (hk b ob (fun z => hb (by simp [z])) (fun z => hb (by simp [z])) q)) hf (Nat.le_refl _) new
    refine ⟨.ref s.heap.objs.size, _, I1, rfl, ⟨_, x, rfl, I.hok.fresh (Nat.le_refl _), rfl, fun ys hy => by rw [I.tuple_inj hy hq]; exact hx⟩, ⟨⟨y, ?_⟩, st'.1.at fun o q => (sb.2 it (Ne.symm hne)).trans q, hne⟩, fun b hb => ?_⟩
    · have e1 : ((i + 1 : Nat) : Int) = (i : Int) + 1 := by omega
      rw [e1]; exact he'
    · have hb2 : b < s.heap.objs.size := by
        have q : b = e ∨ b = it := by simpa using hb
        rcases q with z | z
        · rw [z]; exact hel
        · rw [z]; exact hil
      rw [upd_ne (Nat.ne_of_lt hb2)]
      exact (hf b hb).1
  done := by
    intro X hP hw hK hc i pins s σ H E I hf st hg
    subst hP hw hK
    obtain ⟨⟨old, he⟩, hit, hne⟩ := st
    obtain ⟨xs, hq, hx⟩ := hg
    obtain ⟨its, rv, p, hz⟩ := I.tuple hq
    obtain ⟨f0, f1, f2, f3, f4, f5⟩ := hf it (by simp)
    have hl := rv.length
    have D := Draws.tuple (prog := X.prog) (w := X.w) (A := X.A.in1) (I.ok.hd hc) it a hai its.toArray
    by_cases hi : i = its.toArray.size
    · subst hi
      exact wpAny_pyNext_enum_endD D he ⟨hit, p⟩ fun h' eb => ⟨rfl, I.turned (t' := s.toks) (fun b o hb q => eb b o hb q) f0 f1 f3 f4 f5⟩
    · have D2 : Draws X.prog X.w X.A.in1 it [it, a] i (fun _ _ => False) (fun j h => (j = i ∨ False) ∧ h.IsTupleIter it a i ∧ h.IsTuple a its.toArray) := {
        live := fun _ _ st => let ⟨o, ho, _⟩ := st.2.1; ⟨o, ho⟩
        frame := fun _ _ _ st hk => ⟨st.1, st.2.1.at fun o e => hk it (by simp) o e, st.2.2.at fun o e => hk a (by simp) o e⟩
        item := fun j s Q E hj st hQ => by
          rcases st.1 with z | z
          · omega
          · exact z.elim
        done := fun s Q E st hE => wpAny_nextOf_tuple_end (I.ok.hd hc) st.2.1 st.2.2 (by
          simp only [List.getElem?_toArray]
          exact List.getElem?_eq_none_iff.mpr (by omega)) hE }
      exact wpAny_pyNext_enum_endD D2 he ⟨.inl rfl, hit, p⟩ fun h' eb => ⟨rfl, I.turned (t' := s.toks) (fun b o hb q => eb b o hb q) f0 f1 f3 f4 f5⟩
  self := fun A i s Q E st h => let ⟨⟨_, he⟩, _⟩ := st; wpAny_pyIter_enum he h
def iEnumT (K : PySem.W.Frag) (ta : TA) : TI := fun σ H R => ta σ H fun vs H1 => ∃ a xs, vs = [.ref a] ∧ SqT K H1 a xs ∧ R (IteT K a) H1
theorem pi_enumT {X : Cx} {e : Expr} {ta : TA} {p pos tpos : Pos} {elts : List Expr} {kk : Nat} (hg : Gl X "enumerate") (hm : X.mg "enumerate" = none) (ha : PA X [e] ta) (hs : starEach [e] X.env = [(false, eval e X.env)] := by rfl) :
    PI X (.Tuple elts kk tpos) (.Call (.Name "enumerate" p) [e] [] pos) (iEnumT X.K ta) := by
  refine ⟨fun pins s σ H R I h => ?_⟩
  refine Call_ (ld_blt I hg hm boot_enumerate (PyProof.Rows.callWith_type1 (thn (ha.run pos pins s σ H _ I h) fun us s1 ⟨vs, H1, I1, r1, q1⟩ => ?_) hs rfl))
  obtain ⟨a, xs, ex, hq, q⟩ := q1
  subst ex
  cases r1 with
  | cons r rr =>
    cases rr
    cases r
    obtain ⟨its, rv, p', hz⟩ := I1.tuple hq
    have hal : a < s1.heap.objs.size := by obtain ⟨o, ho, _⟩ := p'; exact Heap.lt_size ho
    refine call_enum1 (begins_tuple a its.toArray) p' fun h' he hit hk => wpAny_pyIter_enum he ?_
    have I2 : L2.Inv X pins σ H1 { s1 with heap := h' } := I1.kept (t' := s1.toks) hk
    refine ⟨s1.heap.objs.size + 1, [s1.heap.objs.size + 1, s1.heap.objs.size], _, _, H1, rfl, I2, turn_enumT a (s1.heap.objs.size + 1) s1.heap.objs.size (Nat.ne_of_lt hal) (Nat.ne_of_lt (Nat.lt_succ_of_lt hal)), ⟨⟨.none, he⟩, ⟨_, hit, rfl, rfl⟩, Nat.succ_ne_self _⟩, fun b hb => ?_, q⟩
    have q' : b = s1.heap.objs.size + 1 ∨ b = s1.heap.objs.size := by simpa using hb
    have hle : s1.heap.objs.size ≤ b := by
      rcases q' with z | z
      · rw [z]; exact Nat.le_add_right _ _
      · rw [z]; exact Nat.le_refl _
    exact I1.fpOk hle (I1.hok.fresh hle)
theorem for_enumT {K : PySem.W.Frag} {a : Addr} {xs : List V} {tb : TS} {D : Ends} {σ : L2.St} {H : Hp} {i j : Nat} (Pv : Nat → L2.St → Hp → Prop) (h0 : Pv 0 σ H) (hl : ∀ k σ H, Pv k σ H → SqT K H a xs)
    (hs : ∀ k x σ H T, xs[k]? = some x → Pv k σ H → H T = none →
      tb { D with nx := Pv (k + 1), ct := Pv (k + 1), bk := D.nx } ((σ.set i (some (.int (k : Nat)))).set j (some x)) (upd H T (.tup [.int (k : Nat), x]))) (hd : ∀ σ H, Pv xs.length σ H → D.nx σ H) :
    ∃ W : Nat → Nat → L2.St → Hp → Prop, (∃ m, W 0 m σ H) ∧ ∀ k m σ H, W k m σ H →
      ((IteT K a).stop k H ∧ D.nx σ H) ∨ ((IteT K a).go k H ∧ ∃ N : L2.St → Hp → Prop, (∀ σ' H', N σ' H' → ∃ m', m' < m ∧ W (k + 1) m' σ' H') ∧ ∀ x H', (IteT K a).yld k H x H' →
        (gTup K 2 (gCons (gName i) (gCons (gName j) gNil))) x σ H' fun σ2 H2 => tb { D with nx := N, ct := N, bk := D.nx } σ2 H2) := by
  refine ⟨fun k m σ H => m = xs.length - k ∧ k ≤ xs.length ∧ Pv k σ H, ⟨xs.length, by simp, Nat.zero_le _, h0⟩, ?_⟩
  rintro k m σ H ⟨rfl, hk, p⟩
  have q := hl _ σ H p
  by_cases hlt : k < xs.length
  · refine .inr ⟨⟨xs, xs[k], q, by simp [hlt]⟩, Pv (k + 1), fun σ' H' p' => ⟨xs.length - (k + 1), by omega, rfl, hlt, p'⟩, fun v H' y => ?_⟩
    obtain ⟨T, x, rfl, nT, rfl, hx⟩ := y
    refine ⟨T, _, rfl, SqT.of upd_same, rfl, _, _, rfl, _, _, rfl, rfl, ?_⟩
    exact hs k x σ H T (hx xs q) p nT
  · have e : k = xs.length := by omega
    subst e
    exact .inl ⟨⟨xs, q, Nat.le_refl _⟩, hd σ H p⟩
end XL
set_option Elab.async false
set_option linter.all false
set_option maxRecDepth 100000
set_option maxHeartbeats 4000000
/-! XDeep: x in t, t.index(x), items data of any depth, t a list or a tuple. -/
namespace XL
open PySem PySem.Spec PyProof.Rows L2
section
variable {X : Cx} (K : PySem.W.Frag)
def rInX (K : PySem.W.Frag) (neg : Bool) : R2 := fun x y H Q => ∃ d ds, Dp K H x d ∧ (Dp K H y (.list ds) ∨ Dp K H y (.tuple ds)) ∧ SeqAt.shaped d = true ∧ PyData.canLayAll0 ds = true ∧ Q (.bl (if neg then !(ds.any fun z => PyData.eqv z d) else ds.any fun z => PyData.eqv z d)) H
theorem in_deepK (hu : X.A.units + 65 < cLine) (h : X.K = K := by rfl) : OpR X (compareOp .In) (rInX K false) := by
  subst h
  intro pins s σ H x y v u Q I rx ry h
  obtain ⟨d, ds, hd, he, sd, se, q⟩ := h
  obtain ⟨as, r1⟩ := Dp.reads I d x v hd rx
  rcases he with he | he
  · obtain ⟨bs, r2⟩ := Dp.reads I (.list ds) y u he ry
    exact SeqAt.in_list_reads r2 r1 se (SeqAt.canLay_of_shaped sd) (room_in_shaped sd hu) ⟨.bl _, H, I, rfl, q⟩
  · obtain ⟨bs, r2⟩ := Dp.reads I (.tuple ds) y u he ry
    exact SeqAt.in_tuple_reads r2 r1 se (SeqAt.canLay_of_shaped sd) (room_in_shaped sd hu) ⟨.bl _, H, I, rfl, q⟩
theorem notin_deepK (hu : X.A.units + 65 < cLine) (h : X.K = K := by rfl) : OpR X (compareOp .NotIn) (rInX K true) := by
  subst h
  intro pins s σ H x y v u Q I rx ry h
  obtain ⟨d, ds, hd, he, sd, se, q⟩ := h
  obtain ⟨as, r1⟩ := Dp.reads I d x v hd rx
  rcases he with he | he
  · obtain ⟨bs, r2⟩ := Dp.reads I (.list ds) y u he ry
    exact SeqAt.notIn_list_reads r2 r1 se (SeqAt.canLay_of_shaped sd) (room_in_shaped sd hu) ⟨.bl _, H, I, rfl, q⟩
  · obtain ⟨bs, r2⟩ := Dp.reads I (.tuple ds) y u he ry
    exact SeqAt.notIn_tuple_reads r2 r1 se (SeqAt.canLay_of_shaped sd) (room_in_shaped sd hu) ⟨.bl _, H, I, rfl, q⟩
/-- t.index(x), t a tuple: the first place of an equal one -/
def rIndexT (K : PySem.W.Frag) : V → List V → Hp → VK → Prop := fun x xs H Q => ∃ (a : Addr) (y : V) (d : PyData) (ds : List PyData) (j : Nat) (z : PyData), x = V.ref a ∧ xs = [y] ∧ Dp K H (V.ref a) (.tuple ds) ∧ Dp K H y d ∧
  PyData.canLayAll0 ds = true ∧ SeqAt.shaped d = true ∧ ds[j]? = some z ∧ PyData.eqv z d = true ∧ (∀ (m : Nat) (z' : PyData), m < j → ds[m]? = some z' → PyData.eqv z' d = false) ∧ Q (.int (j : Nat)) H
theorem mt_tindexK (hu : X.A.units + 65 < cLine) (h : X.K = K := by rfl) : MtR X "tuple.index" (rIndexT K) := by
  subst h
  intro pins s σ H x xs v us Q I rx rxs h
  obtain ⟨a, y, d, ds, j, z, rfl, rfl, hl, hy, hxs, sd, hz, hzj, hno, q⟩ := h
  cases rx
  cases rxs with
  | cons ry rt =>
    rename_i uy ut
    cases rt
    obtain ⟨bs, r1⟩ := Dp.reads I d y uy hy ry
    have hroom : X.A.units + 1 + min (PyData.depthAll ds) d.depth < cLine := room_in_shaped sd hu
    cases hl with
    | tup hs ha =>
      obtain ⟨its, rv, ⟨⟨cls, dd, data, sls⟩, ho, hc, n, hdt⟩, hlen⟩ := I.tuple hs
      simp only at hc hdt
      subst hc hdt
      obtain ⟨as, h4⟩ := Dp.readsAll I ds _ its ha rv
      have hn : its.length = ds.length := SeqAt.ReadsAll.length ds its as h4
      have hmap : its.map (SeqAt.readOf s.heap) = ds := SeqAt.readsAll_map ds its as hxs h4
      have hvl := rv.length
      obtain ⟨hjd, _⟩ := List.getElem?_eq_some_iff.mp hz
      have hjl : j < its.length := by omega
      have hj : j < its.toArray.size := by simpa using hjl
      have at_ : ∀ (m : Nat) (hm : m < its.toArray.size) (z' : PyData), ds[m]? = some z' → SeqAt.readOf s.heap its.toArray[m] = z' := by
        intro m hm z' hz'
        have hml : m < its.length := by simpa using hm
        rw [← hmap, List.getElem?_map, List.getElem?_eq_getElem hml] at hz'
        have e1 : SeqAt.readOf s.heap its[m] = z' := Option.some.inj (show some (SeqAt.readOf s.heap its[m]) = some z' from hz')
        simpa using e1
      refine call_meets PySem.F.slot_tuple_index ⟨_, ho, rfl⟩ PySem.F.entry_tuple_index (PySem.F.args_tuple_index_2 _ _)
        (TI.tuple_indexAt a its.toArray n dd sls uy (fun u => PyData.eqv (SeqAt.readOf s.heap u) d) j hj ?_ ?_) ⟨ho, SeqAt.items_eqAt (vs := its.toArray) (show ReadsAll s.heap its.toArray.toList ds as from h4) r1 hxs (SeqAt.canLay_of_shaped sd) hroom, ?_⟩
      · show PyData.eqv (SeqAt.readOf s.heap its.toArray[j]) d = true
        rw [at_ j hj z hz]
        exact hzj
      · intro m hm hmj
        have hmd : m < ds.length := by omega
        have hz' : ds[m]? = some ds[m] := List.getElem?_eq_getElem hmd
        show PyData.eqv (SeqAt.readOf s.heap its.toArray[m]) d = false
        rw [at_ m hm _ hz']
        exact hno m _ hmj hz'
      · exact ⟨.int (j : Nat), H, I.tok _, ⟨_, rfl⟩, q⟩
end
theorem u65 {k : Nat} {A : Around} (r : Room k A) : A.units + 65 < cLine := by have := r.un; omega
/-- xs[::-1] of a list -/
def tRev (K : PySem.W.Frag) (te : TE) : TE := fun σ H Q => te σ H fun x H1 => ∃ a xs, x = .ref a ∧ SqL K H1 a xs ∧ ∀ p, H1 p = none → Q (.ref p) (upd H1 p (.lst xs.reverse))
theorem pe_rev {X : Cx} {e m : Expr} {te : TE} {p2 pos : Pos} (he : PE X e te) (hm : PE X m (tC (.int (-1)))) : PE X (.Subscript e (.Slice none none (some m) p2) pos) (tRev X.K te) := by
  refine ⟨fun pins s σ H Q I h => ?_⟩
  refine Subscript_ (thn (he.run pins s σ H _ I h) fun v s1 ⟨x, H1, I1, r1, q1⟩ => ?_)
  refine wpAny_Slice (wpAny_evalPart_none (wpAny_evalPart_none (wpAny_evalPart_some (thn (hm.run pins s1 σ H1 (fun y H2 => y = .int (-1) ∧ H2 = H1) I1 ⟨rfl, rfl⟩) fun vm s3 ⟨y, H3, I3, r3, ey, eH⟩ => ?_))))
  subst ey eH
  obtain ⟨t, rfl⟩ := r3
  obtain ⟨a, xs, rfl, hx, q⟩ := q1
  cases r1
  have I4 : L2.Inv X pins σ H3 { s3 with heap := s3.heap.push { cls := .type "slice", data := .fields #[.none, .none, .int (-1) t] } } := I3.kept (t' := s3.toks) fun b ob q => Heap.get?_push_of_some _ q
  obtain ⟨its, r, ht, hz⟩ := I4.list hx
  have hlen := r.length
  show wpAny (model X.prog X.w) X.A (subscriptTail e (.Slice none none (some m) p2) (.ref a) (.ref s3.heap.objs.size)) (EP X pins σ Q) X.xe { s3 with heap := s3.heap.push { cls := .type "slice", data := .fields #[.none, .none, .int (-1) t] } }
  refine tail_any (ops := [.ref a, .ref s3.heap.objs.size]) ht.isList.typeIs slot_list_getitem.lookup ?_ (by with_unfolding_all rfl)
  refine wpAny_getItem_list_slice ht.isList (Heap.IsSliceOf.new ..) .none .none (.int (-1) t) (by decide) ?_ (by rw [List.size_toArray] <;> omega)
  rw [PySem.W.krv_pick]
  refine ⟨.ref _, _, I4.laid (t' := s3.toks) (o := .lst xs.reverse) (fun b ob q => Heap.get?_push_of_some _ q) (Nat.le_refl _) ?_, rfl, q _ (I4.hok.fresh (Nat.le_refl _))⟩
  exact ⟨by rw [List.length_reverse]; exact hz, _, 0, r.reverse, Heap.get?_push_size _ rfl⟩
theorem pe_revK {X : Cx} {e m : Expr} {te : TE} {p2 pos : Pos} (K : PySem.W.Frag) (he : PE X e te) (hm : PE X m (tC (.int (-1)))) (h : X.K = K := by rfl) : PE X (.Subscript e (.Slice none none (some m) p2) pos) (tRev K te) := h ▸ pe_rev he hm
theorem tst {b : Bool} {A B : Prop} (h1 : b = true → A) (h0 : b = false → B) : if b = true then A else B := by
  cases b
  · exact h0 rfl
  · exact h1 rfl
theorem sl_tupAK {X : Cx} (K : PySem.W.Frag) (h : X.K = K := by rfl) : SlR X (rSlA K) := h ▸ sl_tupA
/-! ### tuples whose object has no dict (so that their methods are reached) -/
def TupF (G : Hp) (a : Addr) (xs : List V) : Prop := ∃ o : Obj, o.dict = none ∧ G a = some (.frz o (.tup xs))
def Tu (G : Hp) (a : Addr) (xs : List V) : Prop := G a = some (.tup xs) ∨ TupF G a xs
theorem TupF.same {G G' : Hp} {a : Addr} {xs : List V} (e : Same G G') (h : TupF G a xs) : TupF G' a xs := let ⟨o, h1, h2⟩ := h; ⟨o, h1, e _ _ h2⟩
theorem Tu.same {G G' : Hp} {a : Addr} {xs : List V} (e : Same G G') (h : Tu G a xs) : Tu G' a xs := by
  rcases h with h | h
  · exact .inl (e _ _ h)
  · exact .inr (h.same e)
theorem Tu.sq {K : PySem.W.Frag} {H : Hp} {a : Addr} {xs : List V} (h : Tu H a xs) : SqT K H a xs := by
  rcases h with h | ⟨o, _, h⟩
  · exact .inl (.inl h)
  · exact .inl (.inr ⟨o, h⟩)
theorem Tu.ty {K : PySem.W.Frag} {H : Hp} {a : Addr} {xs : List V} (h : Tu H a xs) : TyX K H (.ref a) (.type "tuple") := by
  rcases h with h | ⟨o, _, h⟩
  · exact .base (.tup h)
  · exact .fTuple h
theorem TupF.tu {G : Hp} {a : Addr} {xs : List V} (h : TupF G a xs) : Tu G a xs := .inr h
section
variable {X : Cx} (K : PySem.W.Frag)
/-- tuple(xs) -/
def yTupF (K : PySem.W.Frag) : List V → Hp → VK → Prop := fun xs H Q => ∃ p ys, xs = [.ref p] ∧ ((SqL K H p ys ∧ ∀ l o, H l = none → o.dict = none → Q (.ref l) (upd H l (.frz o (.tup ys)))) ∨ (SqT K H p ys ∧ Q (.ref p) H))
theorem call_tupleFK (h : X.K = K := by rfl) : CallR X (.type "tuple") (yTupF K) := by
  subst h
  intro pins s σ H xs us Q I r h
  obtain ⟨p, ys, rfl, h⟩ := h
  obtain ⟨u, rfl, rx⟩ := vals1 r
  cases rx
  rcases h with ⟨hq, q⟩ | ⟨hq, q⟩
  · obtain ⟨its, r', pl, hz⟩ := I.list hq
    have hlen := r'.length
    refine call_tuple_list pl.isList (fun h' kp => ?_) (by simp only [List.size_toArray] <;> omega)
    have I1 : L2.Inv X pins σ H { s with heap := h' } := I.kept (t' := s.toks) kp
    have I2 : L2.Inv X pins σ (upd H h'.objs.size (.frz { cls := .type "tuple", data := .seq its.toArray } (.tup ys))) { s with heap := h'.push { cls := .type "tuple", data := .seq its.toArray } } :=
      I1.laid (t' := s.toks) (fun b o e => Heap.get?_push_of_some _ e) (Nat.le_refl _) (show ObjOk X.prog X.w _ _ _ (.frz { cls := .type "tuple", data := .seq its.toArray } (.tup ys)) from ⟨Heap.get?_push_size _ rfl, hz, its, r', IsTup.new _ _⟩)
    exact ⟨.ref h'.objs.size, _, I2, rfl, q _ _ (I1.hok.fresh (Nat.le_refl _)) rfl⟩
  · obtain ⟨its, r', pl, hz⟩ := I.tuple hq
    exact call_tuple_same pl ⟨.ref p, H, I, rfl, q⟩
/-- t.m(e, ..), t a tuple -/
def tTM (r : V → List V → Hp → VK → Prop) (to : TE) (t : TA) : TE := fun σ H Q => to σ H fun x H1 => (∃ a xs, x = .ref a ∧ TupF H1 a xs) ∧ t σ H1 fun vs H2 => r x vs H2 Q
theorem pe_tm {o e : Expr} {es : List Expr} {to : TE} {t : TA} {id : String} {name : Str} {apos cpos : Pos} {r : V → List V → Hp → VK → Prop} (slot : Slot "tuple" name id) (hty : typeOf (.builtin id) = pure (.type "method_descriptor")) (hm : MtR X id r) (ho : PE X o to) (ha : PA X (e :: es) t)
    (hbase : attributeBase o name X.env (eval o X.env) = eval o X.env := by rfl)
    (hfew : ((backTo cpos (starEach (e :: es) X.env)).all (fun x => !x.1) && (backToKw cpos (keywordEach [] X.env)).all (fun x => x.1.isSome)
      && decide ((e :: es).length + ([] : List Keyword).length + (if ([] : List Keyword).isEmpty then 0 else 1) < 30)) = true := by rfl)
    (hline : (apos.endLine == cpos.line) = true := by rfl) (hs : starEach (e :: es) X.env = (false, eval e X.env) :: starEach es X.env := by rfl) (hplain : (backTo cpos (starEach es X.env)).any (·.1) = false := by rfl) :
    PE X (.Call (.Attribute o name apos) (e :: es) [] cpos) (tTM r to t) := by
  refine ⟨fun pins s σ H Q I h => ?_⟩
  refine wpAny_Call_method_late hbase hfew hline rfl (thn (ho.run pins s σ H _ I h) fun v s1 ⟨x, H1, I1, r1, ty, q1⟩ => ?_)
  obtain ⟨a, xs, rfl, ob, hd, ha'⟩ := ty
  cases r1
  obtain ⟨h1, _, _, _, h2⟩ := I1.hok _ _ ha'
  refine ⟨"tuple", id, PySem.F.plainAttrs_tuple, slot, hty, ⟨ob, h1, ?_⟩, fun b e => ?_, ?_⟩
  · obtain ⟨ob', e1, e2, _⟩ := h2
    rw [h1] at e1
    rw [Option.some.inj e1]
    exact e2
  · cases e
    exact ⟨ob, h1, hd⟩
  have hA := ha.run cpos pins s1 σ H1 _ I1 q1
  rw [hs] at hA ⊢
  refine Calls.callWith_builtin (by show (false || (backTo cpos (starEach es X.env)).any (·.1)) = false; rw [hplain] <;> rfl) (Calls.evalArgs_plain ?_)
  exact thn hA fun us s2 ⟨vs, H2, I2, r2, q2⟩ => hm pins s2 σ H2 (V.ref a) vs (.ref a) us Q I2 rfl r2 q2
end
/-- t[lo:hi]: the whole of it is t itself -/
def rSlF (K : PySem.W.Frag) : V → Option Int → Option Int → Hp → VK → Prop := fun x lo hi H Q => ∃ a xs, x = .ref a ∧ SqT K H a xs ∧
  (HT.sIx xs.length 0 lo = 0 ∧ HT.sIx xs.length xs.length hi = xs.length → Q (.ref a) H) ∧ (¬ (HT.sIx xs.length 0 lo = 0 ∧ HT.sIx xs.length xs.length hi = xs.length) → ∀ p ob, H p = none → ob.dict = none → Q (.ref p) (upd H p (.frz ob (.tup (cutV xs lo hi)))))
theorem sl_tupFK {X : Cx} (K : PySem.W.Frag) (h : X.K = K := by rfl) : SlR X (rSlF K) := by
  subst h
  intro pins s σ H x v vl vu lo hi sl Q I rx hs pl pu h
  obtain ⟨a, xs, rfl, hx, q1, q2⟩ := h
  by_cases hw : HT.sIx xs.length 0 lo = 0 ∧ HT.sIx xs.length xs.length hi = xs.length
  · exact sl_tupA pins s σ H _ v vl vu lo hi sl Q I rx hs pl pu ⟨a, xs, rfl, hx, q1, fun z => absurd hw z⟩
  · cases rx
    obtain ⟨its, r, ht, hz⟩ := I.tuple hx
    have hlen : its.toArray.size = xs.length := by rw [List.size_toArray]; exact r.length.symm
    refine ⟨"tuple", _, PyProof.Rows.slot_tuple_getitem.lookup, ht.typeIs, ?_⟩
    refine HT.getItem_tuple_cut ht hs pl pu (by rw [hlen]; exact hw) ?_ (by rw [hlen]; exact hz)
    rw [hlen]
    refine ⟨.ref s.heap.objs.size, _, I.laid (t' := s.toks) (o := .frz { cls := .type "tuple", data := .seq (List.take (HT.sIx xs.length xs.length hi - HT.sIx xs.length 0 lo) (List.drop (HT.sIx xs.length 0 lo) its.toArray.toList)).toArray } (.tup (cutV xs lo hi))) (fun b ob q => Heap.get?_push_of_some _ q) (Nat.le_refl _) ?_, rfl, q2 hw _ _ (I.hok.fresh (Nat.le_refl _)) ?_⟩
    · exact ⟨Heap.get?_push_size _ rfl, Nat.le_trans (cutV_length xs lo hi) hz, _, (r.drop (HT.sIx xs.length 0 lo)).take (HT.sIx xs.length xs.length hi - HT.sIx xs.length 0 lo), IsTup.new _ _⟩
    · rfl
theorem Sep.sub {G H : Hp} {M M' : List (Addr × HO)} (S : Sep G M H) (h : M'.Sublist M) : Sep G M' H := ⟨S.1, fun p hp => S.2.1 p (h.subset hp), List.Nodup.sublist (h.map _) S.2.2⟩
theorem Sep.rot2 {G H : Hp} {a b c d : Addr × HO} {M : List (Addr × HO)} (S : Sep G (a :: b :: c :: d :: M) H) : Sep G (c :: d :: a :: b :: M) H := S.perm (List.perm_append_comm_assoc [a, b] [c, d] M)
theorem Sep.no3 {G H : Hp} {a b c : Addr × HO} {M : List (Addr × HO)} (S : Sep G (a :: b :: c :: M) H) : Sep G (a :: b :: M) H := S.sub ((List.sublist_cons_self c M).cons₂ b |>.cons₂ a)
/-! ### lists of ints, of pairs of ints, as data -/
def prd (p : Int × Int) : PyData := .tuple [.int p.1, .int p.2]
theorem prd_can (p : Int × Int) : (prd p).canLay0 = true := by simp [prd, PyData.canLay0, PyData.canLayAll0]
theorem prd_shaped (p : Int × Int) : SeqAt.shaped (prd p) = true := by
  unfold SeqAt.shaped
  rw [prd_can]
  simp [prd, PyData.depth, PyData.depthAll]
theorem prds_can : ∀ ps : List (Int × Int), PyData.canLayAll0 (ps.map prd) = true
  | [] => by simp [PyData.canLayAll0]
  | p :: r => by simp [PyData.canLayAll0, prd_can p, prds_can r]
theorem ints_can : ∀ ns : List Int, PyData.canLayAll0 (ns.map PyData.int) = true
  | [] => by simp [PyData.canLayAll0]
  | n :: r => by simp [PyData.canLayAll0, PyData.canLay0, ints_can r]
theorem prd_eqv (p q : Int × Int) : PyData.eqv (prd p) (prd q) = decide (p = q) := by
  obtain ⟨a, b⟩ := p
  obtain ⟨c, d⟩ := q
  simp only [prd, PyData.eqv, PyData.eqvAll, Bool.and_true]
  by_cases h1 : a = c <;> by_cases h2 : b = d <;> simp [h1, h2]
theorem int_shaped (n : Int) : SeqAt.shaped (.int n) = true := by simp [SeqAt.shaped, PyData.canLay0, PyData.depth]
theorem ints_dp {K : PySem.W.Frag} {H : Hp} : ∀ ns : List Int, DpAll K H (ns.map V.int) (ns.map PyData.int)
  | [] => .nil
  | n :: r => .cons (.int n) (ints_dp r)
theorem any_ints (n : Int) (ns : List Int) : ((ns.map PyData.int).any fun z => PyData.eqv z (.int n)) = decide (n ∈ ns) := by
  induction ns with
  | nil => rfl
  | cons m r ih =>
    rw [List.map_cons, List.any_cons, ih]
    show ((m == n) || decide (n ∈ r)) = decide (n ∈ m :: r)
    by_cases e : n = m
    · subst e; simp
    · have e2 : ¬ m = n := fun q => e q.symm
      simp [e, e2]
theorem any_prds (p : Int × Int) (ps : List (Int × Int)) : ((ps.map prd).any fun z => PyData.eqv z (prd p)) = decide (p ∈ ps) := by
  induction ps with
  | nil => rfl
  | cons q r ih =>
    rw [List.map_cons, List.any_cons, ih, prd_eqv]
    by_cases e : p = q
    · subst e; simp
    · have e2 : ¬ q = p := fun h => e h.symm
      simp [e, e2]
end XL
set_option Elab.async false
set_option linter.all false
set_option maxRecDepth 100000
set_option maxHeartbeats 4000000
/-! XOwn: o[i], o[i] = v by own methods. -/
namespace XL
open PySem PySem.Spec PyProof.Rows L2
section
variable {X : Cx} {CX : CXT} {C f : Addr} {fd : FuncData} {ps : List Str} {sp : Sp} {E : XK} {n : Nat} {o i : Expr} {to ti : TE} {pos : Pos}
def yIxO (C : Addr) (sp : Sp) (E : XK) : R2 := fun x y H Q => ∃ a dx fs, x = .ref a ∧ H a = some (.ins C dx fs) ∧ sp [.ref a, y] H Q E
theorem pe_ixO (ho : PE X o to) (hi : PE X i ti) (F : FnOk X.prog X.w X.K X.mg X.base CX n f fd ps sp) (hs : PySem.W.findIn X.K (.ref C) "__getitem__" = some (some (.ref f))) (hf : PySem.W.fnIn X.K f = true) (hfn : PySem.W.isFn X.K (.ref f) = true)
    (hb : Binds X.K fd ps []) (hx : Passes CX X E) (hr : Room (n + 1) X.A) (hsl : ∀ x v, subscripted i true (.ref x) v = runValue (.builtin "lifetime.subscript" ⟨[.ref x, v], []⟩) := by intro _ _; with_unfolding_all rfl) :
    PE X (.Subscript o i pos) (tOp (yIxO C sp E) to ti) := by
  refine ⟨fun pins s σ H Q I h => ?_⟩
  refine Subscript_ (thn (ho.run pins s σ H _ I h) fun v s1 ⟨x, H1, I1, r1, q1⟩ => thn (hi.run pins s1 σ H1 _ I1 q1) fun u s2 ⟨y, H2, I2, r2, q2⟩ => ?_)
  obtain ⟨a, dx, fs, rfl, ha, hsp⟩ := q2
  cases r1
  obtain ⟨mA, J, _⟩ := ins_get I2.hok ha
  obtain ⟨od, J, _⟩ := J.look
  obtain ⟨m, hF⟩ := I2.fr
  refine PySem.W.sub_K hF I2.ok.mod.kin J hs hf hfn ?_ (hsl _ _)
  have hl : ([Value.ref a, u] ++ []).length = ps.length := F.len _ _ _ _ hsp
  refine wpAny_call (codeAny_mono (F.run X.A.in1 X.stack s2 H2 ⟨[.ref a, u], []⟩ [.ref a, u] [.ref a, y] Q E hr.in1 I2.env0.in1 (hb s2 [.ref a, u] I2.kIn hl) (.cons rfl (.cons r2 .nil)) hsp) fun r s' hq => ?_)
  cases r with
  | error e => exact hx pins σ H2 s2 e s' I2 hq
  | ok fl =>
    cases fl with
    | ret u => exact I2.after hq
    | next => exact False.elim hq
    | brk => exact False.elim hq
    | cont => exact False.elim hq
def yStO (C : Addr) (sp : Sp) (E : XK) : TSet := fun x y v H Q => ∃ a dx fs, x = .ref a ∧ H a = some (.ins C dx fs) ∧ sp [.ref a, y, v] H (fun _ H' => Q H') E
theorem set_own (F : FnOk X.prog X.w X.K X.mg X.base CX n f fd ps sp) (hq : PySem.W.noSeq X.K C = true) (hs : PySem.W.findIn X.K (.ref C) "__setitem__" = some (some (.ref f))) (hfn : PySem.W.isFn X.K (.ref f) = true)
    (hb : Binds X.K fd ps []) (hx : Passes CX X E) (hr : Room n X.A) : PSet X (yStO C sp E) := by
  intro pins s σ H x y v xv yv vv Q I rx ry rv h
  obtain ⟨a, dx, fs, rfl, ha, hsp⟩ := h
  cases rx
  obtain ⟨mA, J, _⟩ := ins_get I.hok ha
  obtain ⟨od, J, _⟩ := J.look
  obtain ⟨m, hF⟩ := I.fr
  refine PySem.W.ksp_setItem hF I.ok.mod.kin J hq hs hfn ?_
  refine wpAny_mono (run_fn (us := [.ref a, yv, vv]) (vs := [.ref a, y, v]) (dvs := []) F hr hb .nil hx I (.cons rfl (.cons ry (.cons rv .nil))) hsp) (fun r s' q => ?_) fun _ _ e => e
  obtain ⟨z, H', I', rz, q⟩ := q
  exact ⟨H', I', q⟩
end
end XL
set_option Elab.async false
set_option linter.all false
set_option maxRecDepth 100000
set_option maxHeartbeats 4000000
/-! XTup: tuples made by a display or by +, as objects without a dict. -/
namespace XL
open PySem PySem.Spec PyProof.Rows L2
section
variable {X : Cx} {es : List Expr} {t : TA} {pos : Pos}
def tTupF (t : TA) : TE := fun σ H Q => t σ H fun xs H1 => xs.length ≤ sizeLine ∧ ∀ p ob, H1 p = none → ob.dict = none → Q (.ref p) (upd H1 p (.frz ob (.tup xs)))
theorem pe_tupF {x1} (h : PA X es t) : PE X (.Tuple es x1 pos) (tTupF t) := by
  refine ⟨fun pins s σ H Q I hq => ?_⟩
  refine wpAny_Tuple_spliced (thn (h.run pos pins s σ H _ I hq) fun us s1 ⟨xs, H1, I1, r, z, q⟩ => ⟨by rw [← r.length]; exact z, ?_⟩)
  have hf : H1 s1.heap.objs.size = none := I1.hok.fresh (Nat.le_refl _)
  refine ⟨.ref s1.heap.objs.size, _, I1.laid (t' := s1.toks) (o := .frz { cls := .type "tuple", data := .seq us.toArray } (.tup xs)) (fun b u e => Heap.get?_push_of_some _ e) (Nat.le_refl _) ?_, rfl, q _ _ hf rfl⟩
  exact ⟨Heap.get?_push_size _ rfl, z, us, r, ⟨_, Heap.get?_push_size _ rfl, rfl, _, rfl⟩⟩
def rCatF (K : PySem.W.Frag) : R2 := fun x y H Q => ∃ a b xs ys, x = .ref a ∧ y = .ref b ∧ SqT K H a xs ∧ SqT K H b ys ∧ xs.length + ys.length ≤ sizeLine ∧
  (xs = [] → Q (.ref b) H) ∧ (xs ≠ [] → ys = [] → Q (.ref a) H) ∧ (xs ≠ [] → ys ≠ [] → ∀ p ob, H p = none → ob.dict = none → Q (.ref p) (upd H p (.frz ob (.tup (xs ++ ys)))))
theorem op_catFK (K : PySem.W.Frag) (h : X.K = K := by rfl) : OpR X (binaryOp .Add) (rCatF K) := by
  subst h
  intro pins s σ H x y v u Q I rx ry h
  obtain ⟨a, b, xs, ys, rfl, rfl, ha, hb, hz, q0, q1, q2⟩ := h
  by_cases hx : xs = []
  · exact op_catA pins s σ H _ _ v u Q I rx ry ⟨a, b, xs, ys, rfl, rfl, ha, hb, hz, q0, fun z => absurd hx z, fun z => absurd hx z⟩
  · cases rx
    cases ry
    obtain ⟨its, r1, p1, _⟩ := I.tuple ha
    obtain ⟨its2, r2, p2, _⟩ := I.tuple hb
    refine HT.cat_tup p1 p2 (fun z => hx (r1.nil_iff.mp z)) (fun z => ⟨.ref a, H, I, rfl, q1 hx (r2.nil_iff.mp z)⟩) (fun z => ?_) (by rw [← r1.length, ← r2.length]; exact hz)
    refine ⟨.ref s.heap.objs.size, _, I.laid (t' := s.toks) (o := .frz { cls := .type "tuple", data := .seq (its ++ its2).toArray } (.tup (xs ++ ys))) (fun b ob q => Heap.get?_push_of_some _ q) (Nat.le_refl _) ?_, rfl, q2 hx (fun w => z (r2.nil_iff.mpr w)) _ _ (I.hok.fresh (Nat.le_refl _)) rfl⟩
    exact ⟨Heap.get?_push_size _ rfl, by rw [List.length_append]; exact hz, _, r1.append r2, IsTup.new _ _⟩
end
section
variable {K : PySem.W.Frag} {a : Addr} {xs : List V} {Qd : Hp → Prop} {B : V → Hp → (Hp → Prop) → Prop} {H0 : Hp}
/-- a clause of a comprehension over a list -/
theorem loopL (Pv : Nat → Hp → Prop) (h0 : Pv 0 H0) (hl : ∀ k H, Pv k H → SqL K H a xs) (hs : ∀ k x H, xs[k]? = some x → Pv k H → B x H (Pv (k + 1))) (hd : ∀ H, Pv xs.length H → Qd H) :
    ∃ W : Nat → Nat → Hp → Prop, (∃ m, W 0 m H0) ∧ ∀ i m H, W i m H → ((Itl K a).stop i H ∧ Qd H) ∨ ((Itl K a).go i H ∧ ∃ Nx : Hp → Prop, (∀ H', Nx H' → ∃ m', m' < m ∧ W (i + 1) m' H') ∧ ∀ x H', (Itl K a).yld i H x H' → B x H' Nx) := by
  refine ⟨fun i m H => m = xs.length - i ∧ i ≤ xs.length ∧ Pv i H, ⟨xs.length, by simp, Nat.zero_le _, h0⟩, ?_⟩
  rintro i m H ⟨rfl, hi, p⟩
  have q := hl i H p
  by_cases hlt : i < xs.length
  · refine .inr ⟨⟨xs, xs[i], q, by simp [hlt]⟩, Pv (i + 1), fun H' p' => ⟨xs.length - (i + 1), by omega, rfl, hlt, p'⟩, fun x H' y => ?_⟩
    obtain ⟨e, y⟩ := y
    subst e
    exact hs i x _ (y xs q) p
  · have e : i = xs.length := by omega
    subst e
    exact .inl ⟨⟨xs, q, Nat.le_refl _⟩, hd H p⟩
/-- a clause of a comprehension over a range -/
theorem loopR {lo : Int} {n : Nat} (Pv : Nat → Hp → Prop) (h0 : Pv 0 H0) (hs : ∀ k H, k < n → Pv k H → B (.int (lo + k)) H (Pv (k + 1))) (hd : ∀ H, Pv n H → Qd H) :
    ∃ W : Nat → Nat → Hp → Prop, (∃ m, W 0 m H0) ∧ ∀ i m H, W i m H → ((Itr lo n).stop i H ∧ Qd H) ∨ ((Itr lo n).go i H ∧ ∃ Nx : Hp → Prop, (∀ H', Nx H' → ∃ m', m' < m ∧ W (i + 1) m' H') ∧ ∀ x H', (Itr lo n).yld i H x H' → B x H' Nx) := by
  refine ⟨fun i m H => m = n - i ∧ i ≤ n ∧ Pv i H, ⟨n, by simp, Nat.zero_le _, h0⟩, ?_⟩
  rintro i m H ⟨rfl, hi, p⟩
  by_cases hlt : i < n
  · refine .inr ⟨hlt, Pv (i + 1), fun H' p' => ⟨n - (i + 1), by omega, rfl, hlt, p'⟩, fun x H' y => ?_⟩
    obtain ⟨e, y⟩ := y
    subst e y
    exact hs i _ hlt p
  · have e : i = n := by omega
    subst e
    exact .inl ⟨Nat.le_refl _, hd H p⟩
/-- row + (item,) -/
theorem cat_one {G H : Hp} {M : List (Addr × HO)} {r : Addr} {n : List Int} {i : Int} {Q : VK} (S : Sep G M H) (hr : TupF G r (n.map V.int)) (hl : n.length ≤ 1000)
    (q : ∀ (p : Addr) (G' H' : Hp), Same G G' → Sep G' M H' → TupF G' p ((n ++ [i]).map V.int) → Q (.ref p) H') :
    [V.int i].length ≤ sizeLine ∧ ∀ p ob, H p = none → ob.dict = none → rCatF K (.ref r) (.ref p) (upd H p (.frz ob (.tup [.int i]))) Q := by
  refine ⟨sz, fun p ob np hob => ?_⟩
  have S1 := S.newG (o := .frz ob (.tup [.int i])) np
  have s1 := S.grow (o := .frz ob (.tup [.int i])) np
  have h1 : TupF (upd G p (.frz ob (.tup [.int i]))) p [.int i] := ⟨ob, hob, upd_same⟩
  refine ⟨r, p, n.map V.int, [.int i], rfl, rfl, ((hr.same s1).same S1.1).tu.sq, (h1.same S1.1).tu.sq, small (by rw [List.length_map]; simp; omega), fun e => ?_, fun _ e => (nomatch e), fun _ _ p2 ob2 np2 hob2 => ?_⟩
  · have e2 : n = [] := List.map_eq_nil_iff.mp e
    subst e2
    exact q p _ _ s1 S1 h1
  · have e3 : n.map V.int ++ [V.int i] = (n ++ [i]).map V.int := by rw [List.map_append]; rfl
    rw [e3]
    exact q p2 _ _ (s1.trans (S1.grow np2)) (S1.newG np2) ⟨ob2, hob2, upd_same⟩
end
end XL
set_option Elab.async false
set_option linter.all false
set_option maxRecDepth 100000
set_option maxHeartbeats 4000000
/-! XExc: an error of the program's own, class E(ScreenError): __init__(self, x): super().__init__(f'..{x!r}'); self.x = x: made, raised, caught. -/
namespace PySem
namespace XExc
open PySem.W PySem.Calls PyProof.Rows PySem.HandSPX
/-! ### the text of __init__ -/
def iA (fld : Str) (p1 p2 : Pos) : Arguments := { posonlyargs := [], args := [{ arg := "self", annotation := none, pos := p1 }, { arg := fld, annotation := none, pos := p2 }], vararg := none, kwonlyargs := [], kw_defaults := [], kwarg := none, defaults := [] }
structure Ps where
  a : Pos
  b : Pos
  c : Pos
  d : Pos
  e : Pos
  f : Pos
  g : Pos
  h : Pos
  i : Pos
  j : Pos
  k : Pos
  l : Pos
  m : Pos
  cv : Int
  cp : cv = 114 ∨ cv = -1
def iSup (q : Ps) : Expr := .Call (.Name "super" q.a) [] [] q.b
def iArg (fld : Str) (msg : Str) (q : Ps) : Expr := .JoinedStr [.Constant (.str msg) 0 q.d, .FormattedValue (.Name fld q.e) q.cv none q.f] q.g
def iCall (fld : Str) (msg : Str) (q : Ps) : Expr := .Call (.Attribute (iSup q) "__init__" q.c) [iArg fld msg q] [] q.h
def iB (fld : Str) (msg : Str) (q : Ps) : List Stmt := [.Expr (iCall fld msg q) q.i, .Assign [.Attribute (.Name "self" q.j) fld q.k] (.Name fld q.l) q.m]
/-- how the call is evaluated (the positions decide nothing here) -/
def Evals (fld msg : Str) (q : Ps) : Prop := ∃ pl : Env → Sem Bool, ∀ env : Env, eval (iCall fld msg q) env = (do
  let ov ← attributeBase (iSup q) "__init__" env (eval (iSup q) env)
  standAt q.c.atName
  let (f, first) ← holding [ov] (getMethod ov "__init__" (pl env))
  callWith q.h f first (backTo q.h (starEach [iArg fld msg q] env)) [])
def iN (fld : Str) : List (Str × NameKind) := [(PySem.Str.ofString "self", .local), (fld, .local), (PySem.Str.ofString "__class__", .free), (PySem.Str.ofString "super", .globalImplicit)]
def iS (fld : Str) : Scope := { kind := .function, names := iN fld, isGenerator := false, isCoroutine := false, more := [] }
/-- what the written part says of the class at C and of its __init__ at fI -/
structure ExTxt (P : Program) (K : Frag) (mg : Str → Option Value) (nm fld msg : Str) (C fI : Addr) : Prop where
  gC : mg nm = some (.ref C)
  cls : ∃ nm q N bs bm sn sub ab col dd k0 k1 k2 k3 k5, K.lookup C = some (excClassObj nm q C N bs bm true sn sub ab col dd k0 k1 k2 k3 k5 "ValueError.__new__") ∧ refsVE bm = true
  sa : findIn K (.ref C) "__setattr__" = some (some (.builtin "object.__setattr__"))
  ga : findIn K (.ref C) "__getattribute__" = some (some (.builtin "BaseException.__getattribute__"))
  gg : findIn K (.ref C) "__getattr__" = some none
  noN : findIn K (.ref C) fld = some none
  iC : findIn K (.ref C) "__init__" = some (some (.ref fI))
  tC : typeIn K (.ref fI) = some (.type "function")
  kC : keepIn K (.ref C) = true
  exC : subIn K (.ref C) (.type "BaseException") = some true
  tyC : typeIn K (.ref C) = some (.type "type")
  hdC : hasDictIn K C = true
  fn : ∃ (oc kV doc pm ct : Value) (od an : Option Addr) (osl : Array (Option Value)) (qual : Str) (cda cc : Addr) (p1 p2 : Pos) (q : Ps) (vs : Array Value) (file : Str) (tf : Tok) (ccl cl : Value) (cdd cld : Option Addr) (ccs csl : Array (Option Value)),
    K.lookup fI = some ⟨oc, od, .func (ksFn "__init__" qual (iA fld p1 p2) (iB fld msg q) (iS fld) .none kV doc pm an (.ref cda) ct cc), osl⟩ ∧ codeIn K (.ref cda) qual = true ∧ K.lookup cda = some ⟨ccl, cdd, .fields vs, ccs⟩ ∧ vs[2]? = some (.str file tf) ∧
    ((P.main.file : Str) == file) = true ∧ K.lookup cc = some ⟨cl, cld, .cell (some (.ref C)), csl⟩ ∧ Evals fld msg q ∧
    ∀ x v : Value, bindArgs (ksFn "__init__" qual (iA fld p1 p2) (iB fld msg q) (iS fld) .none kV doc pm an (.ref cda) ct cc) ⟨[x, v], []⟩ = pure [(("self" : Str), x), (fld, v)]
  sup : ks_superIn K C C "__init__" = some (some (.builtin "ValueError.__init__"))
  subV : subIn K (.ref C) (.type "ValueError") = some true
  mroS : mroIn K C (.ref C) = some true
  opq : nsIn K cStatics "thirdparty.any" = some none
  htop : (P.main.scope.names.lookup ("super" : Str)).isSome = false
  hsup : mg "super" = none
  f1 : fld ≠ "self"
  f2 : fld ≠ "__class__"
  f3 : fld ≠ "super"
  f4 : (fld == ("__debug__" : Str)) = false
  ml : msg.length ≤ 1000
/-- where the program stands -/
def PF (P : Program) (fl : Str) : Prop := ((P.main.file : Str) == fl) = true ∧ (P.main.scope.names.lookup ("super" : Str)).isSome = false
/-- what can be told in the message -/
def Rp (v : Value) : Prop := (∃ (y : Str) (t : Tok), v = .str y t ∧ (reprText y).length ≤ 100000) ∨ ∃ (i : Int) (t : Tok), v = .int i t ∧ i.natAbs.log2 < 1920
structure InitEnd (h h' : Heap) (x C dx : Addr) (fld : Str) (v : Value) : Prop where
  keep : ∀ b o, b ≠ x → h.get? b = some o → h'.get? b = some o
  obj : ∃ t1 : Addr, h'.get? x = some { cls := .ref C, dict := some dx, data := .fields #[.ref t1, .none, .none, .none, .bool false, .none] }
  dbig : h.objs.size ≤ dx
  dne : dx ≠ x
  ns : h'.Ns1 dx (fun y => if y = fld then some v else none)
structure OwnMade (h h' : Heap) (e C d : Addr) (fld : Str) (v : Value) : Prop where
  keep : ∀ b o, h.get? b = some o → h'.get? b = some o
  new : h.objs.size ≤ e
  obj : ∃ oe vs, h'.get? e = some oe ∧ oe.cls = .ref C ∧ oe.dict = some d ∧ oe.data = .fields vs ∧ vs[1]? = some .none
  dbig : h.objs.size ≤ d
  dne : d ≠ e
  ns : h'.Ns1 d (fun y => if y = fld then some v else none)
section
variable {prog : Program} {w : World} {A : Around} {E : Value → Shared → Prop} {h : Heap} {g : Array GenState} {d : Drawn} {t : Nat} {os : OsState}
variable {nm q : Str} {C N : Addr} {bs bm : List Value} {hdct : Bool} {sn : List Str} {sub : List Value} {ab : Bool} {col : Option Bool} {dd : Option Addr} {k0 k1 k2 k3 k5 : Option Value}
theorem call_mw {u e t0 : Addr} {rest : List Value} {Q : Value → Shared → Prop}
    (hC : h.get? C = some (excClassObj nm q C N bs bm hdct sn sub ab col dd k0 k1 k2 k3 k5 "ValueError.__new__")) (he : h.get? e = some (excO C t0)) (hu : h.get? u = some (kxs_mw "ValueError.__init__" e)) (hrest : rest.length ≤ sizeLine)
    (hq : ∀ h' t1, (∀ b o, b ≠ e → h.get? b = some o → h'.get? b = some o) → h.objs.size ≤ h'.objs.size → h'.get? e = some (excO C t1) → Q .none ⟨h', g, d, t, os⟩) :
    wpAny (model prog w) A (call (.ref u) rest) Q E ⟨h, g, d, t, os⟩ := by
  refine wpAny_call (codeAny_of_tree ?_)
  show wpAny _ A.in1 (callAny (.ref u) ⟨rest, []⟩) _ _ _
  simp only [callAny]
  refine wpAny_bind (wpAny_load hu ?_)
  simp only [kxs_mw, show (Value.type "method-wrapper" == Value.type "method" || Value.type "method-wrapper" == Value.type "builtin_function_or_method" || Value.type "method-wrapper" == Value.type "method-wrapper") = true by decide, if_true]
  refine W.KFB.if_so (by decide) ?_
  refine wpAny_bind (check_bound_init F.excBase_ValueError.toExcCallFacts hC he rfl ?_)
  refine wpAny_bind (wpAny_pure (wpAny_pure ?_))
  refine ⟨plainId_quiet F.excBase_ValueError.init.plain _, codeAny_builtin F.excBase_ValueError.initEntry ?_⟩
  rw [Around.under_plainId F.excBase_ValueError.init.plain _]
  wp_walk
  refine hq _ h.objs.size (fun b o hb ho => ?_) ?_ ?_
  · rw [Heap.get?_update_other _ _ (Ne.symm hb)]
    exact Heap.get?_push_of_some _ ho
  · simp [Heap.size_push]
  · rw [Heap.get?_update_self _ (Heap.get?_push_of_some _ he) rfl]
    rfl
end
section
variable {prog : Program} {w : World} {A : Around} {E : Value → Shared → Prop} {R : Result → Shared → Prop} {s : Shared} {K : Frag} {mg mb : Str → Option Value} {nm fld msg : Str} {C fI : Addr}
theorem one_size (v : Value) : [v].length ≤ sizeLine := by
  rw [sizeLine_eq]
  exact (by decide : 1 ≤ 16777216)
theorem reprChar_ge (q c : Nat) : 1 ≤ (Builtin.Str.reprChar q c).length := by
  unfold Builtin.Str.reprChar
  dsimp only
  repeat' split
  all_goals simp only [List.length_append, List.length_cons, List.length_nil]
  all_goals omega
theorem foldl_repr_ge1 (q : Nat) : ∀ (l : List Nat) (acc : Array Nat), acc.size + l.length ≤ (l.foldl (fun out c => out ++ (Builtin.Str.reprChar q c).toArray) acc).size
  | [], acc => Nat.le_refl _
  | c :: r, acc => by
    have ih := foldl_repr_ge1 q r (acc ++ (Builtin.Str.reprChar q c).toArray)
    have hc := reprChar_ge q c
    simp only [List.foldl_cons, List.length_cons]
    simp only [Array.size_append, List.size_toArray] at ih
    omega
theorem reprText_ge (x : Str) : x.length ≤ (reprText x).length := by
  unfold reprText
  show x.length ≤ ((x.cps.foldl (fun out c => out ++ (Builtin.Str.reprChar (reprQuote x) c).toArray) #[reprQuote x]).push (reprQuote x)).size
  rw [Array.size_push, ← Array.foldl_toList]
  have := foldl_repr_ge1 (reprQuote x) x.cps.toList #[reprQuote x]
  have e : x.cps.toList.length = x.length := by simp [Str.length]
  rw [e] at this
  omega
/-- f'..{v!r}' -/
theorem told_ok {env : Env} {q : Ps} {m : Str → Option Value} {v : Value} {Q : Value → Shared → Prop} (hn : s.heap.Ns env.locals m) (hv : m fld = some v) (hr : Rp v) (hml : msg.length ≤ 1000) (hk : env.scope.kind = .function) (hl : env.kindOf fld = some .local) (hd : (fld == ("__debug__" : Str)) = false)
    (h : ∀ u tk, Q u { s with toks := tk }) : wpAny (model prog w) A (eval (iArg fld msg q) env) Q E s := by
  unfold iArg
  have sm : ∀ n : Nat, n ≤ 200000 → n ≤ sizeLine := fun n hn => Nat.le_trans hn (by decide)
  rcases q.cp with ecv | ecv
  · rw [ecv]
    refine wpAny_JoinedStr ?_
    have e0 : evalEach [Expr.Constant (.str msg) 0 q.d, .FormattedValue (.Name fld q.e) 114 none q.f] env = [eval (.Constant (.str msg) 0 q.d) env, eval (.FormattedValue (.Name fld q.e) 114 none q.f) env] := by first | rfl | simp [evalEach]
    rw [e0]
    refine Calls.Constant_str ⟨msg, _, rfl, ?_, ?_⟩
    · rw [Str.length_append]
      exact sm _ (by show 0 + msg.length ≤ _; omega)
    refine wpAny_FormattedValue_repr (ESX.ldL hn hv ?_ hk hl hd)
    rcases hr with ⟨y, t, rfl, hz⟩ | ⟨i, t, rfl, hz⟩
    · have hz' : (reprText y).length ≤ sizeLine := sm _ (by omega)
      have out : ∀ (tk : Tok) (tt : Nat), ∃ (y' : Str) (t' : Tok), Value.str (reprText y) tk = .str y' t' ∧ (Str.empty ++ msg ++ y').length ≤ sizeLine ∧ Joins (model prog w) A E [] (Str.empty ++ msg ++ y') (fun out s₁ => out.length ≤ sizeLine ∧ Q (.str out s₁.toks) { s₁ with toks := s₁.toks + 1 }) { s with toks := tt } := fun tk tt => by
        have hl : (Str.empty ++ msg ++ reprText y).length ≤ sizeLine := by
          rw [Str.length_append, Str.length_append]
          exact sm _ (by show 0 + msg.length + _ ≤ _; omega)
        exact ⟨_, _, rfl, hl, hl, h _ _⟩
      exact pyReprObj_str (wpAny_formatField_str (out _ _) (out _ _) hz') hz'
    · have hz' := int_text_fits hz
      have ln : (toString i : Str).length ≤ 100000 := by
        have e := int_text_length_le (k := 1920) (by decide) hz
        show (Str.ofString (toString i)).length ≤ 100000
        rw [ofString_length]
        omega
      have out : ∀ (tk : Tok) (tt : Nat), ∃ (y' : Str) (t' : Tok), Value.str (toString i) tk = .str y' t' ∧ (Str.empty ++ msg ++ y').length ≤ sizeLine ∧ Joins (model prog w) A E [] (Str.empty ++ msg ++ y') (fun out s₁ => out.length ≤ sizeLine ∧ Q (.str out s₁.toks) { s₁ with toks := s₁.toks + 1 }) { s with toks := tt } := fun tk tt => by
        have hl : (Str.empty ++ msg ++ (toString i : Str)).length ≤ sizeLine := by
          rw [Str.length_append, Str.length_append]
          exact sm _ (by show 0 + msg.length + _ ≤ _; omega)
        exact ⟨_, _, rfl, hl, hl, h _ _⟩
      exact pyReprObj_int hz (wpAny_formatField_str (out _ _) (out _ _) hz')
  · rw [ecv]
    refine wpAny_JoinedStr ?_
    have e0 : evalEach [Expr.Constant (.str msg) 0 q.d, .FormattedValue (.Name fld q.e) (-1) none q.f] env = [eval (.Constant (.str msg) 0 q.d) env, eval (.FormattedValue (.Name fld q.e) (-1) none q.f) env] := by first | rfl | simp [evalEach]
    rw [e0]
    refine Calls.Constant_str ⟨msg, _, rfl, ?_, ?_⟩
    · rw [Str.length_append]
      exact sm _ (by show 0 + msg.length ≤ _; omega)
    refine wpAny_FormattedValue_plain (ESX.ldL hn hv ?_ hk hl hd)
    rcases hr with ⟨y, t, rfl, hz⟩ | ⟨i, t, rfl, hz⟩
    · have hy := reprText_ge y
      have hl : (Str.empty ++ msg ++ y).length ≤ sizeLine := by
        rw [Str.length_append, Str.length_append]
        exact sm _ (by show 0 + msg.length + _ ≤ _; omega)
      have out : ∀ (tk : Tok) (tt : Nat), ∃ (y' : Str) (t' : Tok), Value.str y tk = .str y' t' ∧ (Str.empty ++ msg ++ y').length ≤ sizeLine ∧ Joins (model prog w) A E [] (Str.empty ++ msg ++ y') (fun out s₁ => out.length ≤ sizeLine ∧ Q (.str out s₁.toks) { s₁ with toks := s₁.toks + 1 }) { s with toks := tt } := fun tk tt => ⟨_, _, rfl, hl, hl, h _ _⟩
      exact wpAny_formatField_str (out _ _) (out _ _) (sm _ (by omega))
    · have hz' := int_text_fits hz
      have ln : (toString i : Str).length ≤ 100000 := by
        have e := int_text_length_le (k := 1920) (by decide) hz
        show (Str.ofString (toString i)).length ≤ 100000
        rw [ofString_length]
        omega
      have hl : (Str.empty ++ msg ++ (toString i : Str)).length ≤ sizeLine := by
        rw [Str.length_append, Str.length_append]
        exact sm _ (by show 0 + msg.length + _ ≤ _; omega)
      exact wpAny_formatField_int hz ⟨_, _, rfl, hl, hl, h _ _⟩
end
section
variable {prog : Program} {w : World} {A : Around} {E : Value → Shared → Prop} {R : Result → Shared → Prop} {K : Frag} {mg mb : Str → Option Value} {nm fld msg : Str} {C fI : Addr}
theorem kept_but {K : Frag} {h h' : Heap} {x : Addr} (X : K.In h) (hx : K.lookup x = none) (k : ∀ b o, b ≠ x → h.get? b = some o → h'.get? b = some o) : K.In h' := fun a o e =>
  k a o (fun z => by rw [z, hx] at e; cases e) (X a o e)
theorem exc_init (T : ExTxt prog K mg nm fld msg C fI) {x t0 : Addr} {v : Value} {hp : Heap} {g : Array GenState} {dr : Drawn} {tk : Nat} {os : OsState} (X : K.In hp) (hlim : hp.NoLimit) (hG : hp.Ns mainGlobals mg) (hB : hp.Ns builtinsNs mb) (hbb : ∀ x : Str, x ≠ "__name__" → mb x = bootBuiltins x)
    (hx : hp.get? x = some (excO C t0)) (hnx : K.lookup x = none) (hroom : A.depth < recursionLimit) (hr : Rp v)
    (hq : ∀ h' tk' dx, InitEnd hp h' x C dx fld v → R (.ok (.ret .none)) ⟨h', g, dr, tk', os⟩) :
    codeAny (model prog w) A (.call (.ref fI) ⟨[.ref x, v], []⟩) R ⟨hp, g, dr, tk, os⟩ := by
  obtain ⟨oc, kV, doc, pm, ct, od, an, osl, qual, cda, cc, p1, p2, q, vs, file, tf, ccl, cl, cdd, cld, ccs, csl, ho, hcd, hcda, hvs, hfile, hcc, ⟨pl, hev⟩, hbind⟩ := T.fn
  obtain ⟨nm', q', N, bs, bm, sn, sub, ab, col, dd, k0, k1, k2, k3, k5, hC, hbm⟩ := T.cls
  have hcl : clsIn K C = some { name := nm', bases := bs, mro := .ref C :: bm, ns := N, qualname := q', hasDict := true, slotNames := sn, subclasses := sub, abstract := ab, collection := col, hasDel := false } := by unfold clsIn; rw [hC] <;> rfl
  have e1 : (iS fld).names.lookup fld = some .local := by
    show (iN fld).lookup fld = _
    unfold iN
    have z : (fld == PySem.Str.ofString "self") = false := by simpa using T.f1
    simp [List.lookup, z]
  have e2 : (iS fld).names.lookup ("self" : Str) = some .local := rfl
  have e3 : (iS fld).names.lookup ("__class__" : Str) = some .free := by
    show (iN fld).lookup ("__class__" : Str) = _
    unfold iN
    have z : (("__class__" : Str) == fld) = false := by simpa using Ne.symm T.f2
    have z2 : (("__class__" : Str) == PySem.Str.ofString "self") = false := by decide
    simp [List.lookup, z, z2]
  have e4 : (iS fld).names.lookup ("super" : Str) = some .globalImplicit := by
    show (iN fld).lookup ("super" : Str) = _
    unfold iN
    have z : (("super" : Str) == fld) = false := by simpa using Ne.symm T.f3
    have z2 : (("super" : Str) == PySem.Str.ofString "self") = false := by decide
    have z3 : (("super" : Str) == PySem.Str.ofString "__class__") = false := by decide
    simp [List.lookup, z, z2, z3]
  refine ks_codeAny_call_defAt (fd := ksFn "__init__" qual (iA fld p1 p2) (iB fld msg q) (iS fld) .none kV doc pm an (.ref cda) ct cc) (body := iB fld msg q) (binds := [("self", .ref x), (fld, v)]) hroom (X _ _ ho) rfl hlim (codeRec_of X hcd) rfl (BindsTo.of_eq (hbind _ _)) ?_ ?_ (fun h₁ hn k => ?_) rfl rfl rfl
  · intro y hy
    have hy : y ∈ iN fld := hy
    unfold iN at hy
    simp only [List.mem_cons, List.not_mem_nil, or_false] at hy
    rcases hy with rfl | rfl | rfl | rfl <;> exact fun z => nomatch z
  · intro y hy
    simp only [List.mem_cons, List.not_mem_nil, or_false] at hy
    rcases hy with rfl | rfl
    · exact e2
    · exact e1
  have X₁ : K.In h₁ := X.keeps k
  have hxL : hp.objs.size ≠ x := Nat.ne_of_gt (Heap.lt_size hx)
  have hx₁ := k _ _ hx
  have mS : List.lookup ("self" : Str) (List.reverse [(("self" : Str), Value.ref x), (fld, v)]) = some (.ref x) := by
    show List.lookup ("self" : Str) [(fld, v), (("self" : Str), Value.ref x)] = _
    have z : (("self" : Str) == fld) = false := by simpa using Ne.symm T.f1
    simp [List.lookup, z]
  have mF : List.lookup fld (List.reverse [(("self" : Str), Value.ref x), (fld, v)]) = some v := by
    show List.lookup fld [(fld, v), (("self" : Str), Value.ref x)] = _
    simp [List.lookup]
  refine ks_wpAt_execs_cons (ks_wpAt_Expr_any (ks_wpAt_MethodCall (o := iSup q) (name := "__init__") (he := hev _) ?_))
  have oC := X₁ _ _ hC
  refine ks_wpAt_super_base (env := callEnv (ksFn "__init__" qual (iA fld p1 p2) (iB fld msg q) (iS fld) .none kV doc pm an (.ref cda) ct cc) hp.objs.size fI) e4 e3 (by decide) rfl (X₁ _ _ ho) rfl rfl rfl (X₁ _ _ hcda) rfl hvs hfile T.htop ?_
  refine ks_loadName_global rfl e4 (loadGlobal_builtin (hG.keeps k) T.hsup (hB.keeps k) ((hbb _ (by decide +kernel)).trans (by first | boot_by_name | rfl | kernel_rfl)) ⟨rfl, ?_⟩)
  refine wpAny_loadName_free rfl e3 rfl ⟨_, X₁ _ _ hcc, rfl⟩ ?_
  refine wpAny_loadName_local rfl e2 hn mS ?_
  refine ks_wpAny_isType_cls oC rfl ⟨rfl, ?_⟩
  refine ks_wpAny_call_super oC rfl hx₁ rfl (fun c e => (nomatch e)) (looks_mroIn X₁ T.mroS) (fun h₂ hso k₂ => ?_)
  have X₂ : K.In h₂ := X₁.keeps k₂
  have hx₂ := k₂ _ _ hx₁
  have hsup : alongIn K "__init__" (((Value.ref C :: bm).dropWhile (· != .ref C)).drop 1) = some (some (.builtin "ValueError.__init__")) := by
    have z := T.sup
    unfold ks_superIn at z
    rw [hcl] at z
    exact z
  have I₂ : InstAt h₂ x (excO C t0) C none := ⟨hx₂, rfl, rfl, trivial⟩
  refine kxs_getMethod kxs_ValueError hso (looks_opaque X₂ T.opq) (l₀ := .ref C :: bm) ?_ rfl X₂ hsup (I₂.type.andThen (looks_subIn X₂ T.subV)) (ks_ne X₂ I₂ hcl) (by decide) ?_
  · exact fun A Q E s k q => wpAny_bind ((looks_clsIn X₂ hcl) A _ E s k (wpAny_pure q))
  have hu : (h₂.push (kxs_mw "ValueError.__init__" x)).get? h₂.objs.size = some (kxs_mw "ValueError.__init__" x) := Heap.get?_push_at rfl rfl
  have k₃ : ∀ b o, h₂.get? b = some o → (h₂.push (kxs_mw "ValueError.__init__" x)).get? b = some o := fun b o e => Heap.get?_push_of_some _ e
  have X₃ := X₂.keeps k₃
  have hn₃ : (h₂.push (kxs_mw "ValueError.__init__" x)).Ns hp.objs.size _ := (hn.keeps k₂).keeps k₃
  refine kxs_callWith (i := "ValueError.__init__") (x := x) rfl (evalArgs_plain ?_)
  show wpAny _ _ (spliced ((false, eval (iArg fld msg q) _) :: backTo q.h (starEach [] _))) _ _ _
  refine Calls.spliced_cons (told_ok hn₃ mF hr T.ml rfl e1 T.f4 fun u tk' => Calls.spliced_nil ⟨hu, ?_⟩)
  show wpAny _ _ (call (.ref h₂.objs.size) [u]) _ _ _
  refine call_mw (X₃ _ _ hC) (k₃ _ _ hx₂) hu (one_size _) fun h₄ t1 k₄ sz₄ hx₄ => ?_
  show wpAt _ _ _ (execs _ _) _ _ _
  refine wpAt_of_wpAny ?_
  have X₄ : K.In h₄ := kept_but X₃ hnx k₄
  have hn₄ : h₄.Ns hp.objs.size (fun x_1 => List.lookup x_1 (List.reverse [(("self" : Str), Value.ref x), (fld, v)])) := by
    obtain ⟨oL, es, ep, hL, r⟩ := hn₃
    exact ⟨oL, es, ep, k₄ _ _ hxL hL, r⟩
  refine wpAny_execs_cons (plainObj_wpAny_Assign_Attribute ?_)
  refine ESX.ldL hn₄ mF (ESX.ldL hn₄ mS ?_ rfl e2) rfl e1 T.f4
  refine set_plain X₄ (ox := excO C t1) (od := none) ⟨hx₄, rfl, rfl, trivial⟩ T.sa ?_
  refine exc_osa X₄ hx₄ hcl (show refsVE (.ref C :: bm) = true from hbm) rfl T.noN (fun h₅ tk₅ dx k₅ dn dne hx₅ hn₅ => ?_)
  show wpAny _ _ (execs _ _) _ _ _
  have z : hp.objs.size < h₄.objs.size := hn₄.lt
  exact wpAny_execs_nil (hq h₅ tk₅ dx ⟨fun b o hb e => k₅ b o hb (k₄ b o hb (k₃ b o (k₂ b o (k b o e)))), ⟨t1, hx₅⟩, Nat.le_of_lt (Nat.lt_of_lt_of_le z dn), dne, hn₅⟩)
end
section
variable {prog : Program} {w : World} {A : Around} {R : Result → Shared → Prop} {K : Frag} {mg mb : Str → Option Value} {nm fld msg : Str} {C fI : Addr}
theorem exc_made (T : ExTxt prog K mg nm fld msg C fI) {v : Value} {hp : Heap} {g : Array GenState} {dr : Drawn} {tk : Nat} {os : OsState} (X : K.In hp) (hlim : hp.NoLimit) (hG : hp.Ns mainGlobals mg) (hB : hp.Ns builtinsNs mb) (hbb : ∀ x : Str, x ≠ "__name__" → mb x = bootBuiltins x) (hroom : A.depth + 1 < recursionLimit) (hr : Rp v)
    (hq : ∀ h' tk' e d, OwnMade hp h' e C d fld v → R (.ok (.ret (.ref e))) ⟨h', g, dr, tk', os⟩) :
    codeAny (model prog w) A (.call (.ref C) ⟨[v], []⟩) R ⟨hp, g, dr, tk, os⟩ := by
  obtain ⟨nm', q', N, bs, bm, sn, sub, ab, col, dd, k0, k1, k2, k3, k5, hC, hbm⟩ := T.cls
  have k : ∀ b o, hp.get? b = some o → ((hp.push (kdv_tup [v])).push (excO C hp.objs.size)).get? b = some o := fun b o e => Heap.get?_push_of_some _ (Heap.get?_push_of_some _ e)
  have hget : ((hp.push (kdv_tup [v])).push (excO C hp.objs.size)).get? (hp.objs.size + 1) = some (excO C hp.objs.size) := by heap_get
  have hnx : K.lookup (hp.objs.size + 1) = none := by
    cases e : K.lookup (hp.objs.size + 1) with
    | none => rfl
    | some o =>
      have z : hp.get? (hp.objs.size + 1) = some o := X _ _ e
      exact absurd (Nat.lt_of_succ_lt (Heap.lt_size z)) (Nat.lt_irrefl _)
  refine call_own F.excBase_ValueError (fun X => refsVE_contains X bm hbm) (X _ _ hC) (looks_findIn X T.iC) (fun self => bind_fn X self T.tC) (one_size v) ?_
  refine exc_init (tk := tk) T (X.keeps k) (hlim.keeps k) (hG.keeps k) (hB.keeps k) hbb hget hnx ?_ hr fun h' tk' dx ⟨k', ⟨t1, hx⟩, dn, dne, hns⟩ => ?_
  · show A.depth + 1 < recursionLimit
    exact hroom
  · have old : ∀ b o, hp.get? b = some o → h'.get? b = some o := fun b o e => k' b o (Nat.ne_of_lt (Nat.lt_succ_of_lt (Heap.lt_size e))) (k b o e)
    have z : hp.objs.size + 1 + 1 ≤ dx := by
      first
        | (simpa only [Heap.size_push] using dn)
        | exact dn
        | (have q := dn; rw [Heap.size_push, Heap.size_push] at q; exact q)
    exact ⟨rfl, hq h' tk' (hp.objs.size + 1) dx ⟨old, Nat.le_succ _, ⟨_, _, hx, rfl, rfl, rfl, rfl⟩, Nat.le_trans (Nat.le_trans (Nat.le_succ _) (Nat.le_succ _)) z, dne, hns⟩⟩
end
end XExc
end PySem
namespace XL
open PySem PySem.Spec PyProof.Rows L2
/-! ### the error, over the abstract heap -/
def RpV (v : V) : Prop := (∃ y : Str, v = .str y ∧ (reprText y).length ≤ 100000) ∨ ∃ i : Int, v = .int i ∧ i.natAbs.log2 < 1920
theorem RpV.rp {v : V} {u : Value} (h : RpV v) (r : RelV v u) : PySem.XExc.Rp u := by
  rcases h with ⟨y, rfl, hz⟩ | ⟨i, rfl, hz⟩
  · obtain ⟨t, rfl⟩ := r
    exact .inl ⟨y, t, rfl, hz⟩
  · obtain ⟨t, rfl⟩ := r
    exact .inr ⟨i, t, rfl, hz⟩
theorem relO_one {fld : Str} {v : V} {v' : Value} (r : RelV v v') (f : Str) : RelO (List.lookup f [(fld, v)]) (if f = fld then some v' else none) := by
  by_cases hw : f = fld
  · subst hw
    rw [if_pos rfl]
    have q : List.lookup f [(f, v)] = some v := by simp [List.lookup]
    rw [q]
    exact r
  · rw [if_neg hw]
    have qw : (f == fld) = false := by simpa using hw
    have q2 : List.lookup f [(fld, v)] = none := by simp [List.lookup, qw]
    rw [q2]
    trivial
section
variable {X : Cx} {C fI : Addr} {nm fld msg : Str}
def tMkX (C : Addr) (fld : Str) (ta : TA) : L2.St → Hp → XK → Prop := fun σ H Q => ta σ H fun vs H1 => ∃ v, vs = [v] ∧ RpV v ∧ ∀ d, H1 d = none → Q (.ref C) (some d) (upd H1 d (.xd [(fld, v)]))
theorem pmk_x {a : Expr} {ta : TA} {p pos : Pos} {k : Nat} (T : PySem.XExc.ExTxt X.prog X.K X.mg nm fld msg C fI) (hr : Room (k + 1) X.A) (ha : PA X [a] ta) (hg : Gl X nm := by rfl) (hd : (nm == ("__debug__" : Str)) = false := by decide)
    (he : starEach (a :: []) X.env = (false, eval a X.env) :: starEach [] X.env := by rfl) (hpl : (backTo pos (starEach [] X.env)).any (·.1) = false := by rfl) :
    PMk X (.Call (.Name nm p) [a] [] pos) (tMkX C fld ta) := by
  intro pins s σ H Q I h
  refine wpAny_Call_Name_kw (ld_glob I hg T.gC ?_ hd)
  refine PySem.W.callWith_K (h₀ := X.base) I.ok.mod.kin T.kC (thn (ha.run pos pins s σ H _ I h) fun us s1 hh => ?_) he hpl
  obtain ⟨vs, H1, I1, r1, v, ev, rp, q1⟩ := hh
  subst ev
  refine ⟨I1.kIn, ?_⟩
  cases r1 with
  | cons rv rn =>
    rename_i v' us'
    cases rn
    show wpAny _ _ (call (.ref C) [v']) _ _ _
    have hlim := I1.nolimit
    have hG := I1.mod.glob.keeps I1.bk
    obtain ⟨mb, hB, hbb⟩ := I1.mod.blt
    have hB := hB.keeps I1.bk
    obtain ⟨hp, g, dr, tk, os⟩ := s1
    refine wpAny_call (PySem.XExc.exc_made T I1.kIn hlim hG hB hbb (by have := hr.dp; omega) (rp.rp rv) fun h' tk' e d M => ?_)
    show MkP X pins σ Q (.ref e) ⟨h', g, dr, tk', os⟩
    obtain ⟨oe, fv, hoe, hc, hd, hdat, h1⟩ := M.obj
    have hns := M.ns
    obtain ⟨G', g1, g2⟩ := restrict h' fun b => decide (b ≠ e)
    have gk : ∀ b, b ≠ e → G'.get? b = h'.get? b := fun b hb => g1 b (decide_eq_true hb)
    have ge : G'.get? e = none := g2 e (by simp)
    have old : ∀ b o, hp.get? b = some o → G'.get? b = some o := fun b o q => (gk b (Nat.ne_of_lt (Nat.lt_of_lt_of_le (Heap.lt_size q) M.new))).trans (M.keep b o q)
    have ob : ObjOk X.prog X.w (upd H1 d (.xd [(fld, v)])) G' d (.xd [(fld, v)]) :=
      ⟨_, hns.at (fun o q => (gk d M.dne).trans q), fun f => relO_one rv f⟩
    have J : Inv X pins σ (upd H1 d (.xd [(fld, v)])) ⟨G', g, dr, tk', os⟩ := I1.laid (t' := tk') old M.dbig ob
    refine ⟨e, oe, fv, ⟨G', g, dr, tk', os⟩, _, .ref C, some d, rfl, J, fun b o q => ?_, ge, hoe, ⟨hc, hd⟩, hdat, h1, ?_, rfl, I1.bare, raises_own T.exC T.tyC, q1 d (I1.hok.fresh M.dbig)⟩
    · by_cases hb : b = e
      · have q' : G'.get? b = some o := q
        rw [hb, ge] at q'; cases q'
      · exact (gk b hb).symm.trans q
    · rw [upd_ne (Ne.symm M.dne)]
      exact I1.hok.fresh M.new
def tRaiseX (C : Addr) (fld : Str) (W : WX) (ta : TA) : TS := fun _ σ H => tMkX C fld ta σ H fun cls d H' => W cls d σ H'
theorem ps_raiseX {a : Expr} {ta : TA} {W : WX} {p pos pos2 : Pos} {k : Nat} (hc : X.calm = true) (T : PySem.XExc.ExTxt X.prog X.K X.mg nm fld msg C fI) (hr : Room (k + 1) X.A) (tk : Takes X W) (ha : PA X [a] ta) (hg : Gl X nm := by rfl) (hd : (nm == ("__debug__" : Str)) = false := by decide)
    (he : starEach (a :: []) X.env = (false, eval a X.env) :: starEach [] X.env := by rfl) (hpl : (backTo pos (starEach [] X.env)).any (·.1) = false := by rfl) :
    PS X (.Raise (some (.Call (.Name nm p) [a] [] pos)) none pos2) (tRaiseX C fld W ta) := ps_raise hc tk (pmk_x T hr ha hg hd he hpl)
end
/-! ### isinstance(e, c), isinstance(e, (c, ..)) of a caught error -/
section
variable {X : Cx} {a : Addr} {oe : Obj} {cls : Value} {d : Option Addr} {pn : List (Addr × Obj)}
inductive ClsRs : List V → List Value → Prop where
  | nil : ClsRs [] []
  | cons {c : Addr} {cs : List V} {us : List Value} (h : ClsRs cs us) : ClsRs (.ref c :: cs) (.ref c :: us)
theorem ClsRs.eq : ∀ {cs : List V} {us : List Value}, ClsRs cs us → ∀ {ws : List Value}, Vals cs ws → ws = us
  | _, _, .nil, _, .nil => rfl
  | _, _, .cons h, _, .cons r rs => by
    cases r
    rw [h.eq rs]
def rIsX (K : PySem.W.Frag) (cls : Value) (d : Option Addr) (a : Addr) : List V → Hp → VK → Prop := fun xs H Q => ∃ (D dd : Addr) (fs : List (Str × V)) (b : Bool), cls = .ref D ∧ d = some dd ∧ H dd = some (.xd fs) ∧ ExcC K D ∧
  ((∃ (c : V) (cv : Value), xs = [.ref a, c] ∧ (∀ u, RelV c u → u = cv) ∧ PySem.W.kitOne K (.ref D) cv = some b) ∨ ∃ (p : Addr) (cs : List V) (us : List Value), xs = [.ref a, .ref p] ∧ H p = some (.tup cs) ∧ ClsRs cs us ∧ PySem.W.kitAny K (.ref D) us = some b) ∧ Q (.bl b) H
theorem call_isX (hz : Zc cls d oe) (hf : ∃ vs, oe.data = .fields vs) : CallR (X.suite a ((a, oe) :: pn)) (.builtin "isinstance") (rIsX X.K cls d a) := by
  intro pins s σ H xs us Q I r h
  obtain ⟨D, dd, fs, b, rfl, rfl, hd, C, hcs, q⟩ := h
  obtain ⟨hget, _⟩ := I.pin (a, oe) (List.mem_append.mpr (.inl List.mem_cons_self))
  obtain ⟨vs, hv⟩ := hf
  have hx : ObjOk X.prog X.w H s.heap dd (.xd fs) := I.hok dd _ hd
  obtain ⟨mA, hns, _⟩ := hx
  obtain ⟨od, ho, _⟩ := lookIn_ns hns
  have J : PySem.W.InstAt s.heap a oe D (some od) := ⟨hget, hz.1, by unfold PySem.W.notCls; rw [hv] <;> rfl, by rw [hz.2]; exact ho⟩
  have cl : (PySem.W.clsIn X.K D).isSome = true := by
    obtain ⟨cd, hc, _⟩ := PySem.W.any_some C.hd
    rw [hc]
    rfl
  have Z := PySem.W.kitx_exc (x := a) (ox := oe) (od := some od) cl C.hg C.hk C.hs C.ha C.hn C.ht C.hm
  rcases hcs with ⟨c, cv, rfl, hcv, e⟩ | ⟨p, cs, us2, rfl, hp, hc, e⟩
  · cases r with
    | cons rx rr =>
      cases rr with
      | cons rt rr =>
        cases rr
        cases rx
        have ec := hcv _ rt
        subst ec
        exact PySem.W.kia_one Z I.kIn J e (fun z => nomatch z) fun tk => ⟨.bl b, H, I.kept (t' := tk) fun _ _ z => z, rfl, q⟩
  · cases r with
    | cons rx rr =>
      cases rr with
      | cons rt rr =>
        cases rr
        cases rx
        cases rt
        obtain ⟨_, its, rv, o, h1, h2, n, h3⟩ := (show ObjOk X.prog X.w H s.heap p (.tup cs) from I.hok p _ hp)
        have ei := hc.eq rv
        subst ei
        obtain ⟨oc, od', oda, osl⟩ := o
        dsimp only at h2 h3
        subst h2 h3
        exact PySem.W.kia_tup Z I.kIn J h1 e (fun z => nomatch z) fun tk => ⟨.bl b, H, I.kept (t' := tk) fun _ _ z => z, rfl, q⟩
end
/-! ### own [ ] and [ ] = within a try -/
section
variable {X : Cx} {CX : CXT} {C f : Addr} {fd : FuncData} {ps : List Str} {sp : Sp} {E : L2.St → XK} {n : Nat} {o i e : Expr} {to ti te : TE} {pos pos' : Pos}
def tIxOS (C : Addr) (sp : Sp) (E : L2.St → XK) (to ti : TE) : TE := fun σ H Q => to σ H fun x H1 => ti σ H1 fun y H2 => ∃ a dx fs, x = .ref a ∧ H2 a = some (.ins C dx fs) ∧ sp [.ref a, y] H2 Q (E σ)
theorem pe_ixOS (ho : PE X o to) (hi : PE X i ti) (F : FnOk X.prog X.w X.K X.mg X.base CX n f fd ps sp) (hs : PySem.W.findIn X.K (.ref C) "__getitem__" = some (some (.ref f))) (hf : PySem.W.fnIn X.K f = true) (hfn : PySem.W.isFn X.K (.ref f) = true)
    (hb : Binds X.K fd ps []) (hx : ∀ σ, PassesAt CX X σ (E σ)) (hr : Room (n + 1) X.A) (hsl : ∀ x v, subscripted i true (.ref x) v = runValue (.builtin "lifetime.subscript" ⟨[.ref x, v], []⟩) := by intro _ _; with_unfolding_all rfl) :
    PE X (.Subscript o i pos) (tIxOS C sp E to ti) := by
  refine ⟨fun pins s σ H Q I h => ?_⟩
  refine Subscript_ (thn (ho.run pins s σ H _ I h) fun v s1 ⟨x, H1, I1, r1, q1⟩ => thn (hi.run pins s1 σ H1 _ I1 q1) fun u s2 ⟨y, H2, I2, r2, q2⟩ => ?_)
  obtain ⟨a, dx, fs, rfl, ha, hsp⟩ := q2
  cases r1
  obtain ⟨mA, J, _⟩ := ins_get I2.hok ha
  obtain ⟨od, J, _⟩ := J.look
  obtain ⟨m, hF⟩ := I2.fr
  refine PySem.W.sub_K hF I2.ok.mod.kin J hs hf hfn ?_ (hsl _ _)
  have hl : ([Value.ref a, u] ++ []).length = ps.length := F.len _ _ _ _ hsp
  refine wpAny_call (codeAny_mono (F.run X.A.in1 X.stack s2 H2 ⟨[.ref a, u], []⟩ [.ref a, u] [.ref a, y] Q (E σ) hr.in1 I2.env0.in1 (hb s2 [.ref a, u] I2.kIn hl) (.cons rfl (.cons r2 .nil)) hsp) fun r s' hq => ?_)
  cases r with
  | error e => exact hx σ pins H2 s2 e s' I2 hq
  | ok fl =>
    cases fl with
    | ret u => exact I2.after hq
    | next => exact False.elim hq
    | brk => exact False.elim hq
    | cont => exact False.elim hq
def gSubS (C : Addr) (sp : Sp) (E : L2.St → XK) (to ti : TE) : TG := fun v σ H Q => to σ H fun x H1 => ti σ H1 fun y H2 => ∃ a dx fs, x = .ref a ∧ H2 a = some (.ins C dx fs) ∧ sp [.ref a, y, v] H2 (fun _ H' => Q σ H') (E σ)
theorem pg_subOS (ho : PE X o to) (hi : PE X i ti) (F : FnOk X.prog X.w X.K X.mg X.base CX n f fd ps sp) (hq : PySem.W.noSeq X.K C = true) (hs : PySem.W.findIn X.K (.ref C) "__setitem__" = some (some (.ref f))) (hfn : PySem.W.isFn X.K (.ref f) = true)
    (hb : Binds X.K fd ps []) (hx : ∀ σ, PassesAt CX X σ (E σ)) (hr : Room n X.A)
    (ha : ∀ v, assign (.Subscript o i pos) X.env v = (do
      let ov ← holding [v] (eval o X.env)
      let iv ← holding [v, ov] (eval i X.env)
      standAt pos
      holding [v, ov, iv] (setItem ov iv v)
      release [v, ov, iv] []) := by intro _; rfl) : PG X (.Subscript o i pos) (gSubS C sp E to ti) := by
  refine ⟨fun pins s σ H v u Q I r h => ?_⟩
  rw [ha]
  refine wpAny_bind (wpAny_holding (thn (ho.run pins s σ H _ I h) fun ov s1 ⟨x, H1, I1, r1, q1⟩ => ?_))
  refine wpAny_bind (wpAny_holding (thn (hi.run pins s1 σ H1 _ I1 q1) fun iv s2 ⟨y, H2, I2, r2, q2⟩ => ?_))
  obtain ⟨a, dx, fs, rfl, ha2, hsp⟩ := q2
  cases r1
  obtain ⟨mA, J, _⟩ := ins_get I2.hok ha2
  obtain ⟨od, J, _⟩ := J.look
  obtain ⟨m, hF⟩ := I2.fr
  refine wpAny_bind (wpAny_standAt (wpAny_bind (wpAny_holding (PySem.W.ksp_setItem hF I2.ok.mod.kin J hq hs hfn ?_))))
  refine wpAny_mono (run_fnS (us := [.ref a, iv, u]) (vs := [.ref a, y, v]) (E := E) F hr hb (hx σ) I2 (.cons rfl (.cons r2 (.cons r .nil))) hsp) (fun r s' q => ?_) fun _ _ e => e
  obtain ⟨z, H', I', rz, q⟩ := q
  exact wpAny_release ⟨σ, H', I', q⟩
end
end XL
set_option Elab.async false
set_option linter.all false
set_option maxRecDepth 100000
set_option maxHeartbeats 4000000
/-! XOwnIt: list(o), o an object whose own __iter__ hands on iter(t), t a tuple. -/
namespace XL
open PySem PySem.Spec PyProof.Rows L2
/-- an iterator over the tuple at t, the next place is i -/
def ItT (t it : Addr) (i : Nat) : HO := .ext fun h => IsTupIter h it t i
/-- .. that has ended -/
def ItTE (it : Addr) : HO := .ext fun h => ∃ o, h.get? it = some o
theorem itT_ok {P : Program} {w : World} {H : Hp} {h : Heap} {t it : Addr} {i : Nat} (e : IsTupIter h it t i) : ObjOk P w H h it (ItT t it i) := by
  obtain ⟨o, h1, h2⟩ := e
  exact ⟨⟨o, h1, h2⟩, ⟨_, h1⟩, fun g1 g2 ⟨o', q1, q2⟩ k => ⟨o', k _ q1, q2⟩⟩
theorem itTE_ok {P : Program} {w : World} {H : Hp} {h : Heap} {it : Addr} {o : Obj} (e : h.get? it = some o) : ObjOk P w H h it (ItTE it) := ⟨⟨o, e⟩, ⟨_, e⟩, fun g1 g2 ⟨o', q1⟩ k => ⟨o', k _ q1⟩⟩
section
variable {X : Cx} {pins : List (Addr × Obj)} {σ : L2.St} {H : Hp} {s : Shared}
theorem itT_get {t it : Addr} {i : Nat} (I : Inv X pins σ H s) (e : H it = some (ItT t it i)) : IsTupIter s.heap it t i := (I.hok it _ e).1
theorem call_iter_tup {M : Program} {w : World} {A : Around} {E : Value → Shared → Prop} {s : Shared} {t : Addr} {items : Array Value} {Q : Value → Shared → Prop} (ht : IsTup s.heap t items)
    (h : Q (.ref s.heap.objs.size) { s with heap := s.heap.push { cls := .type "tuple_iterator", data := .fields #[.ref t, .int 0 0] } }) : wpAny (model M w) A (call (.builtin "iter") [.ref t]) Q E s := by
  refine Calls.call_function_entry (by decide +kernel) (by decide +kernel) PySem.W.kdk_entry_iter (PySem.W.kdk_args_iter _) ?_
  unfold Builtin.«iter»
  refine wpAny_bind (m := someArgs "iter" 1 2 _) (wpAny_of_eq (a := [Value.ref t]) (by first | rfl | kernel_rfl!) ?_)
  show wpAny _ _ (pyIter (.ref t) >>= _) _ _ _
  refine wpAny_bind (iter_tuple ht ?_)
  exact wpAny_pure ⟨_, rfl, h⟩
/-- iter(t) -/
def rIterT (K : PySem.W.Frag) : List V → Hp → VK → Prop := fun xs H Q => ∃ (t : Addr) (zs : List V), xs = [.ref t] ∧ SqT K H t zs ∧ ∀ it, H it = none → Q (.ref it) (upd H it (ItT t it 0))
theorem call_iterT : CallR X (.builtin "iter") (rIterT X.K) := by
  intro pins s σ H xs us Q I r h
  obtain ⟨t, zs, rfl, hq, q⟩ := h
  obtain rfl := Vals.ref1 r
  obtain ⟨its, rv, pl, hz⟩ := I.tuple hq
  refine call_iter_tup pl ?_
  exact ⟨.ref s.heap.objs.size, _, I.laid (t' := s.toks) (fun b u e => Heap.get?_push_of_some _ e) (Nat.le_refl _) (itT_ok ⟨_, Heap.get?_push_size _ rfl, rfl, rfl⟩), rfl, q _ (I.hok.fresh (Nat.le_refl _))⟩
theorem call_iterTK (K : PySem.W.Frag) (h : X.K = K := by rfl) : CallR X (.builtin "iter") (rIterT K) := h ▸ call_iterT
theorem sqT_upd {K : PySem.W.Frag} {H : Hp} {t x : Addr} {zs : List V} {o : HO} (h : SqT K H t zs) (hx : ∀ o' xs, H x ≠ some (.tup xs) ∧ H x ≠ some (.frz o' (.tup xs))) : SqT K (upd H x o) t zs := by
  rcases h with (h | ⟨ob, h⟩) | h
  · have ne : t ≠ x := fun z => (hx default zs).1 (by rw [← z]; exact h)
    exact .inl (.inl (by rw [upd_ne ne]; exact h))
  · have ne : t ≠ x := fun z => (hx ob zs).2 (by rw [← z]; exact h)
    exact .inl (.inr ⟨ob, by rw [upd_ne ne]; exact h⟩)
  · exact .inr h
/-- the end of a tuple: the iterator itself stays there -/
theorem next_tup_end {P : Program} {w : World} {A : Around} {E : Value → Shared → Prop} {s : Shared} {it t : Addr} {i : Nat} {items : Array Value} {Q : Option Value → Shared → Prop} (hh : A.handled = none)
    (hit : IsTupIter s.heap it t i) (ht : IsTup s.heap t items) (hx : items[i]? = none)
    (hQ : ∀ h', Heap.ExtBut it s.heap h' → (∃ o, h'.get? it = some o) → Q none { s with heap := h' }) : wpAny (model P w) A (pyNext (.ref it)) Q E s := by
  obtain ⟨o, ho, hc, hd⟩ := id hit
  obtain ⟨ol, hol, _, nl, hdl⟩ := ht
  unfold pyNext
  refine wpAny_bind (wpAny_attempt (wpAny_callSpecial?_slot (name := Str.ofString "__next__") hit.typeIs slot_tupleiter_next (wpAny_call_entry slot_tupleiter_next hit.typeIs entry_tupleiter_next ?_ (args_tupleiter_next _))))
  show wpAny _ _ (field (.ref it) 0 >>= _) _ _ s
  refine wpAny_bind (wpAny_field ho hd (x := .ref t) rfl (PySem.W.KFB.if_not rfl ?_))
  show wpAny _ _ (field (.ref it) 1 >>= _) _ _ s
  refine wpAny_bind (wpAny_field ho hd (x := .int i 0) rfl ?_)
  show wpAny _ _ (seqItems? (.ref t) >>= _) _ _ s
  refine wpAny_bind (wpAny_seqItems hol hdl ?_)
  simp only [Int.toNat_natCast, hx]
  refine wpAny_bind (wpAny_rule (wpAny_bind (wpAny_setField ho hd (by simp) ?_)))
  show wpAny _ _ (newExc (.type "StopIteration") [] >>= _) _ _ _
  refine wpAny_bind ?_
  simp only [newExc, newTuple]
  refine wpAny_bind (wpAny_newObj_type ?_ (by size_fits))
  refine wpAny_bind (m := firstArgMember _ _) (wpAny_of_eq (a := Value.none) (by first | rfl | (simp only [firstArgMember]; rfl)) ?_)
  refine wpAny_newObj_type ?_ (by size_fits)
  simp only [raiseNew]
  refine wpAny_bind (wpAny_handled ?_)
  first | rw [show A.in1.handled = none from hh] | rw [hh]
  refine wpAny_bind (wpAny_pure (wpAny_throw ?_))
  refine wpAny_bind (wpAny_isInstance (T := "StopIteration") (b := true) ⟨_, Heap.get?_push_size _ rfl, rfl⟩ isSubtype_stop ?_)
  exact wpAny_pure (hQ _ (((Heap.SameBut.update ..).extBut.push _).push _) ⟨_, Heap.get?_push_of_some _ (Heap.get?_push_of_some _ (Heap.get?_update_self _ ho (Obj.isFreed_of_fields (Obj.data_mapFields hd _))))⟩)
/-- the loop that fills the list at q -/
theorem loop_tup {A1 : Around} {Rs : Result → Shared → Prop} {q it t : Addr} {zs : List V} (hd : A1.in1.handled = none) (hne : q ≠ it) :
    ∀ (k i : Nat) (H : Hp) (s : Shared), zs.length - i = k → i ≤ zs.length → Inv X pins σ H s → H it = some (ItT t it i) → SqT X.K H t zs → H q = some (.lst (zs.take i)) →
      (∀ s', Inv X pins σ (upd (upd H it (ItTE it)) q (.lst zs)) s' → Rs (.ok (.ret .none)) s') → codeAny (model X.prog X.w) A1 (.builtin "list.extend.loop" ⟨[.ref q, .ref it, .none], []⟩) Rs s := by
  intro k
  induction k with
  | zero =>
    intro i H s hk hi I hit ht hq hR
    obtain ⟨its, rv, pl, hz⟩ := I.tuple ht
    have hin : zs.length = its.length := rv.length
    have mu : Mut (H it) := by rw [hit]; exact True.intro
    refine codeAny_builtin PySem.F.entry_extend_loop ?_
    rw [Around.under_plainId PySem.F.plain_extend_loop _]
    show wpAny _ A1.in1 (pyNext (.ref it) >>= _) _ _ s
    have ei : i = zs.length := by omega
    refine wpAny_bind (next_tup_end hd (itT_get I hit) pl (by rw [List.getElem?_toArray]; exact List.getElem?_eq_none (by omega)) fun h' eb ⟨o, ho⟩ => wpAny_pure ?_)
    have I2 : Inv X pins σ (upd H it (ItTE it)) { s with heap := h' } := I.write (x := it) (e := it) (t' := s.toks) mu (.inl rfl) (fun b o nb z => eb b o nb z) ⟨_, ho⟩ (itTE_ok ho)
    refine hR _ ?_
    have e : upd (upd H it (ItTE it)) q (.lst zs) = upd H it (ItTE it) := by
      funext b
      by_cases hb : b = q
      · rw [hb, upd_same, upd_ne hne, hq, ei, List.take_length]
      · rw [upd_ne hb]
    rw [e]
    exact I2
  | succ k ih =>
    intro i H s hk hi I hit ht hq hR
    obtain ⟨its, rv, pl, hz⟩ := I.tuple ht
    have hin : zs.length = its.length := rv.length
    have mu : Mut (H it) := by rw [hit]; exact True.intro
    have hlt : i < zs.length := by omega
    have hzi := List.getElem?_eq_getElem hlt
    obtain ⟨u, hu, ru⟩ := rv.get hzi
    refine codeAny_builtin PySem.F.entry_extend_loop ?_
    rw [Around.under_plainId PySem.F.plain_extend_loop _]
    show wpAny _ A1.in1 (pyNext (.ref it) >>= _) _ _ s
    refine wpAny_bind (next_tuple_item (itT_get I hit) pl (by rw [List.getElem?_toArray]; exact hu) fun h' hit' sb => ?_)
    obtain ⟨o, ho, _⟩ := id hit'
    have I2 : Inv X pins σ (upd H it (ItT t it (i + 1))) { s with heap := h' } := I.write (x := it) (e := it) (t' := s.toks) mu (.inl rfl) (fun b o nb z => (sb.2 b nb).trans z) ⟨_, ho⟩ (itT_ok hit')
    have hq2 : upd H it (ItT t it (i + 1)) q = some (.lst (zs.take i)) := by rw [upd_ne hne]; exact hq
    show wpAny _ A1.in1 (updateSeq q (·.push u) >>= _) _ _ _
    obtain ⟨z, its2, c, r2, hl, e⟩ := I2.lstM hq2
    have l2 : its2.length ≤ 16777215 := by
      rw [← hl, List.length_take]
      have := hz
      rw [sizeLine_eq] at this
      omega
    refine wpAny_bind (wpAny_updateSeq e rfl (wpAny_pure ⟨plainId_quiet PySem.F.plain_extend_loop _, ?_⟩) (by rw [List.size_toArray, sizeLine_eq]; omega) (by show (its2.toArray.push u).size ≤ sizeLine + 1; rw [Array.size_push, List.size_toArray, sizeLine_eq]; omega))
    have I3 := I2.lset (f := (·.push u)) (its' := its2 ++ [u]) (ys := zs.take i ++ [zs[i]]) (t' := s.toks) hq2 e (by simp) (r2.append (.cons ru .nil)) (by rw [List.length_append, List.length_singleton, List.length_take, sizeLine_eq]; rw [sizeLine_eq] at hz; omega)
    refine ih (i + 1) _ _ (by omega) (by omega) I3 ?_ ?_ ?_ fun s' I4 => hR s' ?_
    · rw [upd_ne (Ne.symm hne), upd_same]
    · exact sqT_upd (sqT_upd ht fun o' xs => ⟨by rw [hit]; exact fun z => (nomatch z), by rw [hit]; exact fun z => (nomatch z)⟩) fun o' xs => ⟨by rw [hq2]; exact fun z => (nomatch z), by rw [hq2]; exact fun z => (nomatch z)⟩
    · rw [upd_same, take_snoc hzi]
    · have e4 : upd (upd (upd (upd H it (ItT t it (i + 1))) q (.lst (zs.take i ++ [zs[i]]))) it (ItTE it)) q (.lst zs) = upd (upd H it (ItTE it)) q (.lst zs) := by
        funext b
        by_cases hb : b = q
        · rw [hb, upd_same, upd_same]
        · rw [upd_ne hb, upd_ne hb]
          by_cases hb2 : b = it
          · rw [hb2, upd_same, upd_same]
          · rw [upd_ne hb2, upd_ne hb2, upd_ne hb, upd_ne hb2]
      rw [← e4]
      exact I4
/-- list(o) -/
def rListIt (K : PySem.W.Frag) (C : Addr) (sp : Sp) (E : XK) : List V → Hp → VK → Prop := fun xs H Q => ∃ a dx fs, xs = [.ref a] ∧ H a = some (.ins C dx fs) ∧
  ∀ q, H q = none → sp [.ref a] (upd H q (.lst [])) (fun v H1 => ∃ (it t : Addr) (zs : List V), v = .ref it ∧ H1 it = some (ItT t it 0) ∧ SqT K H1 t zs ∧ H1 q = some (.lst []) ∧ (∃ dx' fs', H1 a = some (.ins C dx' fs')) ∧ Q (.ref q) (upd (upd H1 it (ItTE it)) q (.lst zs))) E
theorem hint_own {M : Model} {A : Around} {E : Value → Shared → Prop} {s : Shared} {Q : Bool → Shared → Prop} {K : PySem.W.Frag} {C a : Addr} {ox : Obj} {od : Option Obj} (h1 : PySem.W.findIn K (.ref C) "__len__" = some none) (h2 : PySem.W.findIn K (.ref C) "__length_hint__" = some none)
    (hK : K.In s.heap) (J : PySem.W.InstAt s.heap a ox C od) (h : Q true s) : wpAny M A (Builtin.List.listLengthHint (.ref a)) Q E s := by
  unfold Builtin.List.listLengthHint
  refine wpAny_bind (wpAny_bind (J.type.here ((PySem.W.looks_findIn hK h1).here (PySem.W.KFB.if_not rfl (PySem.W.KFB.if_not rfl ?_)))))
  exact wpAny_bind (wpAny_bind (J.type.here ((PySem.W.looks_findIn hK h2).here (wpAny_pure h))))
theorem call_listIt {C f : Addr} {fd : FuncData} {ps : List Str} {sp : Sp} {E : XK} {n : Nat} {CX : CXT} (hs : PySem.W.findIn X.K (.ref C) "__iter__" = some (some (.ref f))) (hfn : PySem.W.isFn X.K (.ref f) = true) (n1 : PySem.W.findIn X.K (.ref C) "__len__" = some none) (n2 : PySem.W.findIn X.K (.ref C) "__length_hint__" = some none)
    (F : FnOk X.prog X.w X.K X.mg X.base CX n f fd ps sp) (hb : Binds X.K fd ps []) (hx : Passes CX X E) (hr : Room (n + 2) X.A) : CallR X (.type "list") (rListIt X.K C sp E) := by
  intro pins s σ H xs us Q I rv h
  obtain ⟨a, dx, fs, rfl, ha, hq⟩ := h
  obtain ⟨u, rfl, ru⟩ := rv.one
  cases ru
  have sb : Sub X n X.A.in1.in1 := (Sub.in1 (Sub.in1 (⟨hr, rfl⟩ : Sub X (n + 2) X.A)))
  refine callType_codes (Q₁ := fun obj s₁ => obj = .ref s.heap.objs.size ∧ s₁ = { s with heap := s.heap.push { cls := .type "list", data := .seq #[] } }) PySem.F.called_list (PySem.F.typeCall_list_1 _) PySem.F.entry_list_init
    (code_list_new _ ⟨rfl, rfl⟩) fun obj s₁ h₁ => ?_
  obtain ⟨rfl, rfl⟩ := h₁
  have hS : (s.heap.push { cls := .type "list", data := .seq #[] }).get? s.heap.objs.size = some { cls := .type "list", data := .seq #[] } := Heap.get?_push_size _ rfl
  refine ⟨⟨_, hS, rfl⟩, PySem.F.args_list_init_2 _ _, ?_⟩
  have fr : H s.heap.objs.size = none := I.hok.fresh (Nat.le_refl _)
  have hsp := hq _ fr
  have I1 : Inv X pins σ (upd H s.heap.objs.size (.lst [])) { s with heap := s.heap.push { cls := .type "list", data := .seq #[] } } := I.lnew (its := []) (t' := s.toks) .nil (Nat.zero_le _)
  show wpAny _ _ (do let old ← Builtin.List.listItems (.ref s.heap.objs.size); Builtin.List.listUpdate (.ref s.heap.objs.size) (fun _ => #[]); letGo old.toList.reverse; Builtin.List.listExtendWith (.ref s.heap.objs.size) (.ref a) .none) _ _ _
  refine wpAny_bind ?_
  unfold Builtin.List.listItems
  refine wpAny_bind (wpAny_seqItems hS rfl (wpAny_pure ?_))
  show wpAny _ _ (updateSeq s.heap.objs.size (fun _ => #[]) >>= fun _ => letGo (#[] : Array Value).toList.reverse >>= fun _ => Builtin.List.listExtendWith (.ref s.heap.objs.size) (.ref a) .none) _ _ _
  refine wpAny_bind (wpAny_updateSeq hS rfl ?_)
  have I2 := I1.lset (f := fun _ => #[]) (its := []) (its' := []) (ys := []) (t' := s.toks) upd_same hS rfl .nil (Nat.zero_le _)
  rw [upd_upd] at I2
  refine wpAny_bind (wpAny_letGo ?_)
  have ha2 : upd H s.heap.objs.size (.lst []) a = some (.ins C dx fs) := by rw [upd_ne (ne_of_none ha fr)]; exact ha
  have hne : s.heap.objs.size ≠ a := Ne.symm (ne_of_none ha fr)
  generalize hH2 : upd H s.heap.objs.size (.lst []) = H2 at *
  generalize s.heap.objs.size = q at *
  obtain ⟨mA, J, _⟩ := ins_get I2.hok ha2
  obtain ⟨od, J, _⟩ := J.look
  obtain ⟨m0, hF⟩ := I2.fr
  unfold Builtin.List.listExtendWith
  refine wpAny_bind (J.type.here ?_)
  have h1 : Builtin.List.listSameRef (.ref q) (.ref a) = false := by simp [Builtin.List.listSameRef, hne]
  have h2 : (Value.ref C == Value.type "list") = false := rfl
  have h3 : (Value.ref C == Value.type "tuple") = false := rfl
  simp only [h1, h2, h3, Bool.or_false, Bool.false_eq_true, if_false]
  refine wpAny_bind (PySem.W.owit_iter hF I2.ok.mod.kin J hs hfn ?_)
  have e0 : ∀ {s : Shared} {H : Hp}, Inv X pins σ H s → Env0 X.prog X.w X.K X.mg X.base X.A.in1.in1 X.stack s H := fun {s H} I => by
    have e := I.env0
    exact ⟨by rw [sb.fr]; exact e.frames, e.mod, e.bs, e.bsz, e.funs, e.frf, e.hok, e.bare⟩
  have hl := F.len _ _ _ _ hsp
  have r2 : Vals [V.ref a] [Value.ref a] := .cons rfl .nil
  refine wpAny_call (codeAny_mono (F.run X.A.in1.in1 X.stack _ _ ⟨[.ref a], []⟩ [.ref a] [.ref a] _ E sb.room (e0 I2) (by
    have := hb _ [.ref a] I2.kIn (by simpa using hl)
    simpa using this) r2 hsp) fun r s' hq' => ?_)
  cases r with
  | error e => exact hx pins σ _ _ e s' I2 hq'
  | ok fl =>
    cases fl with
    | next => exact False.elim hq'
    | brk => exact False.elim hq'
    | cont => exact False.elim hq'
    | ret u =>
      obtain ⟨v, H', I', rv, it, t, zs, ev, hit, ht, hqq, ⟨dx', fs', ha'⟩, hQ⟩ := I2.after hq'
      subst ev
      cases rv
      have hT : s'.TypeIs (.ref it) "tuple_iterator" := (itT_get I' hit).typeIs
      have hqi : q ≠ it := fun z => by
        rw [z, hit] at hqq
        exact (nomatch hqq)
      show wpAny _ _ (specialOf (.ref it) "__next__") _ _ _
      refine wpAny_specialOf hT slot_tupleiter_next.lookup ?_
      obtain ⟨mA', J', _⟩ := ins_get I'.hok ha'
      obtain ⟨od', J', _⟩ := J'.look
      refine wpAny_bind (wpAny_holding (hint_own n1 n2 I'.kIn J' ?_))
      have go : ∀ s'', Inv X pins σ H' s'' → codeAny (model X.prog X.w) X.A.in1 (.builtin "list.extend.loop" ⟨[.ref q, .ref it, .none], []⟩) (wants (fun r s₂ => r = .none ∧ EP X pins σ Q (.ref q) s₂) X.xe) s'' := fun s'' I'' =>
        loop_tup (t := t) (zs := zs) sb.room.hd hqi zs.length 0 H' s'' (by simp) (Nat.zero_le _) I'' hit ht (by rw [hqq]; rfl) fun s3 I3 => ⟨rfl, .ref q, _, I3, rfl, hQ⟩
      obtain ⟨z, its, k, r3, hl3, e3⟩ := I'.lstM hqq
      cases r3
      refine wpAny_ite_split (fun _ => ?_) (fun _ => wpAny_pure ⟨plainId_quiet PySem.F.plain_extend_loop _, go s' I'⟩)
      refine wpAny_bind (wpAny_rule ?_)
      refine wpAny_bind ?_
      show wpAny _ _ (updateSeq q (·.push .none) >>= fun _ => updateSeq q (·.pop)) _ _ _
      refine wpAny_bind (wpAny_updateSeq e3 rfl ?_)
      have I3 := I'.lset (f := (·.push Value.none)) (its' := [Value.none]) (ys := [.non]) (t' := s'.toks) hqq e3 (by simp) (.cons rfl .nil) (by rw [List.length_singleton, sizeLine_eq]; decide)
      obtain ⟨z4, its4, k4, r4, hl4, e4⟩ := I3.lstM upd_same
      obtain ⟨u4, rfl, ru4⟩ := r4.one
      refine wpAny_updateSeq e4 rfl ?_ (by show 1 ≤ sizeLine; rw [sizeLine_eq]; decide) (by show 0 ≤ sizeLine + 1; exact Nat.zero_le _)
      have I4 := I3.lset (f := (·.pop)) (its := [u4]) (its' := []) (ys := []) (t' := s'.toks) upd_same e4 (by rfl) .nil (Nat.zero_le _)
      rw [upd_upd] at I4
      have hH : upd H' q (.lst []) = H' := by
        funext b
        by_cases hb : b = q
        · rw [hb, upd_same, hqq]
        · rw [upd_ne hb]
      rw [hH] at I4
      exact wpAny_pure ⟨plainId_quiet PySem.F.plain_extend_loop _, go _ I4⟩
end
end XL
set_option Elab.async false
set_option linter.all false
set_option maxRecDepth 100000
set_option maxHeartbeats 4000000
/-! XOr: two rules for one piece of text; what classes say of an own error. -/
namespace XL
open PySem PySem.Spec PyProof.Rows L2
section
variable {X : Cx}
theorem pe_or {e : Expr} {t u : TE} (h : PE X e t) (k : PE X e u) : PE X e (fun σ H Q => t σ H Q ∨ u σ H Q) := ⟨fun pins s σ H Q I q => q.elim (h.run pins s σ H Q I) (k.run pins s σ H Q I)⟩
theorem pg_or {e : Expr} {t u : TG} (h : PG X e t) (k : PG X e u) : PG X e (fun v σ H Q => t v σ H Q ∨ u v σ H Q) := ⟨fun pins s σ H v w Q I r q => q.elim (h.run pins s σ H v w Q I r) (k.run pins s σ H v w Q I r)⟩
theorem cr_or {f : Value} {t u : List V → Hp → VK → Prop} (h : CallR X f t) (k : CallR X f u) : CallR X f (fun xs H Q => t xs H Q ∨ u xs H Q) := fun pins s σ H xs us Q I r q => q.elim (h pins s σ H xs us Q I r) (k pins s σ H xs us Q I r)
end
section
variable {P : Program} {w : World} {K : PySem.W.Frag} {mg : Str → Option Value} {base : Heap} {CX : CXT} {k : Nat} {f : Addr} {fd : FuncData} {ps : List Str} {sp sq : Sp}
theorem fn_or (h : FnOk P w K mg base CX k f fd ps sp) (h2 : FnOk P w K mg base CX k f fd ps sq) : FnOk P w K mg base CX k f fd ps (fun vs H Q E => sp vs H Q E ∨ sq vs H Q E) :=
  ⟨fun vs H Q E q => q.elim (h.len vs H Q E) (h2.len vs H Q E), fun A outer s H args us vs Q E hr he hb hv q => q.elim (h.run A outer s H args us vs Q E hr he hb hv) (h2.run A outer s H args us vs Q E hr he hb hv)⟩
end
theorem kit_of {K : PySem.W.Frag} {D C : Addr} {b : Bool} (hne : (Value.ref D == Value.ref C) = false) (h2 : PySem.W.isClsIn K C = true) (h3 : PySem.W.typeIn K (.ref C) = some (.type "type")) (h4 : PySem.W.subIn K (.ref D) (.ref C) = some b) : PySem.W.kitOne K (.ref D) (.ref C) = some b := by
  have e2 : ((PySem.W.clsIn K C).isSome && PySem.W.typeIn K (.ref C) == some (.type "type")) = true := by
    have h2' : (PySem.W.clsIn K C).isSome = true := h2
    rw [h2', h3]
    rfl
  show (if (Value.ref D == Value.ref C) = true then some true else (if ((PySem.W.clsIn K C).isSome && PySem.W.typeIn K (.ref C) == some (.type "type")) = true then PySem.W.subIn K (.ref D) (.ref C) else none)) = some b
  rw [if_neg (by rw [hne]; decide), if_pos e2]
  exact h4
theorem exm_of {K : PySem.W.Frag} {S : Addr} {cls : Value} {b : Bool} (h1 : PySem.W.subIn K (.ref S) (.type "BaseException") = some true) (h2 : PySem.W.isClsIn K S = true) (h3 : PySem.W.typeIn K (.ref S) = some (.type "type")) (h4 : PySem.W.subIn K cls (.ref S) = some b) : PySem.W.exmOne K cls (.ref S) = some b := by
  have e1 : (PySem.W.subIn K (.ref S) (.type "BaseException") == some true) = true := by rw [h1] <;> rfl
  have e2 : ((PySem.W.clsIn K S).isSome && PySem.W.typeIn K (.ref S) == some (.type "type")) = true := by
    have h2' : (PySem.W.clsIn K S).isSome = true := h2
    rw [h2', h3] <;> rfl
  show (if (PySem.W.subIn K (.ref S) (.type "BaseException") == some true) = true then (if ((PySem.W.clsIn K S).isSome && PySem.W.typeIn K (.ref S) == some (.type "type")) = true then PySem.W.subIn K cls (.ref S) else none) else none) = some b
  rw [if_pos e1, if_pos e2]
  exact h4
end XL
set_option Elab.async false
set_option linter.all false
set_option maxRecDepth 100000
set_option maxHeartbeats 4000000
/-! XTxt: texts of small letters; a name that is not used. -/
namespace XL
open PySem PySem.Spec PyProof.Rows L2
def LS : Str := "abcdefghijklmnopqrstuvwxyz"
structure Lt (a b : Nat) (z : Str) : Prop where
  lo : a ≤ z.length
  hi : z.length ≤ b
  ch : ∀ c ∈ z.cps.toList, c ∈ LS.cps.toList
theorem len_tl (z : Str) : z.length = z.cps.toList.length := by
  show z.cps.size = _
  rw [Array.length_toList]
theorem Lt.one {c : Nat} (h : c ∈ LS.cps.toList) : Lt 1 1 ⟨#[c]⟩ := ⟨Nat.le_refl _, Nat.le_refl _, fun d hd => by
  have : d = c := by simpa using hd
  rw [this]
  exact h⟩
theorem Lt.wide {a b a' b' : Nat} {z : Str} (h : Lt a b z) (h1 : a' ≤ a) (h2 : b ≤ b') : Lt a' b' z := ⟨Nat.le_trans h1 h.lo, Nat.le_trans h.hi h2, h.ch⟩
theorem app_len (x y : Str) : (x ++ y).length = x.length + y.length := Str.length_append x y
theorem app_tl (x y : Str) : (x ++ y).cps.toList = x.cps.toList ++ y.cps.toList := by
  rw [Str.cps_append]
  simp
theorem Lt.app {a b c d : Nat} {x y : Str} (h : Lt a b x) (k : Lt c d y) : Lt (a + c) (b + d) (x ++ y) := by
  have h1 := h.lo; have h2 := h.hi; have h3 := k.lo; have h4 := k.hi
  refine ⟨by rw [app_len]; omega, by rw [app_len]; omega, fun e he => ?_⟩
  rw [app_tl] at he
  rcases List.mem_append.mp he with z | z
  · exact h.ch e z
  · exact k.ch e z
theorem cut_mem {z : Str} {lo hi : Option Int} {c : Nat} (h : c ∈ (cutS z lo hi).cps.toList) : c ∈ z.cps.toList := by
  have h2 : c ∈ (z.cps.toList.drop (HT.sIx z.length 0 lo)).take (HT.sIx z.length z.length hi - HT.sIx z.length 0 lo) := by simpa [cutS] using h
  exact List.mem_of_mem_drop (List.mem_of_mem_take h2)
theorem cut_to_len (z : Str) (k : Nat) : (cutS z none (some (k : Int))).length = min k z.length := by
  rw [len_tl]
  show ((z.cps.toList.drop (HT.sIx z.length 0 none)).take (HT.sIx z.length z.length (some (k : Int)) - HT.sIx z.length 0 none)).toArray.toList.length = _
  rw [HT.sIx_nat, HT.sIx_none]
  rw [Nat.sub_zero, List.drop_zero, List.length_take, ← len_tl]
  omega
theorem cut_from_len (z : Str) (k : Nat) (h : k ≤ z.length) : (cutS z (some (k : Int)) none).length = z.length - k := by
  rw [len_tl]
  show ((z.cps.toList.drop (HT.sIx z.length 0 (some (k : Int)))).take (HT.sIx z.length z.length none - HT.sIx z.length 0 (some (k : Int)))).toArray.toList.length = _
  rw [HT.sIx_nat, HT.sIx_none, List.length_take, List.length_drop, ← len_tl]
  omega
theorem Lt.to {a b : Nat} {z : Str} (h : Lt a b z) (k : Nat) : Lt (min k a) (min k b) (cutS z none (some (k : Int))) := by
  have h1 := h.lo; have h2 := h.hi
  exact ⟨by rw [cut_to_len]; omega, by rw [cut_to_len]; omega, fun c hc => h.ch c (cut_mem hc)⟩
theorem joinL_nil : ∀ ps : List (List Nat), TL.joinL [] ps = ps.flatten
  | [] => rfl
  | [p] => by simp [TL.joinL]
  | p :: q :: r => by
    show p ++ ([] ++ TL.joinL [] (q :: r)) = _
    rw [joinL_nil (q :: r)]
    simp
theorem Lt.join {ys : List Str} (h : ∀ y ∈ ys, Lt 1 1 y) : Lt ys.length ys.length (Txt.join "" ys) := by
  have e : (Txt.join "" ys).cps.toList = (ys.map fun y => y.cps.toList).flatten := by
    rw [TL.join_eq]
    exact (TL.tl_join "" ys).trans (joinL_nil _)
  have el : ∀ {ys : List Str}, (∀ y ∈ ys, Lt 1 1 y) → ((ys.map fun y => y.cps.toList).flatten).length = ys.length := by
    intro ys
    induction ys with
    | nil => intro _; rfl
    | cons y r ih =>
      intro h
      have h1 := h y List.mem_cons_self
      have z := ih fun y hy => h y (List.mem_cons_of_mem _ hy)
      have l1 := h1.lo; have l2 := h1.hi
      rw [len_tl] at l1 l2
      rw [List.map_cons, List.flatten_cons, List.length_append, z, List.length_cons]
      omega
  have l := el h
  refine ⟨by rw [len_tl, e, l]; exact Nat.le_refl _, by rw [len_tl, e, l]; exact Nat.le_refl _, fun c hc => ?_⟩
  rw [e] at hc
  obtain ⟨p, hp, hcp⟩ := List.mem_flatten.mp hc
  obtain ⟨y, hy, rfl⟩ := List.mem_map.mp hp
  exact (h y hy).ch c hcp
theorem sum_ones : ∀ {ys : List Str}, (∀ y ∈ ys, Lt 1 1 y) → (ys.map (·.length)).sum = ys.length
  | [], _ => rfl
  | y :: r, h => by
    have h1 := h y List.mem_cons_self
    have z := sum_ones fun y hy => h y (List.mem_cons_of_mem _ hy)
    have l1 := h1.lo; have l2 := h1.hi
    rw [List.map_cons, List.sum_cons, z, List.length_cons]
    omega
/-! ### one that is not used -/
theorem nd_sub {α : Type} [DecidableEq α] : ∀ {xs ys : List α}, xs.Nodup → (∀ x ∈ xs, x ∈ ys) → xs.length ≤ ys.length
  | [], _, _, _ => Nat.zero_le _
  | x :: r, ys, nd, h => by
    have hx := h x List.mem_cons_self
    have nd' := List.nodup_cons.mp nd
    have z := nd_sub (ys := ys.erase x) nd'.2 fun y hy => (List.mem_erase_of_ne (fun e : y = x => nd'.1 (by rw [← e]; exact hy))).mpr (h y (List.mem_cons_of_mem _ hy))
    rw [List.length_erase_of_mem hx] at z
    have : 0 < ys.length := List.length_pos_of_mem hx
    rw [List.length_cons]
    omega
def letter (k : Nat) : Nat := LS.cps.toList.getD k 0
theorem letter_at {k : Nat} (h : k < 26) : LS.cps.toList[k]? = some (letter k) := by
  have z : ∀ j : Nat, j < 26 → LS.cps.toList[j]? = some (letter j) := by decide +kernel
  exact z k h
theorem letter_inj {i j : Nat} (hi : i < 26) (hj : j < 26) (h : letter i = letter j) : i = j := by
  have z : ∀ i : Nat, i < 26 → ∀ j : Nat, j < 26 → letter i = letter j → i = j := by decide +kernel
  exact z i hi j hj h
def tail2 (k : Nat) : Str := (⟨#[letter (k / 26)]⟩ : Str) ++ ⟨#[letter (k % 26)]⟩
theorem tail2_inj {p : Str} {i j : Nat} (hi : i < 676) (hj : j < 676) (h : p ++ tail2 i = p ++ tail2 j) : i = j := by
  have e := congrArg (fun z : Str => z.cps.toList) h
  simp only [app_tl, tail2] at e
  have e2 := List.append_cancel_left e
  have e3 : [letter (i / 26), letter (i % 26)] = [letter (j / 26), letter (j % 26)] := by simpa using e2
  injection e3 with h1 h2
  injection h2 with h2 _
  have a := letter_inj (by omega) (by omega) h1
  have b := letter_inj (by omega) (by omega) h2
  omega
theorem tail2_lt {k : Nat} (h : k < 676) : Lt 2 2 (tail2 k) :=
  (Lt.one (List.mem_of_getElem? (letter_at (by omega)))).app (Lt.one (List.mem_of_getElem? (letter_at (by omega))))
theorem unused (p : Str) (us : List Str) (h : us.length < 676) : ∃ k, k < 676 ∧ p ++ tail2 k ∉ us := by
  apply Classical.byContradiction
  intro no
  have all : ∀ z ∈ (List.range 676).map (fun k => p ++ tail2 k), z ∈ us := fun z hz => by
    obtain ⟨k, hk, rfl⟩ := List.mem_map.mp hz
    apply Classical.byContradiction
    intro q
    exact no ⟨k, List.mem_range.mp hk, q⟩
  have nd : ((List.range 676).map (fun k => p ++ tail2 k)).Nodup := by
    unfold List.Nodup
    rw [List.pairwise_map]
    refine List.Pairwise.imp_of_mem ?_ (List.nodup_range (n := 676))
    intro a b ha hb hab e
    exact hab (tail2_inj (List.mem_range.mp ha) (List.mem_range.mp hb) e)
  have z := nd_sub nd all
  rw [List.length_map, List.length_range] at z
  omega
theorem inV_str {x : Str} (xs : List Str) : inV (.str x) (xs.map V.str) = decide (x ∈ xs) := by
  unfold inV
  induction xs with
  | nil => rfl
  | cons y r ih =>
    rw [List.map_cons, List.any_cons, ih]
    show ((y == x) || decide (x ∈ r)) = decide (x ∈ y :: r)
    by_cases e : x = y
    · subst e; simp
    · have e2 : ¬ y = x := fun q => e q.symm
      simp [e, e2]
theorem strs_flat (xs : List Str) : (xs.map V.str).all flatV = true := by
  rw [List.all_eq_true]
  intro x hx
  obtain ⟨n, _, rfl⟩ := List.mem_map.mp hx
  rfl
end XL
set_option Elab.async false
set_option linter.all false
set_option maxRecDepth 100000
set_option maxHeartbeats 4000000
/-! XLine: C(*row), a method within a try, zip with K said, classes of an own error. -/
namespace XL
open PySem PySem.Spec PyProof.Rows L2
section
variable {X : Cx} {CX : CXT} {k : Nat} {f C : Addr} {fd : FuncData} {ps : List Str} {ds : List Value} {dvs : List V} {sp : Sp} {x m : Str} {p pos apos sp_ : Pos} {e o : Expr} {es : List Expr} {te ta : TE} {t : TA}
def tMakeS (K : PySem.W.Frag) (C : Addr) (sp : Sp) (dvs : List V) (E : XK) (te : TE) : TE := fun σ H Q => te σ H fun y H1 => ∃ a xs, y = V.ref a ∧ (SqT K H1 a xs ∨ SqL K H1 a xs) ∧
  ∀ x dx, H1 x = none → H1 dx = none → dx ≠ x → sp (.ref x :: (xs ++ dvs)) (upd (upd H1 dx (.own x)) x (.ins C dx [])) (fun v H2 => v = .non ∧ Q (.ref x) H2) E
/-- C(*row) -/
theorem pe_makeS {E : XK} (K : PySem.W.Frag) (M : Mk X.K C f) (F : FnOk X.prog X.w X.K X.mg X.base CX k f fd ps sp) (hr : Room (k + 1) X.A) (hg : Gl X x) (hm : X.mg x = some (.ref C)) (hb : Binds X.K fd ps ds) (hd : Vals dvs ds) (hx : Passes CX X E) (he : PE X e te) (hK : X.K = K := by rfl) (hdb : (x == ("__debug__" : Str)) = false := by decide)
    (hst : starEach [.Starred e sp_] X.env = [(true, eval e X.env)] := by rfl) : PE X (.Call (.Name x p) [.Starred e sp_] [] pos) (tMakeS K C sp dvs E te) := by
  subst hK
  refine ⟨fun pins s σ H Q I h => ?_⟩
  refine wpAny_Call_Name_kw (ld_glob I hg hm ?_ hdb)
  refine PySem.W.callWith_S (h₀ := X.base) I.ok.mod.kin M.kp (thn (he.run pins s σ H _ I h) fun v s1 ⟨y, H1, I1, ry, a, xs, ey, hxs, q⟩ => ?_) hst
  subst ey
  obtain rfl : v = Value.ref a := ry
  exact StX.star_any I1 hxs fun us s2 I2 rv => ⟨I2.kIn, run_make M F hr hb hd hx I2 rv q⟩
def tMethS (C : Addr) (m : Str) (sp : Sp) (E : L2.St → XK) (ta : TE) (t : TA) : TE := fun σ H Q => ta σ H fun x H1 => ∃ a dx fs, x = .ref a ∧ H1 a = some (.ins C dx fs) ∧ fs.lookup m = none ∧
  t σ H1 fun vs H2 => sp (x :: vs) H2 Q (E σ)
/-- o.m(..) within a try -/
theorem pe_methT {E : L2.St → XK} {pl : Sem Bool} (he : PE X o ta) (c : Cls X.K C) (hm : Meth X.K C m f) (F : FnOk X.prog X.w X.K X.mg X.base CX k f fd ps sp) (hr : Room k X.A) (hb : Binds X.K fd ps []) (hx : ∀ σ, PassesAt CX X σ (E σ)) (ha : PA X (e :: es) t)
    (hst : starEach (e :: es) X.env = (false, eval e X.env) :: starEach es X.env := by rfl) (hpl : (backTo pos (starEach es X.env)).any (·.1) = false := by rfl)
    (ht : eval (.Call (.Attribute o m apos) (e :: es) [] pos) X.env = (do
      let ov ← eval o X.env
      standAt apos.atName
      let (f, first) ← holding [ov] (getMethod ov m pl)
      callWith pos f first (backTo pos (starEach (e :: es) X.env)) (backToKw pos (keywordEach [] X.env))) := by rfl) :
    PE X (.Call (.Attribute o m apos) (e :: es) [] pos) (tMethS C m sp E ta t) := by
  refine ⟨fun pins s σ H Q I h => ?_⟩
  refine PySem.W.methodCall_KW (pl := pl) (thn (he.run pins s σ H _ I h) fun u s1 ⟨x, H1, I1, rx, a, dx, fs, ex, ea, l, q⟩ => ?_) ht
  subst ex
  obtain rfl : u = Value.ref a := rx
  refine getmeth_ok I1 ea c hm l ?_
  refine PySem.W.callWith_K (first := [.ref a]) (h₀ := X.base) I.ok.mod.kin hm.kp (thn (ha.run pos pins s1 σ H1 _ I1 q) fun us s2 ⟨vs, H2, I2, r, q2⟩ => ⟨I2.kIn, ?_⟩) hst hpl
  exact run_fnS (us := .ref a :: us) (vs := .ref a :: vs) (E := E) F hr hb (hx σ) I2 (.cons rfl r) q2
theorem pe_methT0 {E : L2.St → XK} {pl : Sem Bool} (he : PE X o ta) (c : Cls X.K C) (hm : Meth X.K C m f) (F : FnOk X.prog X.w X.K X.mg X.base CX k f fd ps sp) (hr : Room k X.A) (hb : Binds X.K fd ps []) (hx : ∀ σ, PassesAt CX X σ (E σ))
    (ht : eval (.Call (.Attribute o m apos) [] [] pos) X.env = (do
      let ov ← eval o X.env
      standAt apos.atName
      let (f, first) ← holding [ov] (getMethod ov m pl)
      callWith pos f first (backTo pos (starEach [] X.env)) (backToKw pos (keywordEach [] X.env))) := by rfl) :
    PE X (.Call (.Attribute o m apos) [] [] pos) (tMethS C m sp E ta tNil) := by
  refine ⟨fun pins s σ H Q I h => ?_⟩
  refine PySem.W.methodCall_KW (pl := pl) (thn (he.run pins s σ H _ I h) fun u s1 ⟨x, H1, I1, rx, a, dx, fs, ex, ea, l, q⟩ => ?_) ht
  subst ex
  obtain rfl : u = Value.ref a := rx
  refine getmeth_ok I1 ea c hm l ?_
  exact PySem.W.callWith_K0 (first := [.ref a]) I1.kIn hm.kp (run_fnS (us := [.ref a]) (vs := [.ref a]) (E := E) F hr hb (hx σ) I1 (.cons rfl .nil) q)
theorem pi_zipK {e e2 : Expr} {ta : TA} {p pos tpos : Pos} {elts : List Expr} {kk : Nat} (K : PySem.W.Frag) (hg : Gl X "zip") (hm : X.mg "zip" = none) (ha : PA X [e, e2] ta) (hK : X.K = K := by rfl)
    (hs : starEach [e, e2] X.env = (false, eval e X.env) :: starEach [e2] X.env := by rfl) (hpl : (backTo pos (starEach [e2] X.env)).any (·.1) = false := by rfl) :
    PI X (.Tuple elts kk tpos) (.Call (.Name "zip" p) [e, e2] [] pos) (iZip K ta) := hK ▸ pi_zip hg hm ha hs hpl
end
theorem kit_ty_of {K : PySem.W.Frag} {D : Addr} {T : String} {b : Bool} (h1 : PySem.W.kitMeta T = true) (h2 : PySem.W.subIn K (.ref D) (.type T) = some b) : PySem.W.kitOne K (.ref D) (.type T) = some b := by
  show (if (Value.ref D == Value.type T) = true then some true else (if PySem.W.kitMeta T = true then PySem.W.subIn K (.ref D) (.type T) else none)) = some b
  rw [if_neg (fun h => by cases h), if_pos h1]
  exact h2
end XL
set_option Elab.async false
set_option linter.all false
set_option maxRecDepth 100000
set_option maxHeartbeats 4000000
/-! XHot: a def that raises nothing and walks nothing, called within an except suite. -/
namespace XL
open PySem PySem.Spec PyProof.Rows L2 L2H
/-- what a def promises there -/
structure FnQ (P : Program) (w : World) (K : PySem.W.Frag) (mg : Str → Option Value) (base : Heap) (k : Nat) (f : Addr) (fd : FuncData) (ps : List Str) (sp : Sp) : Prop where
  len : ∀ vs H Q E, sp vs H Q E → vs.length = ps.length
  run : ∀ (A : Around) (outer : List Env) (s : Shared) (H : Hp) (args : Args) (us : List Value) (vs : List V) (Q : VK) (E : XK) (p : Addr × Obj), RoomH k A → PinOk outer H s p → Env0 P w K mg base A outer s H → BindsTo s fd args (ps.zip us) → Vals vs us → sp vs H Q E →
    codeAny (model P w) A (.call (.ref f) args) (CR CX0 outer P w H s Q E) s
theorem okQ {P : Program} {w : World} {K : PySem.W.Frag} {mg : Str → Option Value} {base : Heap} {x qual : Str} {st : Stmt} {f : Addr} {fd : FuncData} {N ps : List Str} {k : Nat} {sp : Sp} (F : Fun K x qual st f fd) (S : FnScope N ps (defScope st)) (len : ∀ vs H Q E, sp vs H Q E → vs.length = ps.length)
    (hbody : ∀ (cdv : Value) (A : Around) (outer : List Env) (s : Shared) (H : Hp) (vs : List V) (Q : VK) (E : XK) (p : Addr × Obj), RoomH k (A.deeper (envOfC qual (defScope st) s.heap.objs.size f cdv)) → sp vs H Q E →
      ∃ t, PSs (cxH CX0 P w K mg base N qual (defScope st) f cdv A outer s H E p) (defBody st) t ∧ t { nx := fun _ H' => Q .non H', rt := Q } (L2.start N vs) H) : FnQ P w K mg base (k + 1) f fd ps sp := by
  obtain ⟨oc, od, kV, doc, pm, an, cdv, ct, osl, rfl, lk, hcd⟩ := F.ex
  refine ⟨len, fun A outer s H args us vs Q E p hr hpin e0 hb r hsp => ?_⟩
  have hl := len _ _ _ _ hsp
  have KX : K.In s.heap := e0.mod.kin.keeps fun b o e => (e0.bs b o e).1
  have lim : s.heap.NoLimit := e0.mod.nolimit.keeps fun b o e => (e0.bs b o e).1
  have hkind : ∀ y ∈ ps.zip us, (defScope st).names.lookup y.1 = some .local ∨ ((defScope st).names.lookup y.1 = some .cell ∧ ((cellsFrom (s.heap.objs.size + 1) (defScope st).names []).lookup y.1).isSome = true) := fun ⟨n, v⟩ hy => by
    rcases S.par n (List.of_mem_zip hy).1 with q | q
    · exact .inl q
    · exact .inr ⟨q, PySem.W.cellsFrom_some _ _ _ (.inl q)⟩
  refine codeAny_call_function hr.depth (KX _ _ lk) rfl S.co S.gen rfl (PySem.W.codeRec_of KX hcd) (hb _ _ _ _ ?_)
  refine wpAny_newFunctionEnv_cells S.kind hkind fun env he s1 x => ?_
  subst he
  refine ⟨lim.keeps x.toInCall.keep, codeAny_func ?_⟩
  obtain ⟨t, ht, hq⟩ := hbody cdv A outer s H vs Q E p (hr.deeper _) hsp
  have I : Inv (cxH CX0 P w K mg base N qual (defScope st) f cdv A outer s H E p) [] (L2.start N vs) H s1 := inv_startH S hpin e0 hl r x
  refine wpAny_mono (ht.run [] s1 (L2.start N vs) H _ I hq) (fun fl s' hs => ?_) fun e s' hs => hs
  have fin : ∀ {σ' : L2.St} {H' : Hp} {v : V} {u : Value}, Inv (cxH CX0 P w K mg base N qual (defScope st) f cdv A outer s H E p) [] σ' H' s' → RelV v u → Q v H' → CE outer P w H s Q u s' :=
    fun {σ' H' v u} J rv q => ⟨v, H', J.os, J.bare, J.base, J.hok, rv, q⟩
  cases fl with
  | ret u =>
    obtain ⟨v, σ', H', J, rv, q⟩ := hs
    exact fin J rv q
  | next =>
    obtain ⟨σ', H', J, q⟩ := hs
    exact fin (v := V.non) (u := Value.none) J rfl q
  | brk =>
    obtain ⟨_, _, _, q⟩ := hs
    exact False.elim q
  | cont =>
    obtain ⟨_, _, _, q⟩ := hs
    exact False.elim q
section
variable {X : Cx} {k : Nat} {f : Addr} {fd : FuncData} {ps : List Str} {sp : Sp} {E : XK} {x : Str} {q pos : Pos} {e : Expr} {es : List Expr} {t : TA}
theorem pe_callQ (F : FnQ X.prog X.w X.K X.mg X.base k f fd ps sp) (hr : RoomH k X.A) (hc : ∃ p, p ∈ X.pn) (hg : Gl X x) (hm : X.mg x = some (.ref f)) (hk : PySem.W.keepIn X.K (.ref f) = true) (hb : Binds X.K fd ps []) (hx : Passes CX0 X E)
    (ha : PA X (e :: es) t) (hdb : (x == ("__debug__" : Str)) = false := by decide) (he : starEach (e :: es) X.env = (false, eval e X.env) :: starEach es X.env := by rfl) (hpl : (backTo pos (starEach es X.env)).any (·.1) = false := by rfl) :
    PE X (.Call (.Name x q) (e :: es) [] pos) (fun σ H Q => t σ H fun vs H1 => sp vs H1 Q E) := by
  refine ⟨fun pins s σ H Q I h => ?_⟩
  refine wpAny_Call_Name_kw (ld_glob I hg hm ?_ hdb)
  refine PySem.W.callWith_K (h₀ := X.base) I.ok.mod.kin hk (thn (ha.run pos pins s σ H _ I h) fun us s1 ⟨vs, H1, I1, r, q⟩ => ⟨I1.kIn, ?_⟩) he hpl
  obtain ⟨p, hp⟩ := hc
  have hl : us.length = ps.length := by rw [← r.length]; exact F.len _ _ _ _ q
  have b := hb s1 us I1.kIn (by rw [List.append_nil]; exact hl)
  rw [List.append_nil] at b
  have P1 := I1.pin p (List.mem_append_left _ hp)
  have hpin : PinOk X.stack H1 s1 p := ⟨P1.1, P1.2.1, fun hm => (List.mem_cons.mp (I1.stkSub p.1 hm)).elim P1.2.2.1 P1.2.2.2.1, P1.2.2.2.2⟩
  refine wpAny_call (codeAny_mono (F.run X.A X.stack s1 H1 ⟨us, []⟩ us vs Q E p hr hpin I1.env0 b r q) fun r s' hq => ?_)
  cases r with
  | error e => exact hx pins σ _ _ e s' I1 hq
  | ok fl =>
    cases fl with
    | ret u => exact I1.after hq
    | next => exact False.elim hq
    | brk => exact False.elim hq
    | cont => exact False.elim hq
end
theorem roomQ {X : Cx} {k j : Nat} {a : Addr} {pn : List (Addr × Obj)} (hr : Room k X.A) (h : j ≤ k) : RoomH j (X.suite a pn).A := ⟨(hr.mono h).dp, (hr.mono h).un⟩
end XL
set_option Elab.async false
set_option linter.all false
set_option maxRecDepth 100000
set_option maxHeartbeats 4000000
/-! XGuard: defs that are called while no repr is under way (Around.guards is known to be empty); repr of data there. -/
namespace XL
open PySem PySem.Spec PyProof.Rows L2
/-- what a def promises when no repr is under way -/
structure FnG (P : Program) (w : World) (K : PySem.W.Frag) (mg : Str → Option Value) (base : Heap) (CX : CXT) (k : Nat) (f : Addr) (fd : FuncData) (ps : List Str) (sp : Sp) : Prop where
  len : ∀ vs H Q E, sp vs H Q E → vs.length = ps.length
  run : ∀ (A : Around) (outer : List Env) (s : Shared) (H : Hp) (args : Args) (us : List Value) (vs : List V) (Q : VK) (E : XK), Room k A → A.guards = some [] → Env0 P w K mg base A outer s H → BindsTo s fd args (ps.zip us) → Vals vs us → sp vs H Q E →
    codeAny (model P w) A (.call (.ref f) args) (CR CX outer P w H s Q E) s
section
variable {P : Program} {w : World} {K : PySem.W.Frag} {mg : Str → Option Value} {base : Heap} {CX : CXT}
theorem FnG.of {k : Nat} {f : Addr} {fd : FuncData} {ps : List Str} {sp : Sp} (F : FnOk P w K mg base CX k f fd ps sp) : FnG P w K mg base CX k f fd ps sp := ⟨F.len, fun A outer s H args us vs Q E hr _ => F.run A outer s H args us vs Q E hr⟩
theorem fnG_of {x qual : Str} {st : Stmt} {f : Addr} {fd : FuncData} {N ps : List Str} {k : Nat} {sp : Sp} (F : Fun K x qual st f fd) (S : FnScope N ps (defScope st)) (len : ∀ vs H Q E, sp vs H Q E → vs.length = ps.length)
    (hbody : ∀ (cdv : Value) (A : Around) (outer : List Env) (s : Shared) (H : Hp) (vs : List V) (Q : VK) (E : XK), Room k (A.deeper (envOfC qual (defScope st) s.heap.objs.size f cdv)) → A.guards = some [] → sp vs H Q E →
      ∃ t, PSs (cxOf CX P w K mg base N qual (defScope st) f cdv A outer s H E) (defBody st) t ∧ t { nx := fun _ H' => Q .non H', rt := Q } (L2.start N vs) H) : FnG P w K mg base CX (k + 1) f fd ps sp := by
  obtain ⟨oc, od, kV, doc, pm, an, cdv, ct, osl, rfl, lk, hcd⟩ := F.ex
  refine ⟨len, fun A outer s H args us vs Q E hr hg e0 hb r hsp => ?_⟩
  have hl := len _ _ _ _ hsp
  have KX : K.In s.heap := e0.mod.kin.keeps fun b o e => (e0.bs b o e).1
  have lim : s.heap.NoLimit := e0.mod.nolimit.keeps fun b o e => (e0.bs b o e).1
  have hkind : ∀ y ∈ ps.zip us, (defScope st).names.lookup y.1 = some .local ∨ ((defScope st).names.lookup y.1 = some .cell ∧ ((cellsFrom (s.heap.objs.size + 1) (defScope st).names []).lookup y.1).isSome = true) := fun ⟨n, v⟩ hy => by
    rcases S.par n (List.of_mem_zip hy).1 with q | q
    · exact .inl q
    · exact .inr ⟨q, PySem.W.cellsFrom_some _ _ _ (.inl q)⟩
  refine codeAny_call_function hr.depth (KX _ _ lk) rfl S.co S.gen rfl (PySem.W.codeRec_of KX hcd) (hb _ _ _ _ ?_)
  refine wpAny_newFunctionEnv_cells S.kind hkind fun env he s1 x => ?_
  subst he
  refine ⟨lim.keeps x.toInCall.keep, codeAny_func ?_⟩
  obtain ⟨t, ht, hq⟩ := hbody cdv A outer s H vs Q E (hr.deeper _) hg hsp
  have I : Inv (cxOf CX P w K mg base N qual (defScope st) f cdv A outer s H E) [] (L2.start N vs) H s1 := inv_start S hr.hd e0 hl r x
  refine wpAny_mono (ht.run [] s1 (L2.start N vs) H _ I hq) (fun fl s' hs => ?_) fun e s' hs => hs
  cases fl with
  | ret u =>
    obtain ⟨v, σ', H', J, rv, q⟩ := hs
    exact ⟨v, H', J.os, J.bare, J.base, J.hok, rv, q⟩
  | next =>
    obtain ⟨σ', H', J, q⟩ := hs
    exact ⟨V.non, H', J.os, J.bare, J.base, J.hok, rfl, q⟩
  | brk =>
    obtain ⟨_, _, _, q⟩ := hs
    exact False.elim q
  | cont =>
    obtain ⟨_, _, _, q⟩ := hs
    exact False.elim q
/-- a def that raises nothing -/
theorem okG {x qual : Str} {st : Stmt} {f : Addr} {fd : FuncData} {N ps : List Str} {k : Nat} {sp : Sp} (F : Fun K x qual st f fd) (S : FnScope N ps (defScope st)) (len : ∀ vs H Q E, sp vs H Q E → vs.length = ps.length)
    (hbody : ∀ (cdv : Value) (A : Around) (outer : List Env) (s : Shared) (H : Hp) (vs : List V) (Q : VK) (E : XK), Room k (A.deeper (envOfC qual (defScope st) s.heap.objs.size f cdv)) → A.guards = some [] → sp vs H Q E →
      ∃ t, PSs (cxOf CX0 P w K mg base N qual (defScope st) f cdv A outer s H E).nox (defBody st) t ∧ t { nx := fun _ H' => Q .non H', rt := Q } (L2.start N vs) H) : FnG P w K mg base CX0 (k + 1) f fd ps sp :=
  fnG_of F S len fun cdv A outer s H vs Q E hr hg hsp => let ⟨t, h, q⟩ := hbody cdv A outer s H vs Q E hr hg hsp; ⟨t, h.nox, q⟩
end
section
variable {X : Cx} {CX : CXT} {k : Nat} {f : Addr} {fd : FuncData} {ps : List Str} {sp : Sp} {E : XK} {x : Str} {p pos : Pos} {e : Expr} {es : List Expr} {t : TA}
theorem run_fnG {pins : List (Addr × Obj)} {σ : L2.St} {H : Hp} {s : Shared} {Q : VK} {us : List Value} {vs : List V} (F : FnG X.prog X.w X.K X.mg X.base CX k f fd ps sp) (hr : Room k X.A) (hg : X.A.guards = some []) (hb : Binds X.K fd ps []) (hx : Passes CX X E)
    (I : Inv X pins σ H s) (r : Vals vs us) (h : sp vs H Q E) : wpAny (model X.prog X.w) X.A (call (.ref f) us) (EP X pins σ Q) X.xe s := by
  have hl : us.length = ps.length := by rw [← r.length]; exact F.len _ _ _ _ h
  have b := hb s us I.kIn (by rw [List.append_nil]; exact hl)
  rw [List.append_nil] at b
  refine wpAny_call (codeAny_mono (F.run X.A X.stack s H ⟨us, []⟩ us vs Q E hr hg I.env0 b r h) fun r s' hq => ?_)
  cases r with
  | error e => exact hx pins σ _ _ e s' I hq
  | ok fl =>
    cases fl with
    | ret u => exact I.after hq
    | next => exact False.elim hq
    | brk => exact False.elim hq
    | cont => exact False.elim hq
theorem pe_callG (F : FnG X.prog X.w X.K X.mg X.base CX k f fd ps sp) (hr : Room k X.A) (hg : X.A.guards = some []) (hgl : Gl X x) (hm : X.mg x = some (.ref f)) (hk : PySem.W.keepIn X.K (.ref f) = true) (hb : Binds X.K fd ps []) (hx : Passes CX X E)
    (ha : PA X (e :: es) t) (hdb : (x == ("__debug__" : Str)) = false := by decide) (he : starEach (e :: es) X.env = (false, eval e X.env) :: starEach es X.env := by rfl) (hpl : (backTo pos (starEach es X.env)).any (·.1) = false := by rfl) :
    PE X (.Call (.Name x p) (e :: es) [] pos) (fun σ H Q => t σ H fun vs H1 => sp vs H1 Q E) := by
  refine ⟨fun pins s σ H Q I h => ?_⟩
  refine wpAny_Call_Name_kw (ld_glob I hgl hm ?_ hdb)
  refine PySem.W.callWith_K (h₀ := X.base) I.ok.mod.kin hk (thn (ha.run pos pins s σ H _ I h) fun us s1 ⟨vs, H1, I1, r, q⟩ => ⟨I1.kIn, ?_⟩) he hpl
  exact run_fnG F hr hg hb hx I1 r q
theorem u70 {k : Nat} {A : Around} (r : Room k A) : A.units + 70 < cLine := by have := r.un; omega
/-- repr of data -/
def rRepr (K : PySem.W.Frag) : List V → Hp → VK → Prop := fun xs H Q => ∃ v d, xs = [v] ∧ Dp K H v d ∧ d.showable = true ∧ d.hasDict = false ∧ d.depth ≤ 64 ∧ d.shown.length ≤ sizeLine ∧ Q (.str d.shown) H
theorem call_reprG (K : PySem.W.Frag) (hg : X.A.guards = some []) (hu : X.A.units + 70 < cLine) (hK : X.K = K := by rfl) : CallR X (.builtin "repr") (rRepr K) := by
  subst hK
  intro pins s σ H xs us Q I r h
  obtain ⟨v, d, rfl, hd, h1, h2, h3, h4, q⟩ := h
  obtain ⟨u, rfl, ru⟩ : ∃ u, us = [u] ∧ RelV v u := by
    cases r with
    | cons a b =>
      cases b
      exact ⟨_, rfl, a⟩
  obtain ⟨as, rd⟩ := Dp.reads I d v u hd ru
  have big : ∀ a : Addr, u = .ref a → wpAny (model X.prog X.w) X.A (call (.builtin "repr") [u]) (EP X pins σ Q) X.xe s := by
    rintro a rfl
    exact repr_of_reads' rd h1 (PyData.noDict_hsm h2) hg (by omega) (fun _ _ e => e) (fun h' t tk hk => ⟨.str d.shown, H, I.kept hk, ⟨_, rfl⟩, q⟩) h4
  cases hd with
  | non =>
    cases ru
    exact PySem.P.repr_of_none ⟨.str _, H, I.tok _, ⟨_, rfl⟩, by simpa only [PyData.shown] using q⟩
  | bl b =>
    cases ru
    exact PySem.P.repr_of_bool ⟨.str _, H, I.tok _, ⟨_, rfl⟩, by simpa only [PyData.shown] using q⟩
  | int i =>
    obtain ⟨t, rfl⟩ := ru
    exact PySem.P.repr_of_int (by simpa [PyData.showable] using h1) ⟨.str _, H, I.tok _, ⟨_, rfl⟩, by simpa only [PyData.shown] using q⟩
  | str x =>
    obtain ⟨t, rfl⟩ := ru
    exact PySem.P.repr_of_str ⟨.str _, H, I.tok _, ⟨_, rfl⟩, by simpa only [PyData.shown] using q⟩ (by simpa only [PyData.shown] using h4)
  | lst _ _ => exact big _ ru
  | tup _ _ => exact big _ ru
end
/-! ### the law's own call -/
theorem law_callG {P : Program} {w : World} {K : PySem.W.Frag} {mg mb : Str → Option Value} {CX : CXT} {k : Nat} {fa a : Addr} {fd : FuncData} {x : Str} {sp : Sp} {s₁ : Shared} {vs : List Value} {ns : List Int}
    (KX : K.In s₁.heap) (hns : s₁.heap.Ns mainGlobals mg) (hb : s₁.heap.Ns builtinsNs mb) (hbb : ∀ x : Str, x ≠ "__name__" → mb x = bootBuiltins x) (hlim : s₁.heap.NoLimit) (hg : s₁.gens = #[])
    (ha : s₁.heap.get? a = some { cls := .type "list", data := .seq vs.toArray }) (hi : IntsAre vs ns) (hl : ns.length ≤ sizeLine) (hr : Room k callerA)
    (F : ∀ base : Heap, K.In base → base.Ns mainGlobals mg → FnG P w K mg base CX k fa fd [x] sp) (hbind : ∀ (s : Shared) (u : Value), BindsTo s fd ⟨[u], []⟩ [(x, u)])
    (hsp : ∀ H : Hp, Only H → SqL K H a (ns.map V.int) → sp [.ref a] H (fun v _ => v = .bl true) fun _ _ _ => False)
    (hCX : ∀ H e s', CX [] H s₁ (fun _ _ _ => False) e s' → False) :
    codeAny (model P w) callerA (.call (.ref fa) ⟨[.ref a], []⟩) (fun r s' => r = .ok (.ret (.bool true)) ∧ OldK s₁.heap s'.heap ∧ s'.os = s₁.os ∧ AllBare s'.gens) s₁ := by
  have rv := vals_ints hi
  have lenV := hi.length
  -- nothing is tracked but the script
  have main : ∀ H : Hp, (∀ b, H b = none ∨ (b = a ∧ K.lookup a = none ∧ H b = some (.frz { cls := .type "list", data := .seq vs.toArray } (.lst (ns.map V.int))))) → SqL K H a (ns.map V.int) → HOk P w H s₁.heap →
      codeAny (model P w) callerA (.call (.ref fa) ⟨[.ref a], []⟩) (fun r s' => r = .ok (.ret (.bool true)) ∧ OldK s₁.heap s'.heap ∧ s'.os = s₁.os ∧ AllBare s'.gens) s₁ := by
    intro H hH hS hok
    have nsK : ∀ {b : Addr} {m : Str → Option Value}, s₁.heap.Ns b m → (hidT s₁.heap H).Ns b m := fun {b m} ⟨o, es, ep, e, d, r⟩ => by
      refine ⟨o, es, ep, hidT_get e ?_, d, r⟩
      rcases hH b with z | ⟨z, _⟩
      · exact z
      · rw [z, ha] at e
        cases e
        cases d
    have hKb : K.In (hidT s₁.heap H) := fun b o e => hidT_get (KX b o e) (by
      rcases hH b with z | ⟨z, z2, _⟩
      · exact z
      · rw [z, z2] at e
        cases e)
    have hM : Mod K mg (hidT s₁.heap H) := ⟨hKb, nsK hns, ⟨mb, nsK hb, hbb⟩, let ⟨mc, h1, h2⟩ := hlim; ⟨mc, nsK h1, h2⟩⟩
    have e0 : Env0 P w K mg (hidT s₁.heap H) callerA [] s₁ H := ⟨rfl, hM, fun b o e => of_hidT e, Nat.le_of_eq (hidT_size _ _), trivial, fun b hb => (nomatch hb), hok, .of_eq hg⟩
    have hO : Only H := fun b => (hH b).imp id fun z => ⟨_, _, z.2.2⟩
    refine codeAny_mono ((F _ hKb (nsK hns)).run callerA [] s₁ H ⟨[.ref a], []⟩ [.ref a] [.ref a] _ _ hr rfl e0 (hbind s₁ (.ref a)) (.cons rfl .nil) (hsp H hO hS)) fun r s' h => ?_
    cases r with
    | error e => exact (hCX H e s' h).elim
    | ok fl =>
      cases fl with
      | next => exact False.elim h
      | brk => exact False.elim h
      | cont => exact False.elim h
      | ret u =>
        obtain ⟨v, H', os, bare, un, hok', r', q⟩ := h
        have q' : v = .bl true := q
        subst q'
        obtain rfl : u = Value.bool true := r'
        refine ⟨rfl, OldK.of_keep fun b o e => ?_, os, bare⟩
        rcases hH b with z | ⟨_, _, z⟩
        · exact un.keep b o e z (fun y => nomatch y) (by simp)
        · obtain ⟨e1, _⟩ := hok b _ z
          obtain ⟨e2, _⟩ := hok' b _ (un.frzs b _ _ z)
          rw [e] at e1
          cases e1
          exact e2
  cases hk : K.lookup a with
  | some o =>
    have e := KX a o hk
    rw [ha] at e
    cases e
    exact main (fun _ => none) (fun _ => .inl rfl) (.inr ⟨_, vs.toArray, _, hk, rfl, rfl, rfl, by rw [List.size_toArray, lenV]; exact hl, by simpa using rv⟩) (fun b u z => nomatch z)
  | none =>
    refine main (fun b => if b = a then some (.frz { cls := .type "list", data := .seq vs.toArray } (.lst (ns.map V.int))) else none) (fun b => ?_) (.inl (.inr ⟨{ cls := .type "list", data := .seq vs.toArray }, if_pos rfl⟩)) (fun b u z => ?_)
    · by_cases hb : b = a
      · exact .inr ⟨hb, hk, if_pos hb⟩
      · exact .inl (if_neg hb)
    · by_cases hb : b = a
      · have z' := (if_pos hb).symm.trans z
        cases z'
        subst hb
        exact ⟨ha, by rw [List.length_map]; exact hl, vs, _, rv, ha⟩
      · have z' := (if_neg hb).symm.trans z
        cases z'
theorem walk_ofG {l : PySem.W.OpenLaw} {n k : Nat} {q : Program} {loose : List Str} {XP : (Str → Option Value) → Heap → Prop} {YP : World → Heap → Prop} {d : DefRec} {K : Params → PySem.W.Frag} {CX : World → CXT} {sp : World → Sp} {x : Str}
    (hn : l.most = some n) (hn2 : n ≤ sizeLine) (hdf : d.params.defaults = []) (hr : Room k callerA)
    (hY : ∀ (w : World) (h : Heap), YP w h → (K w.params).In h)
    (F : ∀ (w : World) (mg : Str → Option Value) (fa : Addr) (h : Heap), (K w.params).In h → h.Ns mainGlobals mg → mg d.name = some (.ref fa) →
      ∃ fd : FuncData, (∀ (s : Shared) (u : Value), BindsTo s fd ⟨[u], []⟩ [(x, u)]) ∧
        ∀ base : Heap, (K w.params).In base → base.Ns mainGlobals mg → FnG l.prog w (K w.params) mg base (CX w) k fa fd [x] (sp w))
    (hsp : ∀ (w : World) (H : Hp) (a : Addr) (ns : List Int), ns.length ≤ n → Only H → SqL (K w.params) H a (ns.map V.int) → sp w [.ref a] H (fun v _ => v = .bl true) fun _ _ _ => False)
    (hCX : ∀ (w : World) (H : Hp) (s : Shared) (e : Value) (s' : Shared), CX w [] H s (fun _ _ _ => False) e s' → False) :
    PySem.W.WalkO q loose XP YP l.row.toRowW d [] (fun f vs => PySem.call f vs) := by
  refine Att.attach_call hn hdf fun w s₀ s₁ mg mb fa o pm cd doc a vs ns G Y ho hd hcd hmg hobj hints hlen hg => ?_
  have KX := hY w _ Y
  obtain ⟨fd, hb, hF⟩ := F w mg fa _ KX G.T.g hmg
  exact law_callG KX G.T.g G.T.b G.T.builtins G.T.nolimit hg hobj hints (Nat.le_trans hlen hn2) hr hF hb (fun H hO hS => hsp w H a ns hlen hO hS) fun H e s' => hCX w H s₁ e s'
end XL
set_option Elab.async false
set_option linter.all false
set_option maxRecDepth 100000
set_option maxHeartbeats 4000000
/-! XStar: defs with a star parameter, called with plain arguments. -/
namespace XL
open PySem PySem.Spec PyProof.Rows L2
/-! ### list.extend of a tuple -/
theorem ext_tup (l : Addr) (items : Array Value) (n : Nat) (b : Addr) (items2 : Array Value) (n2 : Nat) (dc : Option Addr) (sl : Array (Option Value)) (hs0 : ¬(!items.isEmpty && Builtin.List.listTooLong (items.size + items2.size)) = true) (hs1 : items.size ≤ sizeLine) (hs2 : items.size + items2.size ≤ sizeLine + 1) :
    Meets (Builtin.«list.extend» ⟨[.ref l, .ref b], []⟩) (fun _ R s => s.heap.get? l = some { cls := .type "list", dict := none, data := .seq items n, slots := #[] } ∧ s.heap.get? b = some { cls := .type "tuple", dict := dc, data := .seq items2 n2, slots := sl } ∧ R (.ok (.ret Value.none)) { s with heap := s.heap.update l (Obj.mapSeq fun x => x ++ items2), toks := s.toks }) :=
  .of_wp fun prog w A R s h => by
    obtain ⟨hp, g, d, tk, os⟩ := s
    obtain ⟨hl, hb, h⟩ := h
    have f1 := AutoSeq1.idx_int; have f2 := AutoSeq1.sub_tuple_tuple; have f3 := AutoSeq1.sub_list_list; have f4 := AutoSeq1.sub_tuple_list; have f5 := AutoSeq1.sub_list_tuple
    have hz' : (items ++ items2).size ≤ sizeLine + 1 := by rw [Array.size_append]; exact hs2
    wp_walk using (wpAny_updateSeq hl rfl (hz := hs1) (_hz' := hz')), wpAny_loadPart' hl, wpAny_loadPart' hb
    exact ⟨_, rfl, h⟩
def rExtT (K : PySem.W.Frag) : V → List V → Hp → VK → Prop := fun x vs H Q => ∃ l b xs zs, x = .ref l ∧ vs = [.ref b] ∧ H l = some (.lst xs) ∧ SqT K H b zs ∧ xs.length + zs.length ≤ sizeLine ∧ Q .non (upd H l (.lst (xs ++ zs)))
theorem mt_extT {X : Cx} (K : PySem.W.Frag) (hK : X.K = K := by rfl) : MtM X "list.extend" (rExtT K) := by
  subst hK
  intro pins s σ H x vs v us Q I rx rv h
  obtain ⟨l, b, xs, zs, rfl, rfl, hH, hB, hz, q⟩ := h
  cases rx
  obtain ⟨u, rfl, ru⟩ := rv.one
  cases ru
  obtain ⟨z, its, n, r, hl, e⟩ := I.lstM hH
  obtain ⟨its2, r2, ⟨o2, e2, c2, n2, d2⟩, z2⟩ := I.tuple hB
  have hl2 := r2.length
  obtain ⟨oc, od, odt, osl⟩ := o2
  simp only at c2 d2
  subst c2 d2
  have hsz : its.toArray.size + its2.toArray.size ≤ sizeLine := by rw [List.size_toArray, List.size_toArray]; omega
  have hlong : ¬ (!its.toArray.isEmpty && Builtin.List.listTooLong (its.toArray.size + its2.toArray.size)) = true := by
    rw [notLongL hsz, Bool.and_false]
    exact Bool.false_ne_true
  refine call_meets F.slot_list_extend ⟨_, e, rfl⟩ F.entry_list_extend (F.args_list_extend_2 _ _)
    (ext_tup l its.toArray n b its2.toArray n2 od osl hlong (by rw [List.size_toArray]; omega) (by omega)) ⟨e, e2, ?_⟩
  refine ⟨.non, _, I.lset (its' := its ++ its2) hH e (by simp) (r.append r2) ?_, rfl, q⟩
  rw [List.length_append]
  omega
/-- what a def with a star parameter binds -/
def BindsS (fd : FuncData) (ps : List Str) (pv : Str) : Prop := ∀ us rest : List Value, us.length = ps.length → bindArgs fd ⟨us ++ rest, []⟩ = (newTuple rest >>= fun t => pure (ps.zip us ++ [(pv, t)]))
/-- the promise of a def with a star parameter, from that of its body -/
def spS (n : Nat) (sp : Sp) : Sp := fun vs H Q E => ∃ ws rest, vs = ws ++ rest ∧ ws.length = n ∧ rest.length ≤ sizeLine ∧ ∀ p, H p = Option.none → sp (ws ++ [V.ref p]) (upd H p (.tup rest)) Q E
section
variable {P : Program} {w : World} {K : PySem.W.Frag} {mg : Str → Option Value} {base : Heap}
theorem okS {x qual : Str} {st : Stmt} {f : Addr} {fd : FuncData} {N ps : List Str} {pv : Str} {k : Nat} {sp : Sp} (F : Fun K x qual st f fd) (S : FnScope N (ps ++ [pv]) (defScope st)) (hb : BindsS fd ps pv)
    (hbody : ∀ (cdv : Value) (A : Around) (outer : List Env) (s : Shared) (H : Hp) (vs : List V) (Q : VK) (E : XK), Room k (A.deeper (envOfC qual (defScope st) s.heap.objs.size f cdv)) → sp vs H Q E →
      ∃ t, PSs (cxOf CX0 P w K mg base N qual (defScope st) f cdv A outer s H E).nox (defBody st) t ∧ t { nx := fun _ H' => Q .non H', rt := Q } (L2.start N vs) H) : FnR P w K mg base CX0 (k + 1) f (spS ps.length sp) := by
  obtain ⟨oc, od, kV, doc, pm, an, cdv, ct, osl, rfl, lk, hcd⟩ := F.ex
  refine StX.fn_star (pv := pv) (ps := ps) lk hcd S StX.cxUp_none hb fun A outer s H vs Q E hr hsp => ?_
  obtain ⟨t, h, q⟩ := hbody cdv A outer s H vs Q E hr hsp
  exact ⟨t, h.nox, q⟩
end
section
variable {X : Cx} {CX : CXT} {k : Nat} {f : Addr} {sp : Sp} {E : XK} {x : Str} {p pos : Pos} {e : Expr} {es : List Expr} {t : TA}
/-- x(e, ..) by a positional promise -/
theorem pe_callP (F : FnR X.prog X.w X.K X.mg X.base CX k f sp) (hr : Room k X.A) (hgl : Gl X x) (hm : X.mg x = some (.ref f)) (hk : PySem.W.keepIn X.K (.ref f) = true) (hx : Passes CX X E)
    (ha : PA X (e :: es) t) (hdb : (x == ("__debug__" : Str)) = false := by decide) (he : starEach (e :: es) X.env = (false, eval e X.env) :: starEach es X.env := by rfl) (hpl : (backTo pos (starEach es X.env)).any (·.1) = false := by rfl) :
    PE X (.Call (.Name x p) (e :: es) [] pos) (fun σ H Q => t σ H fun vs H1 => sp vs H1 Q E) := by
  refine ⟨fun pins s σ H Q I h => ?_⟩
  refine wpAny_Call_Name_kw (ld_glob I hgl hm ?_ hdb)
  refine PySem.W.callWith_K (h₀ := X.base) I.ok.mod.kin hk (thn (ha.run pos pins s σ H _ I h) fun us s1 ⟨vs, H1, I1, r, q⟩ => ⟨I1.kIn, ?_⟩) he hpl
  exact wpAny_call (run_fnR F hr hx I1 r q)
/-- x() -/
theorem pe_callP0 (F : FnR X.prog X.w X.K X.mg X.base CX k f sp) (hr : Room k X.A) (hgl : Gl X x) (hm : X.mg x = some (.ref f)) (hk : PySem.W.keepIn X.K (.ref f) = true) (hx : Passes CX X E) (hdb : (x == ("__debug__" : Str)) = false := by decide) :
    PE X (.Call (.Name x p) [] [] pos) (fun _ H Q => sp [] H Q E) := by
  refine ⟨fun pins s σ H Q I h => ?_⟩
  refine wpAny_Call_Name_kw (ld_glob I hgl hm ?_ hdb)
  exact PySem.W.callWith_K0 I.kIn hk (wpAny_call (run_fnR (us := []) F hr hx I .nil h))
end
section
variable {B : List Value → Sem (List (Str × Value))} {p1 p2 p3 p4 pv : Str}
theorem bindS0 (h0 : B [] = (newTuple [] >>= fun t => pure [(pv, t)])) (h1 : ∀ r rs, B (r :: rs) = (newTuple (r :: rs) >>= fun t => pure [(pv, t)])) :
    ∀ us rest : List Value, us.length = ([] : List Str).length → B (us ++ rest) = (newTuple rest >>= fun t => pure (([] : List Str).zip us ++ [(pv, t)]))
  | [], [], _ => h0
  | [], r :: rs, _ => h1 r rs
theorem bindS1 (h0 : ∀ a, B [a] = (newTuple [] >>= fun t => pure [(p1, a), (pv, t)])) (h1 : ∀ a r rs, B (a :: r :: rs) = (newTuple (r :: rs) >>= fun t => pure [(p1, a), (pv, t)])) :
    ∀ us rest : List Value, us.length = [p1].length → B (us ++ rest) = (newTuple rest >>= fun t => pure ([p1].zip us ++ [(pv, t)]))
  | [a], [], _ => h0 a
  | [a], r :: rs, _ => h1 a r rs
theorem bindS4 (h0 : ∀ a b c d, B [a, b, c, d] = (newTuple [] >>= fun t => pure [(p1, a), (p2, b), (p3, c), (p4, d), (pv, t)])) (h1 : ∀ a b c d r rs, B (a :: b :: c :: d :: r :: rs) = (newTuple (r :: rs) >>= fun t => pure [(p1, a), (p2, b), (p3, c), (p4, d), (pv, t)])) :
    ∀ us rest : List Value, us.length = [p1, p2, p3, p4].length → B (us ++ rest) = (newTuple rest >>= fun t => pure ([p1, p2, p3, p4].zip us ++ [(pv, t)]))
  | [a, b, c, d], [], _ => h0 a b c d
  | [a, b, c, d], r :: rs, _ => h1 a b c d r rs
end
end XL
set_option Elab.async false
set_option linter.all false
set_option maxRecDepth 100000
set_option maxHeartbeats 4000000
/-! XTree: t[::-1] of a tuple; == of data of more levels; objects whose own __iter__ hands on iter(l), l a list. -/
namespace XL
open PySem PySem.Spec PyProof.Rows L2
section
variable {prog : Program} {w : World} {A : Around} {E : Value → Shared → Prop} {s : Shared}
theorem applied_rev {sl : Addr} {t : Tok} {n : Nat} {Q : Int × Int × Nat → Shared → Prop} (hs : s.heap.IsSliceOf sl .none .none (.int (-1) t)) (h : Q ((n : Int) - 1, -1, n) s) :
    wpAny (model prog w) A (Builtin.Slice.sliceApplied (.ref sl) (pure (n : Int))) Q E s := by
  obtain ⟨os, hos, hcs, hds⟩ := id hs
  unfold Builtin.Slice.sliceApplied Builtin.Slice.sliceFields
  refine wpAny_bind (wpAny_bind (wpAny_field hos hds (x := .none) rfl (wpAny_bind (wpAny_field hos hds (x := .none) rfl (wpAny_bind (wpAny_field hos hds (x := .int (-1) t) rfl (wpAny_pure ?_)))))))
  refine wpAny_bind (HT.slicePart_ (.int (-1) t) ?_)
  show wpAny _ _ (if ((-1 : Int) == 0) = true then _ else _) _ _ s
  rw [if_neg (by decide)]
  refine wpAny_bind (HT.slicePart_ .none (wpAny_bind (HT.slicePart_ .none (wpAny_bind (wpAny_pure ?_)))))
  show wpAny _ _ (pure ((n : Int) - 1, (-1 : Int), Builtin.Slice.slicePlaces ((n : Int) - 1) (-1) (-1))) _ _ s
  have e : Builtin.Slice.slicePlaces ((n : Int) - 1) (-1) (-1) = n := by
    unfold Builtin.Slice.slicePlaces
    have h1 : ¬ ((-1 : Int) > 0) := by decide
    simp only [h1, if_false]
    split
    · rw [show (- -1 : Int) = 1 by decide, Int.ediv_one]
      omega
    · omega
  rw [e]
  exact wpAny_pure h
theorem fm_congr {α β : Type} {f g : α → Option β} : ∀ {l : List α}, (∀ x ∈ l, f x = g x) → l.filterMap f = l.filterMap g
  | [], _ => rfl
  | x :: l, h => by
    rw [List.filterMap_cons, List.filterMap_cons, h x List.mem_cons_self, fm_congr (l := l) fun y hy => h y (List.mem_cons_of_mem _ hy)]
theorem pick_rev (xs : Array Value) : ((List.range xs.size).filterMap fun (k : Nat) => xs[(((xs.size : Int) - 1) + (k : Int) * (-1)).toNat]?).toArray = xs.toList.reverse.toArray := by
  have z := PySem.W.krv_pick xs
  rw [← z]
  unfold slicePick
  rw [PySem.W.krv_bounds]
  show _ = ((sliceRange ((xs.size : Int) - 1) (-1) (-1)).filterMap (xs[·]?)).toArray
  rw [PySem.W.krv_sliceRange, List.filterMap_map]
  congr 1
  refine fm_congr fun k hk => ?_
  have := List.mem_range.mp hk
  have e : (((xs.size : Int) - 1) + (k : Int) * (-1)).toNat = xs.size - 1 - k := by omega
  show xs[_]? = xs[xs.size - 1 - k]?
  rw [e]
theorem getItem_tuple_rev {t sl : Addr} {tk : Tok} {items : Array Value} {Q : Value → Shared → Prop} (ht : IsTup s.heap t items) (hs : s.heap.IsSliceOf sl .none .none (.int (-1) tk))
    (h : Q (.ref s.heap.objs.size) { s with heap := s.heap.push { cls := .type "tuple", data := .seq items.toList.reverse.toArray } }) (hsz : items.size ≤ sizeLine) : wpAny (model prog w) A (getItem (.ref t) (.ref sl)) Q E s := by
  have htake : sizeOk (.seq items.toList.reverse.toArray) := by
    show items.toList.reverse.toArray.size ≤ sizeLine
    rw [List.size_toArray, List.length_reverse, Array.length_toList]
    exact hsz
  obtain ⟨os, hos, hcs, hds⟩ := id hs
  have hTs : s.TypeIs (.ref sl) "slice" := ⟨os, hos, hcs⟩
  unfold getItem
  try with_reducible refine wpAny_holding ?_
  first | refine wpAny_bind (wpAny_pure ?_) | skip
  refine wpAny_bind (wpAny_sequenceKey ht.typeIs (by decide) ?_)
  refine wpAny_bind (wpAny_callSpecial?_slot (name := Str.ofString "__getitem__") ht.typeIs PyProof.Rows.slot_tuple_getitem
    (wpAny_call_entry PyProof.Rows.slot_tuple_getitem ht.typeIs entry_tuple_getitem ?_ (args_tuple_getitem _ _)))
  show wpAny _ _ (Builtin.Tuple.tupleItemsOf (.ref t) >>= _) _ _ s
  refine wpAny_bind (tupleItemsOf_ ht ?_)
  refine wpAny_bind (wpAny_typeOf hTs ?_)
  rw [if_pos (by decide)]
  refine wpAny_bind (applied_rev hs ?_)
  have hno : ¬ (((items.size : Int) - 1 == 0 && (-1 : Int) == 1 && items.size == items.size) = true) := by
    intro q
    rw [Bool.and_eq_true, Bool.and_eq_true] at q
    exact absurd q.1.2 (by decide)
  show wpAny _ _ (if ((items.size : Int) - 1 == 0 && (-1 : Int) == 1 && items.size == items.size) = true then _ else _) _ _ s
  rw [if_neg hno, pick_rev]
  first
    | exact wpAny_bind (m := Builtin.Tuple.tupleExact _) (wpAny_newObj_type (wpAny_pure ⟨_, rfl, wpAny_pure h⟩) htake)
    | exact wpAny_bind (m := Builtin.Tuple.tupleExact _) (wpAny_newObj_type (wpAny_bind (wpAny_pure (wpAny_pure ⟨_, rfl, wpAny_pure h⟩))) htake)
    | exact wpAny_bind (wpAny_bind (m := Builtin.Tuple.tupleExact _) (wpAny_newObj_type (wpAny_pure (wpAny_pure ⟨_, rfl, wpAny_pure h⟩)) htake))
    | exact wpAny_bind (wpAny_bind (m := Builtin.Tuple.tupleExact _) (wpAny_newObj_type (wpAny_pure ⟨_, rfl, wpAny_pure h⟩) htake))
end
def tRevT (K : PySem.W.Frag) (te : TE) : TE := fun σ H Q => te σ H fun x H1 => ∃ a xs, x = .ref a ∧ SqT K H1 a xs ∧ ∀ p, H1 p = none → Q (.ref p) (upd H1 p (.tup xs.reverse))
theorem pe_revT {X : Cx} {e m : Expr} {te : TE} {p2 pos : Pos} (he : PE X e te) (hm : PE X m (tC (.int (-1)))) : PE X (.Subscript e (.Slice none none (some m) p2) pos) (tRevT X.K te) := by
  refine ⟨fun pins s σ H Q I h => ?_⟩
  refine Subscript_ (thn (he.run pins s σ H _ I h) fun v s1 ⟨x, H1, I1, r1, q1⟩ => ?_)
  refine wpAny_Slice (wpAny_evalPart_none (wpAny_evalPart_none (wpAny_evalPart_some (thn (hm.run pins s1 σ H1 (fun y H2 => y = .int (-1) ∧ H2 = H1) I1 ⟨rfl, rfl⟩) fun vm s3 ⟨y, H3, I3, r3, ey, eH⟩ => ?_))))
  subst ey eH
  obtain ⟨t, rfl⟩ := r3
  obtain ⟨a, xs, rfl, hx, q⟩ := q1
  cases r1
  have I4 : L2.Inv X pins σ H3 { s3 with heap := s3.heap.push { cls := .type "slice", data := .fields #[.none, .none, .int (-1) t] } } := I3.kept (t' := s3.toks) fun b ob q => Heap.get?_push_of_some _ q
  obtain ⟨its, r, ht, hz⟩ := I4.tuple hx
  have hlen := r.length
  show wpAny (model X.prog X.w) X.A (subscriptTail e (.Slice none none (some m) p2) (.ref a) (.ref s3.heap.objs.size)) (EP X pins σ Q) X.xe { s3 with heap := s3.heap.push { cls := .type "slice", data := .fields #[.none, .none, .int (-1) t] } }
  refine tail_any (ops := [.ref a, .ref s3.heap.objs.size]) ht.typeIs PyProof.Rows.slot_tuple_getitem.lookup ?_ (by with_unfolding_all rfl)
  refine getItem_tuple_rev ht (Heap.IsSliceOf.new ..) ?_ (by rw [List.size_toArray] <;> omega)
  refine ⟨.ref _, _, I4.laid (t' := s3.toks) (o := .tup xs.reverse) (fun b ob q => Heap.get?_push_of_some _ q) (Nat.le_refl _) ?_, rfl, q _ (I4.hok.fresh (Nat.le_refl _))⟩
  exact ⟨by rw [List.length_reverse]; exact hz, its.reverse, r.reverse, ⟨_, Heap.get?_push_size _ rfl, rfl, _, rfl⟩⟩
theorem pe_revTK {X : Cx} {e m : Expr} {te : TE} {p2 pos : Pos} (K : PySem.W.Frag) (he : PE X e te) (hm : PE X m (tC (.int (-1)))) (h : X.K = K := by rfl) : PE X (.Subscript e (.Slice none none (some m) p2) pos) (tRevT K te) := h ▸ pe_revT he hm
/-! ### == of data of up to 190 levels -/
def rEqL (K : PySem.W.Frag) : R2 := fun x y H Q => ∃ d e, Dp K H x d ∧ Dp K H y e ∧ d.canLay0 = true ∧ e.canLay0 = true ∧ d.depth ≤ 190 ∧ Q (.bl (PyData.eqv d e)) H
theorem op_eqL {X : Cx} (K : PySem.W.Frag) (hu : X.A.units + 190 < cLine) (hK : X.K = K := by rfl) : OpR X (compareOp .Eq) (rEqL K) := by
  subst hK
  intro pins s σ H x y v u Q I rx ry h
  obtain ⟨d, e, hd, he, sd, se, dp, q⟩ := h
  obtain ⟨as, r1⟩ := Dp.reads I d x v hd rx
  obtain ⟨bs, r2⟩ := Dp.reads I e y u he ry
  exact SeqAt.compareEq_reads r1 r2 sd se (by have := Nat.min_le_left d.depth e.depth; omega) ⟨.bl _, H, I, rfl, q⟩
/-! ### a promise that knows how large the heap was -/
structure FnY (P : Program) (w : World) (K : PySem.W.Frag) (mg : Str → Option Value) (base : Heap) (CX : CXT) (k : Nat) (f : Addr) (fd : FuncData) (ps : List Str) (sp : Nat → Sp) : Prop where
  len : ∀ n vs H Q E, sp n vs H Q E → vs.length = ps.length
  run : ∀ (A : Around) (outer : List Env) (s : Shared) (H : Hp) (args : Args) (us : List Value) (vs : List V) (Q : VK) (E : XK), Room k A → Env0 P w K mg base A outer s H → BindsTo s fd args (ps.zip us) → Vals vs us → sp s.heap.objs.size vs H Q E →
    codeAny (model P w) A (.call (.ref f) args) (CR CX outer P w H s Q E) s
section
variable {P : Program} {w : World} {K : PySem.W.Frag} {mg : Str → Option Value} {base : Heap} {CX : CXT}
theorem fnY_of {x qual : Str} {st : Stmt} {f : Addr} {fd : FuncData} {N ps : List Str} {k : Nat} {sp : Nat → Sp} (F : Fun K x qual st f fd) (S : FnScope N ps (defScope st)) (len : ∀ n vs H Q E, sp n vs H Q E → vs.length = ps.length)
    (hbody : ∀ (cdv : Value) (A : Around) (outer : List Env) (s : Shared) (H : Hp) (vs : List V) (Q : VK) (E : XK), Room k (A.deeper (envOfC qual (defScope st) s.heap.objs.size f cdv)) → sp s.heap.objs.size vs H Q E →
      ∃ t, PSs (cxOf CX P w K mg base N qual (defScope st) f cdv A outer s H E) (defBody st) t ∧ t { nx := fun _ H' => Q .non H', rt := Q } (L2.start N vs) H) : FnY P w K mg base CX (k + 1) f fd ps sp := by
  obtain ⟨oc, od, kV, doc, pm, an, cdv, ct, osl, rfl, lk, hcd⟩ := F.ex
  refine ⟨len, fun A outer s H args us vs Q E hr e0 hb r hsp => ?_⟩
  have hl := len _ _ _ _ _ hsp
  have KX : K.In s.heap := e0.mod.kin.keeps fun b o e => (e0.bs b o e).1
  have lim : s.heap.NoLimit := e0.mod.nolimit.keeps fun b o e => (e0.bs b o e).1
  have hkind : ∀ y ∈ ps.zip us, (defScope st).names.lookup y.1 = some .local ∨ ((defScope st).names.lookup y.1 = some .cell ∧ ((cellsFrom (s.heap.objs.size + 1) (defScope st).names []).lookup y.1).isSome = true) := fun ⟨n, v⟩ hy => by
    rcases S.par n (List.of_mem_zip hy).1 with q | q
    · exact .inl q
    · exact .inr ⟨q, PySem.W.cellsFrom_some _ _ _ (.inl q)⟩
  refine codeAny_call_function hr.depth (KX _ _ lk) rfl S.co S.gen rfl (PySem.W.codeRec_of KX hcd) (hb _ _ _ _ ?_)
  refine wpAny_newFunctionEnv_cells S.kind hkind fun env he s1 x => ?_
  subst he
  refine ⟨lim.keeps x.toInCall.keep, codeAny_func ?_⟩
  obtain ⟨t, ht, hq⟩ := hbody cdv A outer s H vs Q E (hr.deeper _) hsp
  have I : Inv (cxOf CX P w K mg base N qual (defScope st) f cdv A outer s H E) [] (L2.start N vs) H s1 := inv_start S hr.hd e0 hl r x
  refine wpAny_mono (ht.run [] s1 (L2.start N vs) H _ I hq) (fun fl s' hs => ?_) fun e s' hs => hs
  cases fl with
  | ret u =>
    obtain ⟨v, σ', H', J, rv, q⟩ := hs
    exact ⟨v, H', J.os, J.bare, J.base, J.hok, rv, q⟩
  | next =>
    obtain ⟨σ', H', J, q⟩ := hs
    exact ⟨V.non, H', J.os, J.bare, J.base, J.hok, rfl, q⟩
  | brk =>
    obtain ⟨_, _, _, q⟩ := hs
    exact False.elim q
  | cont =>
    obtain ⟨_, _, _, q⟩ := hs
    exact False.elim q
theorem okY {x qual : Str} {st : Stmt} {f : Addr} {fd : FuncData} {N ps : List Str} {k : Nat} {sp : Nat → Sp} (F : Fun K x qual st f fd) (S : FnScope N ps (defScope st)) (len : ∀ n vs H Q E, sp n vs H Q E → vs.length = ps.length)
    (hbody : ∀ (cdv : Value) (A : Around) (outer : List Env) (s : Shared) (H : Hp) (vs : List V) (Q : VK) (E : XK), Room k (A.deeper (envOfC qual (defScope st) s.heap.objs.size f cdv)) → sp s.heap.objs.size vs H Q E →
      ∃ t, PSs (cxOf CX0 P w K mg base N qual (defScope st) f cdv A outer s H E).nox (defBody st) t ∧ t { nx := fun _ H' => Q .non H', rt := Q } (L2.start N vs) H) : FnY P w K mg base CX0 (k + 1) f fd ps sp :=
  fnY_of F S len fun cdv A outer s H vs Q E hr hsp => let ⟨t, h, q⟩ := hbody cdv A outer s H vs Q E hr hsp; ⟨t, h.nox, q⟩
end
/-! ### for x in o, o an object whose own __iter__ hands on iter(l) -/
theorem dropH_upd {H : Hp} {a : Addr} {o : HO} (h : H a = none) : ItX.dropH (upd H a o) a = H := by
  funext b
  by_cases e : b = a
  · rw [e, ItX.dropH_same, h]
  · rw [ItX.dropH_ne e, upd_ne e]
def iOwnL (K : PySem.W.Frag) (C : Addr) (sp : Nat → Sp) (E : XK) (te : TE) : TI := fun σ H R => te σ H fun x H1 => ∃ a dx fs, x = .ref a ∧ H1 a = some (.ins C dx fs) ∧
  ∀ n, sp n [.ref a] H1 (fun v H2 => ∃ (it l : Addr), v = .ref it ∧ n ≤ it ∧ H2 it = some (ItO l it 0) ∧ R (Itl K l) (ItX.dropH H2 it)) E
theorem pi_ownL {X : Cx} {CX : CXT} {C f : Addr} {fd : FuncData} {ps : List Str} {sp : Nat → Sp} {E : XK} {n : Nat} {tg e : Expr} {te : TE} (he : PE X e te) (F : FnY X.prog X.w X.K X.mg X.base CX n f fd ps sp)
    (hs : PySem.W.findIn X.K (.ref C) "__iter__" = some (some (.ref f))) (hfn : PySem.W.isFn X.K (.ref f) = true) (hb : Binds X.K fd ps []) (hx : Passes CX X E) (hr : Room n X.A) : PI X tg e (iOwnL X.K C sp E te) := by
  refine ⟨fun pins s σ H R I h => ?_⟩
  refine thn (he.run pins s σ H _ I h) fun u s1 ⟨x, H1, I1, r1, a, dx, fs, ex, ha, hsp0⟩ => ?_
  subst ex
  cases r1
  have hsp := hsp0 s1.heap.objs.size
  obtain ⟨mA, J, _⟩ := ins_get I1.hok ha
  obtain ⟨od, J, _⟩ := J.look
  obtain ⟨m0, hF⟩ := I1.fr
  refine PySem.W.owit_iter hF I1.ok.mod.kin J hs hfn ?_
  have hl := F.len _ _ _ _ _ hsp
  refine wpAny_call (codeAny_mono (F.run X.A X.stack s1 H1 ⟨[.ref a], []⟩ [.ref a] [.ref a] _ E hr I1.env0 (by
    have := hb s1 [.ref a] I1.kIn (by simpa using hl)
    simpa using this) (.cons rfl .nil) hsp) fun r s' hq => ?_)
  cases r with
  | error e => exact hx pins σ _ _ e s' I1 hq
  | ok fl =>
    cases fl with
    | next => exact False.elim hq
    | brk => exact False.elim hq
    | cont => exact False.elim hq
    | ret u =>
      obtain ⟨v, H', I', rv, it, l, ev, young, hit, hR⟩ := I1.after hq
      subst ev
      cases rv
      have eo := itO_get I' hit
      have st : s'.heap.IsListIter it l 0 := ⟨_, eo, rfl, rfl⟩
      show wpAny _ _ (specialOf (.ref it) "__next__") _ _ _
      refine wpAny_specialOf st.typeIs slot_listiter_next.lookup ?_
      have hi' := hit
      unfold ItO at hi'
      refine ⟨it, [it], _, _, ItX.dropH H' it, rfl, ItX.inv_drop I' hi', turn_list l it, st, fun b hb => ?_, hR⟩
      have e : b = it := by simpa using hb
      rw [e]
      exact ItX.inv_fp I' hit (Nat.le_trans I1.sz young)
theorem pi_ownLK {X : Cx} {CX : CXT} {C f : Addr} {fd : FuncData} {ps : List Str} {sp : Nat → Sp} {E : XK} {n : Nat} {tg e : Expr} {te : TE} (K : PySem.W.Frag) (he : PE X e te) (F : FnY X.prog X.w X.K X.mg X.base CX n f fd ps sp)
    (hs : PySem.W.findIn X.K (.ref C) "__iter__" = some (some (.ref f))) (hfn : PySem.W.isFn X.K (.ref f) = true) (hb : Binds X.K fd ps []) (hx : Passes CX X E) (hr : Room n X.A) (h : X.K = K := by rfl) : PI X tg e (iOwnL K C sp E te) := h ▸ pi_ownL he F hs hfn hb hx hr
/-! ### list(o) -/
theorem next_lst_end {P : Program} {w : World} {A : Around} {E : Value → Shared → Prop} {s : Shared} {it t : Addr} {i : Nat} {items : Array Value} {Q : Option Value → Shared → Prop} (hh : A.handled = none)
    (hit : s.heap.IsListIter it t i) (ht : s.heap.IsList t items) (hx : items[i]? = none)
    (hQ : ∀ h', Heap.ExtBut it s.heap h' → (∃ o, h'.get? it = some o) → Q none { s with heap := h' }) : wpAny (model P w) A (pyNext (.ref it)) Q E s := by
  obtain ⟨o, ho, hc, hd⟩ := id hit
  obtain ⟨ol, hol, _, nl, hdl⟩ := ht
  unfold pyNext
  refine wpAny_bind (wpAny_attempt (wpAny_callSpecial?_slot (name := Str.ofString "__next__") hit.typeIs slot_listiter_next (wpAny_call_entry slot_listiter_next hit.typeIs entry_listiter_next ?_ (args_listiter_next _))))
  show wpAny _ _ (field (.ref it) 0 >>= _) _ _ s
  refine wpAny_bind (wpAny_field ho hd (x := .ref t) rfl (PySem.W.KFB.if_not rfl ?_))
  show wpAny _ _ (field (.ref it) 1 >>= _) _ _ s
  refine wpAny_bind (wpAny_field ho hd (x := .int i 0) rfl ?_)
  show wpAny _ _ (seqItems? (.ref t) >>= _) _ _ s
  refine wpAny_bind (wpAny_seqItems hol hdl ?_)
  simp only [Int.toNat_natCast, hx]
  refine wpAny_bind (wpAny_rule (wpAny_bind (wpAny_setField ho hd (by simp) ?_)))
  show wpAny _ _ (newExc (.type "StopIteration") [] >>= _) _ _ _
  refine wpAny_bind ?_
  simp only [newExc, newTuple]
  refine wpAny_bind (wpAny_newObj_type ?_ (by size_fits))
  refine wpAny_bind (m := firstArgMember _ _) (wpAny_of_eq (a := Value.none) (by first | rfl | (simp only [firstArgMember]; rfl)) ?_)
  refine wpAny_newObj_type ?_ (by size_fits)
  simp only [raiseNew]
  refine wpAny_bind (wpAny_handled ?_)
  first | rw [show A.in1.handled = none from hh] | rw [hh]
  refine wpAny_bind (wpAny_pure (wpAny_throw ?_))
  refine wpAny_bind (wpAny_isInstance (T := "StopIteration") (b := true) ⟨_, Heap.get?_push_size _ rfl, rfl⟩ isSubtype_stop ?_)
  exact wpAny_pure (hQ _ (((Heap.SameBut.update ..).extBut.push _).push _) ⟨_, Heap.get?_push_of_some _ (Heap.get?_push_of_some _ (Heap.get?_update_self _ ho (Obj.isFreed_of_fields (Obj.data_mapFields hd _))))⟩)
def ItL (l it : Addr) (i : Nat) : HO := .ext fun h => h.IsListIter it l i
theorem itL_ok {P : Program} {w : World} {H : Hp} {h : Heap} {t it : Addr} {i : Nat} (e : h.IsListIter it t i) : ObjOk P w H h it (ItL t it i) := by
  obtain ⟨o, ho, r⟩ := id e
  exact ⟨e, ⟨_, ho⟩, fun g1 g2 q k => q.at fun o e => k o e⟩
section
variable {X : Cx} {pins : List (Addr × Obj)} {σ : L2.St} {H : Hp} {s : Shared}
theorem itL_get {t it : Addr} {i : Nat} (I : Inv X pins σ H s) (e : H it = some (ItL t it i)) : s.heap.IsListIter it t i := (I.hok it _ e).1
/-- the loop that fills the list at q -/
theorem loop_lst {A1 : Around} {Rs : Result → Shared → Prop} {q it t : Addr} {zs : List V} (hd : A1.in1.handled = none) (hne : q ≠ it) :
    ∀ (k i : Nat) (H : Hp) (s : Shared), zs.length - i = k → i ≤ zs.length → Inv X pins σ H s → H it = some (ItL t it i) → it ≠ t → q ≠ t → H t = some (.lst zs) → H q = some (.lst (zs.take i)) →
      (∀ s', Inv X pins σ (upd (upd H it (ItTE it)) q (.lst zs)) s' → Rs (.ok (.ret .none)) s') → codeAny (model X.prog X.w) A1 (.builtin "list.extend.loop" ⟨[.ref q, .ref it, .none], []⟩) Rs s := by
  intro k
  induction k with
  | zero =>
    intro i H s hk hi I hit nit nqt ht hq hR
    obtain ⟨its, rv, pl, hz⟩ := I.list (SqL.of ht)
    have hin : zs.length = its.length := rv.length
    have mu : Mut (H it) := by rw [hit]; exact True.intro
    refine codeAny_builtin PySem.F.entry_extend_loop ?_
    rw [Around.under_plainId PySem.F.plain_extend_loop _]
    show wpAny _ A1.in1 (pyNext (.ref it) >>= _) _ _ s
    have ei : i = zs.length := by omega
    refine wpAny_bind (next_lst_end hd (itL_get I hit) pl.isList (by rw [List.getElem?_toArray]; exact List.getElem?_eq_none (by omega)) fun h' eb ⟨o, ho⟩ => wpAny_pure ?_)
    have I2 : Inv X pins σ (upd H it (ItTE it)) { s with heap := h' } := I.write (x := it) (e := it) (t' := s.toks) mu (.inl rfl) (fun b o nb z => eb b o nb z) ⟨_, ho⟩ (itTE_ok ho)
    refine hR _ ?_
    have e : upd (upd H it (ItTE it)) q (.lst zs) = upd H it (ItTE it) := by
      funext b
      by_cases hb : b = q
      · rw [hb, upd_same, upd_ne hne, hq, ei, List.take_length]
      · rw [upd_ne hb]
    rw [e]
    exact I2
  | succ k ih =>
    intro i H s hk hi I hit nit nqt ht hq hR
    obtain ⟨its, rv, pl, hz⟩ := I.list (SqL.of ht)
    have hin : zs.length = its.length := rv.length
    have mu : Mut (H it) := by rw [hit]; exact True.intro
    have hlt : i < zs.length := by omega
    have hzi := List.getElem?_eq_getElem hlt
    obtain ⟨u, hu, ru⟩ := rv.get hzi
    refine codeAny_builtin PySem.F.entry_extend_loop ?_
    rw [Around.under_plainId PySem.F.plain_extend_loop _]
    show wpAny _ A1.in1 (pyNext (.ref it) >>= _) _ _ s
    refine wpAny_bind (wpAny_pyNext_list_item (itL_get I hit) pl.isList (by rw [List.getElem?_toArray]; exact hu) fun h' hit' sb => ?_)
    obtain ⟨o, ho, _⟩ := id hit'
    have I2 : Inv X pins σ (upd H it (ItL t it (i + 1))) { s with heap := h' } := I.write (x := it) (e := it) (t' := s.toks) mu (.inl rfl) (fun b o nb z => (sb.2 b nb).trans z) ⟨_, ho⟩ (itL_ok hit')
    have hq2 : upd H it (ItL t it (i + 1)) q = some (.lst (zs.take i)) := by rw [upd_ne hne]; exact hq
    show wpAny _ A1.in1 (updateSeq q (·.push u) >>= _) _ _ _
    obtain ⟨z, its2, c, r2, hl, e⟩ := I2.lstM hq2
    have l2 : its2.length ≤ 16777215 := by
      rw [← hl, List.length_take]
      have := hz
      rw [sizeLine_eq] at this
      omega
    refine wpAny_bind (wpAny_updateSeq e rfl (wpAny_pure ⟨plainId_quiet PySem.F.plain_extend_loop _, ?_⟩) (by rw [List.size_toArray, sizeLine_eq]; omega) (by show (its2.toArray.push u).size ≤ sizeLine + 1; rw [Array.size_push, List.size_toArray, sizeLine_eq]; omega))
    have I3 := I2.lset (f := (·.push u)) (its' := its2 ++ [u]) (ys := zs.take i ++ [zs[i]]) (t' := s.toks) hq2 e (by simp) (r2.append (.cons ru .nil)) (by rw [List.length_append, List.length_singleton, List.length_take, sizeLine_eq]; rw [sizeLine_eq] at hz; omega)
    refine ih (i + 1) _ _ (by omega) (by omega) I3 ?_ nit nqt ?_ ?_ fun s' I4 => hR s' ?_
    · rw [upd_ne (Ne.symm hne), upd_same]
    · rw [upd_ne (Ne.symm nqt), upd_ne (Ne.symm nit)]
      exact ht
    · rw [upd_same, take_snoc hzi]
    · have e4 : upd (upd (upd (upd H it (ItL t it (i + 1))) q (.lst (zs.take i ++ [zs[i]]))) it (ItTE it)) q (.lst zs) = upd (upd H it (ItTE it)) q (.lst zs) := by
        funext b
        by_cases hb : b = q
        · rw [hb, upd_same, upd_same]
        · rw [upd_ne hb, upd_ne hb]
          by_cases hb2 : b = it
          · rw [hb2, upd_same, upd_same]
          · rw [upd_ne hb2, upd_ne hb2, upd_ne hb, upd_ne hb2]
      rw [← e4]
      exact I4
def rListItL (C : Addr) (sp : Nat → Sp) (E : XK) : List V → Hp → VK → Prop := fun xs H Q => ∃ a dx fs, xs = [.ref a] ∧ H a = some (.ins C dx fs) ∧
  ∀ q n, H q = none → sp n [.ref a] (upd H q (.lst [])) (fun v H1 => ∃ (it t : Addr) (zs : List V), v = .ref it ∧ H1 it = some (ItO t it 0) ∧ it ≠ t ∧ q ≠ t ∧ H1 t = some (.lst zs) ∧ H1 q = some (.lst []) ∧ (∃ dx' fs', H1 a = some (.ins C dx' fs')) ∧ Q (.ref q) (upd (upd H1 it (ItTE it)) q (.lst zs))) E
theorem call_listItL {C f : Addr} {fd : FuncData} {ps : List Str} {sp : Nat → Sp} {E : XK} {n : Nat} {CX : CXT} (hs : PySem.W.findIn X.K (.ref C) "__iter__" = some (some (.ref f))) (hfn : PySem.W.isFn X.K (.ref f) = true) (n1 : PySem.W.findIn X.K (.ref C) "__len__" = some none) (n2 : PySem.W.findIn X.K (.ref C) "__length_hint__" = some none)
    (F : FnY X.prog X.w X.K X.mg X.base CX n f fd ps sp) (hb : Binds X.K fd ps []) (hx : Passes CX X E) (hr : Room (n + 2) X.A) : CallR X (.type "list") (rListItL C sp E) := by
  intro pins s σ H xs us Q I rv h
  obtain ⟨a, dx, fs, rfl, ha, hq⟩ := h
  obtain ⟨u, rfl, ru⟩ := rv.one
  cases ru
  have sb : Sub X n X.A.in1.in1 := (Sub.in1 (Sub.in1 (⟨hr, rfl⟩ : Sub X (n + 2) X.A)))
  refine callType_codes (Q₁ := fun obj s₁ => obj = .ref s.heap.objs.size ∧ s₁ = { s with heap := s.heap.push { cls := .type "list", data := .seq #[] } }) PySem.F.called_list (PySem.F.typeCall_list_1 _) PySem.F.entry_list_init
    (code_list_new _ ⟨rfl, rfl⟩) fun obj s₁ h₁ => ?_
  obtain ⟨rfl, rfl⟩ := h₁
  have hS : (s.heap.push { cls := .type "list", data := .seq #[] }).get? s.heap.objs.size = some { cls := .type "list", data := .seq #[] } := Heap.get?_push_size _ rfl
  refine ⟨⟨_, hS, rfl⟩, PySem.F.args_list_init_2 _ _, ?_⟩
  have fr : H s.heap.objs.size = none := I.hok.fresh (Nat.le_refl _)
  have hsp := fun n => hq _ n fr
  have I1 : Inv X pins σ (upd H s.heap.objs.size (.lst [])) { s with heap := s.heap.push { cls := .type "list", data := .seq #[] } } := I.lnew (its := []) (t' := s.toks) .nil (Nat.zero_le _)
  show wpAny _ _ (do let old ← Builtin.List.listItems (.ref s.heap.objs.size); Builtin.List.listUpdate (.ref s.heap.objs.size) (fun _ => #[]); letGo old.toList.reverse; Builtin.List.listExtendWith (.ref s.heap.objs.size) (.ref a) .none) _ _ _
  refine wpAny_bind ?_
  unfold Builtin.List.listItems
  refine wpAny_bind (wpAny_seqItems hS rfl (wpAny_pure ?_))
  show wpAny _ _ (updateSeq s.heap.objs.size (fun _ => #[]) >>= fun _ => letGo (#[] : Array Value).toList.reverse >>= fun _ => Builtin.List.listExtendWith (.ref s.heap.objs.size) (.ref a) .none) _ _ _
  refine wpAny_bind (wpAny_updateSeq hS rfl ?_)
  have I2 := I1.lset (f := fun _ => #[]) (its := []) (its' := []) (ys := []) (t' := s.toks) upd_same hS rfl .nil (Nat.zero_le _)
  rw [upd_upd] at I2
  refine wpAny_bind (wpAny_letGo ?_)
  have ha2 : upd H s.heap.objs.size (.lst []) a = some (.ins C dx fs) := by rw [upd_ne (ne_of_none ha fr)]; exact ha
  have hne : s.heap.objs.size ≠ a := Ne.symm (ne_of_none ha fr)
  generalize hH2 : upd H s.heap.objs.size (.lst []) = H2 at *
  generalize s.heap.objs.size = q at *
  obtain ⟨mA, J, _⟩ := ins_get I2.hok ha2
  obtain ⟨od, J, _⟩ := J.look
  obtain ⟨m0, hF⟩ := I2.fr
  unfold Builtin.List.listExtendWith
  refine wpAny_bind (J.type.here ?_)
  have h1 : Builtin.List.listSameRef (.ref q) (.ref a) = false := by simp [Builtin.List.listSameRef, hne]
  have h2 : (Value.ref C == Value.type "list") = false := rfl
  have h3 : (Value.ref C == Value.type "tuple") = false := rfl
  simp only [h1, h2, h3, Bool.or_false, Bool.false_eq_true, if_false]
  refine wpAny_bind (PySem.W.owit_iter hF I2.ok.mod.kin J hs hfn ?_)
  have e0 : ∀ {s : Shared} {H : Hp}, Inv X pins σ H s → Env0 X.prog X.w X.K X.mg X.base X.A.in1.in1 X.stack s H := fun {s H} I => by
    have e := I.env0
    exact ⟨by rw [sb.fr]; exact e.frames, e.mod, e.bs, e.bsz, e.funs, e.frf, e.hok, e.bare⟩
  have hl := F.len _ _ _ _ _ (hsp 0)
  have r2 : Vals [V.ref a] [Value.ref a] := .cons rfl .nil
  refine wpAny_call (codeAny_mono (F.run X.A.in1.in1 X.stack _ _ ⟨[.ref a], []⟩ [.ref a] [.ref a] _ E sb.room (e0 I2) (by
    have := hb _ [.ref a] I2.kIn (by simpa using hl)
    simpa using this) r2 (hsp _)) fun r s' hq' => ?_)
  cases r with
  | error e => exact hx pins σ _ _ e s' I2 hq'
  | ok fl =>
    cases fl with
    | next => exact False.elim hq'
    | brk => exact False.elim hq'
    | cont => exact False.elim hq'
    | ret u =>
      obtain ⟨v, H', I', rv, it, t, zs, ev, hit, nit, nqt, ht, hqq, ⟨dx', fs', ha'⟩, hQ⟩ := I2.after hq'
      subst ev
      cases rv
      have stt : ∀ s'', Inv X pins σ H' s'' → s''.heap.IsListIter it t 0 := fun s'' I'' => ⟨_, itO_get I'' hit, rfl, rfl⟩
      have hT : s'.TypeIs (.ref it) "list_iterator" := (stt s' I').typeIs
      have hqi : q ≠ it := fun z => by
        rw [z, hit] at hqq
        exact (nomatch hqq)
      show wpAny _ _ (specialOf (.ref it) "__next__") _ _ _
      refine wpAny_specialOf hT slot_listiter_next.lookup ?_
      obtain ⟨mA', J', _⟩ := ins_get I'.hok ha'
      obtain ⟨od', J', _⟩ := J'.look
      refine wpAny_bind (wpAny_holding (hint_own n1 n2 I'.kIn J' ?_))
      have go : ∀ s'', Inv X pins σ H' s'' → codeAny (model X.prog X.w) X.A.in1 (.builtin "list.extend.loop" ⟨[.ref q, .ref it, .none], []⟩) (wants (fun r s₂ => r = .none ∧ EP X pins σ Q (.ref q) s₂) X.xe) s'' := fun s'' I'' =>
by
        have mu : Mut (H' it) := by rw [hit]; exact True.intro
        obtain ⟨oi, ei, _⟩ := id (stt s'' I'')
        have I5 : Inv X pins σ (upd H' it (ItL t it 0)) s'' := I''.write (x := it) (e := it) (t' := s''.toks) mu (.inl rfl) (fun b o nb z => z) ⟨_, ei⟩ (itL_ok (stt s'' I''))
        refine loop_lst (t := t) (zs := zs) sb.room.hd hqi zs.length 0 _ s'' (by simp) (Nat.zero_le _) I5 upd_same nit nqt (by rw [upd_ne (Ne.symm nit)]; exact ht) (by rw [upd_ne hqi, hqq]; rfl) fun s3 I3 => ?_
        rw [upd_upd] at I3
        exact ⟨rfl, .ref q, _, I3, rfl, hQ⟩
      obtain ⟨z, its, k, r3, hl3, e3⟩ := I'.lstM hqq
      cases r3
      refine wpAny_ite_split (fun _ => ?_) (fun _ => wpAny_pure ⟨plainId_quiet PySem.F.plain_extend_loop _, go s' I'⟩)
      refine wpAny_bind (wpAny_rule ?_)
      refine wpAny_bind ?_
      show wpAny _ _ (updateSeq q (·.push .none) >>= fun _ => updateSeq q (·.pop)) _ _ _
      refine wpAny_bind (wpAny_updateSeq e3 rfl ?_)
      have I3 := I'.lset (f := (·.push Value.none)) (its' := [Value.none]) (ys := [.non]) (t' := s'.toks) hqq e3 (by simp) (.cons rfl .nil) (by rw [List.length_singleton, sizeLine_eq]; decide)
      obtain ⟨z4, its4, k4, r4, hl4, e4⟩ := I3.lstM upd_same
      obtain ⟨u4, rfl, ru4⟩ := r4.one
      refine wpAny_updateSeq e4 rfl ?_ (by show 1 ≤ sizeLine; rw [sizeLine_eq]; decide) (by show 0 ≤ sizeLine + 1; exact Nat.zero_le _)
      have I4 := I3.lset (f := (·.pop)) (its := [u4]) (its' := []) (ys := []) (t' := s'.toks) upd_same e4 (by rfl) .nil (Nat.zero_le _)
      rw [upd_upd] at I4
      have hH : upd H' q (.lst []) = H' := by
        funext b
        by_cases hb : b = q
        · rw [hb, upd_same, hqq]
        · rw [upd_ne hb]
      rw [hH] at I4
      exact wpAny_pure ⟨plainId_quiet PySem.F.plain_extend_loop _, go _ I4⟩
end
theorem u190 {k : Nat} {A : Around} (r : Room k A) : A.units + 190 < cLine := by have := r.un; omega
end XL
set_option Elab.async false
set_option linter.all false
set_option maxRecDepth 100000
set_option maxHeartbeats 4000000
/-! XFoc: o.f = v by an own property's setter; C(..) within a try; a call that raises within a def that lets it out; a written tuple. -/
namespace XL
open PySem PySem.Spec PyProof.Rows L2
structure PSet (K : PySem.W.Frag) (C : Addr) (f : Str) (p g : Addr) : Prop where
  tk : PySem.W.takerIn K C f = some (some (.ref p))
  ty : PySem.W.typeIn K (.ref p) = some (.type "property")
  rec_ : ∃ a rest, PySem.W.recIn K p "property" = some (a :: .ref g :: rest)
def sPSet (C : Addr) (sp : Sp) (E : XK) (ta tv : TE) : TS := fun D σ H => tv σ H fun y H1 => ta σ H1 fun x H2 => ∃ a dx fs, x = .ref a ∧ H2 a = some (.ins C dx fs) ∧ sp [.ref a, y] H2 (fun _ H3 => D.nx σ H3) E
section
variable {X : Cx} {CX : CXT} {k : Nat} {C p g : Addr} {f : Str} {fd : FuncData} {ps : List Str} {sp : Sp} {E : XK} {o value : Expr} {pos pos' : Pos} {ta tv : TE}
theorem Room.in2 {k : Nat} {A : Around} (r : Room (k + 2) A) : Room k A.in1.in1 := (Room.in1 (Room.in1 r))
/-- o.f = v, f a property with a setter -/
theorem ps_pset (ha : PE X o ta) (hv : PE X value tv) (c : Cls X.K C) (hp : PSet X.K C f p g) (F : FnOk X.prog X.w X.K X.mg X.base CX k g fd ps sp) (hr : Room (k + 2) X.A) (hb : Binds X.K fd ps []) (hx : Passes CX X E)
    (hs : swapsWith value (some (.Attribute o f pos')) pos.line X.env = pure false) : PS X (.Assign [.Attribute o f pos'] value pos) (sPSet C sp E ta tv) := by
  refine ⟨fun pins s σ H D I h => ?_⟩
  refine plainObj_wpAny_Assign_Attribute (thn (hv.run pins s σ H _ I h) fun u s1 ⟨y, H1, I1, ry, q⟩ => thn (ha.run pins s1 σ H1 _ I1 q) fun ov s2 ⟨x, H2, I2, rx, a, dx, fs, ex, ea, q2⟩ => ?_) hs
  subst ex
  obtain rfl : ov = Value.ref a := rx
  obtain ⟨mA, O, _, _, _, _⟩ := ins_get I2.hok ea
  obtain ⟨od, J, _⟩ := O.look
  obtain ⟨a0, rest, hrec⟩ := hp.rec_
  have I3 := I2.tok (s2.toks + 1)
  have hl : ([Value.ref a, u] : List Value).length = ps.length := by
    rw [← F.len _ _ _ _ q2]
    rfl
  refine PySem.W.set_plain I2.kIn J c.sa (PySem.W.osa_descr PySem.W.KF.slot_pset I3.kIn J c.po hp.tk hp.ty (PySem.W.prop_set I3.kIn hrec ?_))
  have b := hb { s2 with toks := s2.toks + 1 } [.ref a, u] I3.kIn (by rw [List.append_nil]; exact hl)
  rw [List.append_nil] at b
  refine codeAny_mono (F.run X.A.in1.in1 X.stack { s2 with toks := s2.toks + 1 } H2 ⟨[.ref a, u], []⟩ [.ref a, u] [.ref a, y] _ E (Room.in2 hr) I3.env0.in1.in1 b (.cons rfl (.cons ry .nil)) q2) fun r s' hq => ?_
  cases r with
  | error e => exact hx pins σ _ _ e s' I3 hq
  | ok fl =>
    cases fl with
    | ret u =>
      obtain ⟨v, H', I', rv, q3⟩ := I3.after hq
      exact ⟨σ, H', I', q3⟩
    | next => exact False.elim hq
    | brk => exact False.elim hq
    | cont => exact False.elim hq
end
/-- what leaves a def by its own promise -/
theorem passO {X : Cx} {E : XK} (tk : Takes X (fun cls d _ H => E cls d H)) : Passes (L2.CX X.prog X.w) X E := fun pins σ H s e s' I c => passes_call tk (fun _ _ _ _ h => h) pins σ H s e s' I c
section
variable {X : Cx} {CX : CXT} {k : Nat} {f C : Addr} {fd : FuncData} {ps : List Str} {ds : List Value} {dvs : List V} {sp : Sp} {E : L2.St → XK} {x : Str} {p pos : Pos} {e : Expr} {es : List Expr} {t : TA}
theorem run_makeT {pins : List (Addr × Obj)} {σ : L2.St} {H : Hp} {s : Shared} {Q : VK} {us : List Value} {vs : List V} (M : Mk X.K C f) (F : FnOk X.prog X.w X.K X.mg X.base CX k f fd ps sp) (hr : Room (k + 1) X.A) (hb : Binds X.K fd ps ds) (hd : Vals dvs ds)
    (hx : PassesAt CX X σ (E σ)) (I : Inv X pins σ H s) (r : Vals vs us)
    (h : ∀ x dx, H x = none → H dx = none → dx ≠ x → sp (.ref x :: (vs ++ dvs)) (upd (upd H dx (.own x)) x (.ins C dx [])) (fun v H2 => v = .non ∧ Q (.ref x) H2) (E σ)) :
    wpAny (model X.prog X.w) X.A (call (.ref C) us) (EP X pins σ Q) X.xe s := by
  have hq := h (s.heap.objs.size + 1) s.heap.objs.size (I.hok.fresh (Nat.le_succ _)) (I.hok.fresh (Nat.le_refl _)) (Nat.ne_of_lt (Nat.lt_succ_self _))
  have I2 := Inv.made (C := C) I
  have r2 : Vals (V.ref (s.heap.objs.size + 1) :: (vs ++ dvs)) (Value.ref (s.heap.objs.size + 1) :: (us ++ ds)) := .cons rfl (r.append hd)
  have hl : (Value.ref (s.heap.objs.size + 1) :: us ++ ds).length = ps.length := by
    have e := r2.length
    rw [F.len _ _ _ _ hq] at e
    exact e.symm
  refine wpAny_call (make_map (f := f) I.kIn M.makes M.init (beq_iff_eq.mp M.fn) (codeAny_mono (F.run _ X.stack _ _ ⟨Value.ref (s.heap.objs.size + 1) :: us, []⟩ (Value.ref (s.heap.objs.size + 1) :: (us ++ ds)) _ _ (E σ) (hr.make C us [])
    (I2.env0.make C us []) (hb _ (Value.ref (s.heap.objs.size + 1) :: us) I2.kIn hl) r2 hq) fun r s' hq' => ?_))
  cases r with
  | error e => exact hx pins _ _ e s' I2 hq'
  | ok fl =>
    cases fl with
    | ret u =>
      obtain ⟨v, H', I3, rv, ev, q3⟩ := I2.after hq'
      subst ev
      exact ⟨rv, ⟨V.ref (s.heap.objs.size + 1), H', I3, rfl, q3⟩⟩
    | next => exact False.elim hq'
    | brk => exact False.elim hq'
    | cont => exact False.elim hq'
def tMakeT (C : Addr) (sp : Sp) (dvs : List V) (E : L2.St → XK) (t : TA) : TE := fun σ H Q => t σ H fun vs H1 => ∀ x dx, H1 x = none → H1 dx = none → dx ≠ x → sp (.ref x :: (vs ++ dvs)) (upd (upd H1 dx (.own x)) x (.ins C dx [])) (fun v H2 => v = .non ∧ Q (.ref x) H2) (E σ)
/-- C(e, ..) within a try -/
theorem pe_makeT (M : Mk X.K C f) (F : FnOk X.prog X.w X.K X.mg X.base CX k f fd ps sp) (hr : Room (k + 1) X.A) (hg : Gl X x) (hm : X.mg x = some (.ref C)) (hb : Binds X.K fd ps ds) (hd : Vals dvs ds) (hx : ∀ σ, PassesAt CX X σ (E σ))
    (ha : PA X (e :: es) t) (hdb : (x == ("__debug__" : Str)) = false := by decide) (he : starEach (e :: es) X.env = (false, eval e X.env) :: starEach es X.env := by rfl) (hpl : (backTo pos (starEach es X.env)).any (·.1) = false := by rfl) :
    PE X (.Call (.Name x p) (e :: es) [] pos) (tMakeT C sp dvs E t) := by
  refine ⟨fun pins s σ H Q I h => ?_⟩
  refine wpAny_Call_Name_kw (ld_glob I hg hm ?_ hdb)
  refine PySem.W.callWith_K (h₀ := X.base) I.ok.mod.kin M.kp (thn (ha.run pos pins s σ H _ I h) fun us s1 ⟨vs, H1, I1, r, q⟩ => ⟨I1.kIn, ?_⟩) he hpl
  exact run_makeT M F hr hb hd (hx σ) I1 r q
end
/-- the calls of a def with one default: with and without it -/
structure Dfl1 (K : PySem.W.Frag) (fd : FuncData) (ps : List Str) (dv : V) : Prop where
  all : Binds K fd ps []
  one : ∃ ds, Vals [dv] ds ∧ Binds K fd ps ds
end XL
namespace XL
open PySem PySem.Spec PyProof.Rows L2
section
variable {X : Cx} {pos : Pos}
theorem pg_unlK (K : PySem.W.Frag) (n : Nat) {es : List Expr} {k : Nat} {t : TGs} (h : PGs X es t) (hc : X.calm = true := by rfl) (hK : X.K = K := by rfl)
    (hn : (assignEach es X.env).length = n := by rfl) (hst : (assignEach es X.env).findIdx? (·.1) = none := by rfl) : PG X (.Tuple es k pos) (gUnl K n t) := hK ▸ pg_unl hc h hn hst
theorem mt_indexK (K : PySem.W.Frag) (hK : X.K = K := by rfl) : MtR X "list.index" (rIndex K) := hK ▸ mt_index
end
end XL
set_option Elab.async false
set_option linter.all false
set_option maxRecDepth 100000
set_option maxHeartbeats 4000000
/-! XDel: del xs[a:]. -/
namespace XL
open PySem PySem.Spec PyProof.Rows L2
section
variable {prog : Program} {w : World} {A : Around} {E : Value → Shared → Prop} {s : Shared}
def selF (a n : Int) (i : Nat) : Bool := if (1 : Int) > 0 then a ≤ i && i < n && ((i : Int) - a) % 1 == 0 else n < i && i ≤ a && (a - i) % (-1) == 0
theorem selF_eq (a n i : Nat) : selF (a : Int) (n : Int) i = (decide (a ≤ i) && decide (i < n)) := by
  unfold selF
  rw [if_pos (by decide)]
  have h : (((i : Int) - (a : Int)) % 1 == 0) = true := by rw [Int.emod_one]; rfl
  rw [h, Bool.and_true]
  congr 1
  · exact decide_eq_decide.mpr Int.ofNat_le
  · exact decide_eq_decide.mpr Int.ofNat_lt
theorem zip_keep : ∀ (xs : List Value) (j a n : Nat), j + xs.length ≤ n → ((xs.zipIdx j).filterMap fun (p : Value × Nat) => if (selF (a : Int) (n : Int) p.2) = true then none else some p.1) = xs.take (a - j)
  | [], _, _, _, _ => by simp
  | x :: r, j, a, n, h => by
    rw [List.length_cons] at h
    rw [List.zipIdx_cons, List.filterMap_cons, selF_eq]
    have ih := zip_keep r (j + 1) a n (by omega)
    by_cases hj : a ≤ j
    · have e1 : (decide (a ≤ j) && decide (j < n)) = true := by rw [decide_eq_true hj, decide_eq_true (by omega)]; rfl
      have e0 : a - j = 0 := by omega
      have e2 : a - (j + 1) = 0 := by omega
      rw [e2, List.take_zero] at ih
      rw [e0, List.take_zero]
      simp only [e1, if_true]
      exact ih
    · have e1 : (decide (a ≤ j) && decide (j < n)) = false := by rw [decide_eq_false hj]; rfl
      have e0 : a - j = a - (j + 1) + 1 := by omega
      rw [e0, List.take_succ_cons, ← ih]
      simp only [e1, Bool.false_eq_true, if_false]
theorem bounds_from {a n : Nat} (h : a ≤ n) : sliceBounds (some (a : Int)) none none n = ((a : Int), (n : Int), 1) := by
  simp only [sliceBounds, Option.getD_none]
  have h1 : ¬ ((a : Int) < 0) := by omega
  simp only [h1, if_false, show (1 : Int) > 0 by decide, if_true]
  congr 1
  omega
/-- list.__delitem__ with a slice from a place on -/
theorem delItem_from {l sl : Addr} {items : Array Value} {n : Nat} {vl : Value} {a : Nat} {Q : Unit → Shared → Prop}
    (e : s.heap.get? l = some { cls := .type "list", data := .seq items n }) (hs : s.heap.IsSliceOf sl vl .none .none) (pl : IsPart vl (some (a : Int))) (hac : a ≤ items.size) (hsz : items.size ≤ sizeLine)
    (h : Q () { s with heap := s.heap.update l (Obj.mapSeq fun xs => (xs.toList.zipIdx.filterMap fun (p : Value × Nat) => if (selF (a : Int) (items.size : Int) p.2) = true then none else some p.1).toArray) }) :
    wpAny (model prog w) A (delItem (.ref l) (.ref sl)) Q E s := by
  have hl : s.heap.IsList l items := PySem.IsL.isList e
  obtain ⟨os, hos, hcs, hds⟩ := id hs
  have hTs : s.TypeIs (.ref sl) "slice" := ⟨os, hos, hcs⟩
  have hstep : ¬ ((rawPart none == rawInt 0) = true) := Bool.false_ne_true
  have hz' : ((fun xs : Array Value => (xs.toList.zipIdx.filterMap fun (p : Value × Nat) => if (selF (a : Int) (items.size : Int) p.2) = true then none else some p.1).toArray) items).size ≤ sizeLine + 1 := by
    show (_ : List Value).toArray.size ≤ _
    rw [List.size_toArray, zip_keep items.toList 0 a items.size (by rw [Array.length_toList]; omega), List.length_take, Array.length_toList]
    omega
  unfold delItem
  try with_reducible refine wpAny_holding ?_
  first | refine wpAny_bind (wpAny_pure ?_) | skip
  refine wpAny_bind (wpAny_sequenceKey hl.typeIs (by decide) ?_)
  refine wpAny_bind (wpAny_callSpecial?_slot (name := Str.ofString "__delitem__") hl.typeIs PySem.F.slot_list_delitem
    (wpAny_call_entry PySem.F.slot_list_delitem hl.typeIs PySem.F.entry_list_delitem ?_ (PySem.F.args_list_delitem_2 _ _)))
  show wpAny _ _ (Builtin.List.listSubscript? (.ref sl) >>= _) _ _ s
  refine wpAny_bind ?_
  unfold Builtin.List.listSubscript?
  refine wpAny_bind (wpAny_specialOf hTs slice_no_index ?_)
  simp only [Option.isNone_none, if_true]
  refine wpAny_pure ?_
  show wpAny _ _ (typeOf (.ref sl) >>= _) _ _ s
  refine wpAny_bind (wpAny_typeOf hTs ?_)
  first
    | rw [if_neg (by decide)]
    | refine PySem.W.KFB.if_not (by decide) ?_
  rw [listSliceParts_eq]
  refine wpAny_bind (wpAny_bind (wpAny_field hos hds (x := .none) rfl (wpAny_bind (wpAny_listPart .none ?_))))
  rw [if_neg hstep]
  refine wpAny_bind (wpAny_field hos hds (x := vl) rfl (wpAny_bind (wpAny_listPart pl ?_)))
  refine wpAny_bind (wpAny_field hos hds (x := .none) rfl (wpAny_bind (wpAny_listPart .none (wpAny_pure ?_))))
  unfold Builtin.List.listItems
  refine wpAny_bind (wpAny_bind (wpAny_seqItems e rfl (wpAny_pure ?_)))
  refine wpAny_bind (wpAny_of_eq ((sliceIndices_raw (some (a : Int)) none none items.size (by simp)).trans (congrArg (pure : Int × Int × Int → Sem (Int × Int × Int)) (bounds_from hac))) ?_)
  refine wpAny_bind (wpAny_rule ?_)
  show wpAny _ _ (updateSeq l (fun xs => (xs.toList.zipIdx.filterMap fun (p : Value × Nat) => if (selF (a : Int) (items.size : Int) p.2) = true then none else some p.1).toArray) >>= _) _ _ s
  refine wpAny_bind (wpAny_updateSeq (hz := hsz) (_hz' := hz') e rfl ?_)
  refine wpAny_bind (wpAny_letGo ?_)
  first
    | exact wpAny_bind (wpAny_pure (wpAny_pure ⟨.none, rfl, wpAny_pure h⟩))
    | exact wpAny_pure ⟨.none, rfl, wpAny_pure h⟩
end
section
variable {X : Cx} {pos : Pos}
def tDelF (to ti : TE) : TS := fun D σ H => to σ H fun x H1 => ti σ H1 fun y H2 => ∃ (l : Addr) (xs : List V) (k : Nat), x = .ref l ∧ y = .int (k : Nat) ∧ H2 l = some (.lst xs) ∧ k ≤ xs.length ∧ D.nx σ (upd H2 l (.lst (xs.take k)))
theorem ps_delFrom {o lo : Expr} {to ti : TE} {p2 tpos : Pos} (ho : PE X o to) (hi : PE X lo ti) : PS X (.Delete [.Subscript o (.Slice (some lo) none none p2) tpos] pos) (tDelF to ti) := by
  refine ⟨fun pins s σ H D I h => ?_⟩
  refine wpAny_Delete (wpAny_deleteEach_cons (wpAny_delete_Subscript (thn (ho.run pins s σ H _ I h) fun u s1 ⟨x, H1, I1, rx, q1⟩ => ?_)))
  refine wpAny_Slice (wpAny_evalPart_some (thn (hi.run pins s1 σ H1 _ I1 q1) fun iv s2 ⟨y, H2, I2, ry, q2⟩ => wpAny_evalPart_none (wpAny_evalPart_none ?_)))
  obtain ⟨l, xs, k, rfl, rfl, hH, hk, q2⟩ := q2
  cases (show u = Value.ref l from rx)
  obtain ⟨t, rfl⟩ := (show ∃ t, iv = Value.int (k : Nat) t from ry)
  have I4 : L2.Inv X pins σ H2 { s2 with heap := s2.heap.push { cls := .type "slice", data := .fields #[.int (k : Nat) t, .none, .none] } } := I2.kept (t' := s2.toks) fun b ob q => Heap.get?_push_of_some _ q
  obtain ⟨z, its, n, r, hl, e⟩ := I4.lstM hH
  refine delItem_from (a := k) e (Heap.IsSliceOf.new ..) (.int _ _) (by rw [List.size_toArray, ← hl]; exact hk) (by rw [List.size_toArray]; omega) ?_
  refine wpAny_deleteEach_nil ⟨σ, _, I4.lset (its' := its.take k) (t' := s2.toks) hH e ?_ (r.take k) ?_, q2⟩
  · show (_ : List Value).toArray = _
    rw [zip_keep its 0 k _ (by rw [List.size_toArray]; omega)]
    rfl
  · rw [List.length_take]
    omega
end
theorem Sep.setAt {G H : Hp} {M : List (Addr × HO)} {i : Nat} {a : Addr} {o o' : HO} (S : Sep G M H) (h : M[i]? = some (a, o)) : Sep G (M.set i (a, o')) (upd H a o') := by
  have hi := (List.getElem?_eq_some_iff.mp h).1
  have S1 := S.perm (perm_erase h).symm
  have S2 := S1.set (o' := o')
  have e : (M.set i (a, o'))[i]? = some (a, o') := List.getElem?_set_self hi
  have p := perm_erase e
  rw [List.eraseIdx_set_eq] at p
  exact S2.perm p
end XL
namespace XL
open PySem PySem.Spec PyProof.Rows L2
/-! ### a text, several times -/
def repS (x : Str) (k : Nat) : Str := ⟨(List.replicate k x.cps).foldl (· ++ ·) #[]⟩
theorem foldl_cps : ∀ (k : Nat) (a : Array Nat) (x : Array Nat), ((List.replicate k x).foldl (· ++ ·) a).toList = a.toList ++ (List.replicate k x.toList).flatten
  | 0, a, x => by simp
  | k + 1, a, x => by
    rw [List.replicate_succ, List.foldl_cons, foldl_cps k, List.replicate_succ, List.flatten_cons]
    simp
theorem repS_tl (x : Str) (k : Nat) : (repS x k).cps.toList = (List.replicate k x.cps.toList).flatten := by
  have := foldl_cps k #[] x.cps
  simpa [repS] using this
theorem repS_len (x : Str) : ∀ k : Nat, (repS x k).length = k * x.length := by
  intro k
  rw [len_tl, repS_tl]
  induction k with
  | zero => simp
  | succ k ih =>
    rw [List.replicate_succ, List.flatten_cons, List.length_append, ih, ← len_tl, Nat.succ_mul]
    omega
theorem repS_mem {x : Str} {k c : Nat} (h : c ∈ (repS x k).cps.toList) : c ∈ x.cps.toList := by
  rw [repS_tl] at h
  obtain ⟨l, hl, hc⟩ := List.mem_flatten.mp h
  rw [(List.mem_replicate.mp hl).2] at hc
  exact hc
def yMulS : R2 := fun x y H Q => match x, y with
  | .str z, .int k => 2 ≤ k ∧ k ≤ 1000 ∧ 1 ≤ z.length ∧ z.length ≤ 1000 ∧ Q (.str (repS z k.toNat)) H
  | _, _ => False
theorem op_mulS {X : Cx} : OpR X (binaryOp .Mult) yMulS := by
  intro pins s σ H x y v u Q I rx ry h
  unfold yMulS at h
  split at h
  · rename_i z k
    obtain ⟨h1, h2, h3, h4, q⟩ := h
    obtain ⟨t, rfl⟩ := rx
    obtain ⟨t', rfl⟩ := ry
    have hk : ¬ k < 1 := by omega
    have hc : (k == 1 || z.length == 0) = false := by
      rw [Bool.or_eq_false_iff]
      exact ⟨beq_eq_false_iff_ne.mpr (by omega), beq_eq_false_iff_ne.mpr (by omega)⟩
    have hl : z.length * k.toNat ≤ 1000 * 1000 := Nat.mul_le_mul h4 (by omega)
    refine P.mul_str (by rw [decide_eq_false (by omega), decide_eq_false (by omega)]; rfl) (fun _ _ h => ?_) (fun _ _ => ?_) ?_
    · have : (z.length : Int) ≤ (2 ^ 63 - 1) / k := by
        rw [Int.le_ediv_iff_mul_le (by omega)]
        have e : (z.length : Int) * k = ((z.length * k.toNat : Nat) : Int) := by rw [Int.natCast_mul, Int.toNat_of_nonneg (by omega)]
        rw [e]
        omega
      omega
    · unfold Builtin.Str.tooLong
      exact decide_eq_false (by rw [sizeLine_eq]; omega)
    · rw [if_neg hk, if_neg (by rw [hc]; decide)]
      refine ⟨?_, .str (repS z k.toNat), H, I.tok _, ⟨_, rfl⟩, q⟩
      show (repS z k.toNat).length ≤ sizeLine
      rw [repS_len, sizeLine_eq, Nat.mul_comm]
      omega
  · exact h.elim
end XL
set_option Elab.async false
set_option linter.all false
set_option maxRecDepth 100000
set_option maxHeartbeats 4000000
/-! XPage: x in o by an own __contains__. -/
namespace XL
open PySem PySem.Spec PyProof.Rows L2
section
variable {X : Cx} {CX : CXT} {C f : Addr} {fd : FuncData} {ps : List Str} {sp : Sp} {E : XK} {n : Nat}
def yInO (C : Addr) (sp : Sp) (E : XK) (ng : Bool) : R2 := fun x y H Q => ∃ a dx fs, y = .ref a ∧ H a = some (.ins C dx fs) ∧ sp [.ref a, x] H (fun v H' => match v with
  | .bl b => Q (.bl (if ng = true then !b else b)) H'
  | _ => False) E
theorem op_inO (F : FnOk X.prog X.w X.K X.mg X.base CX n f fd ps sp) (hs : PySem.W.findIn X.K (.ref C) "__contains__" = some (some (.ref f))) (hf : PySem.W.isFn X.K (.ref f) = true) (hb : Binds X.K fd ps []) (hx : Passes CX X E) (hr : Room n X.A) : OpR X (compareOp .In) (yInO C sp E false) := by
  intro pins s σ H x y u v Q I rx ry h
  obtain ⟨a, dx, fs, rfl, ha, hsp⟩ := h
  cases ry
  obtain ⟨mA, J1, _⟩ := ins_get I.hok ha
  obtain ⟨od, J1, _⟩ := J1.look
  obtain ⟨m, hF⟩ := I.fr
  refine PySem.W.in_K hF I.ok.mod.kin J1 hs hf (wpAny_mono (run_fn (us := [.ref a, u]) (vs := [.ref a, x]) (dvs := []) F hr hb .nil hx I (.cons rfl (.cons rx .nil)) hsp) (fun r s' q => ?_) fun _ _ e => e)
  obtain ⟨z, H', I', rz, q⟩ := q
  cases z with
  | bl b =>
    cases rz
    exact wpAny_truthy_bool ⟨.bl b, H', I', rfl, q⟩
  | _ => exact q.elim
theorem op_ninO (F : FnOk X.prog X.w X.K X.mg X.base CX n f fd ps sp) (hs : PySem.W.findIn X.K (.ref C) "__contains__" = some (some (.ref f))) (hf : PySem.W.isFn X.K (.ref f) = true) (hb : Binds X.K fd ps []) (hx : Passes CX X E) (hr : Room n X.A) : OpR X (compareOp .NotIn) (yInO C sp E true) := by
  intro pins s σ H x y u v Q I rx ry h
  obtain ⟨a, dx, fs, rfl, ha, hsp⟩ := h
  cases ry
  obtain ⟨mA, J1, _⟩ := ins_get I.hok ha
  obtain ⟨od, J1, _⟩ := J1.look
  obtain ⟨m, hF⟩ := I.fr
  refine PySem.W.notIn_K hF I.ok.mod.kin J1 hs hf (wpAny_mono (run_fn (us := [.ref a, u]) (vs := [.ref a, x]) (dvs := []) F hr hb .nil hx I (.cons rfl (.cons rx .nil)) hsp) (fun r s' q => ?_) fun _ _ e => e)
  obtain ⟨z, H', I', rz, q⟩ := q
  cases z with
  | bl b =>
    cases rz
    exact wpAny_truthy_bool ⟨.bl (!b), H', I', rfl, q⟩
  | _ => exact q.elim
end
theorem _root_.L2.Room.u190 {k : Nat} {A : Around} (r : L2.Room k A) : A.units + 190 < cLine := by have := r.un; omega
/-! ### == and != of data of up to 190 levels, and of plain values -/
def rNeL (K : PySem.W.Frag) : R2 := fun x y H Q => ∃ d e, Dp K H x d ∧ Dp K H y e ∧ d.canLay0 = true ∧ e.canLay0 = true ∧ d.depth ≤ 190 ∧ Q (.bl (!PyData.eqv d e)) H
theorem op_neL {X : Cx} (K : PySem.W.Frag) (hu : X.A.units + 190 < cLine) (hK : X.K = K := by rfl) : OpR X (compareOp .NotEq) (rNeL K) := by
  subst hK
  intro pins s σ H x y v u Q I rx ry h
  obtain ⟨d, e, hd, he, sd, se, dp, q⟩ := h
  obtain ⟨as, r1⟩ := Dp.reads I d x v hd rx
  obtain ⟨bs, r2⟩ := Dp.reads I e y u he ry
  exact SeqAt.compareNe_reads r1 r2 sd se (by have := Nat.min_le_left d.depth e.depth; omega) ⟨.bl _, H, I, rfl, q⟩
def yEqL (K : PySem.W.Frag) : R2 := fun x y H Q => match x, y with
  | .int i, .int j => Q (.bl (decide (i = j))) H
  | .str i, .str j => Q (.bl (decide (i = j))) H
  | .bl i, .bl j => Q (.bl (decide (i = j))) H
  | .ref a, .ref b => rEqL K (.ref a) (.ref b) H Q
  | x, y => scal x y = true ∧ Q (.bl (decide (x = y))) H
def yNeL (K : PySem.W.Frag) : R2 := fun x y H Q => match x, y with
  | .int i, .int j => Q (.bl (!decide (i = j))) H
  | .str i, .str j => Q (.bl (!decide (i = j))) H
  | .bl i, .bl j => Q (.bl (!decide (i = j))) H
  | .ref a, .ref b => rNeL K (.ref a) (.ref b) H Q
  | x, y => scal x y = true ∧ Q (.bl (!decide (x = y))) H
theorem op_eqLK {X : Cx} (K : PySem.W.Frag) (hu : X.A.units + 190 < cLine) (hK : X.K = K := by rfl) : OpR X (compareOp .Eq) (yEqL K) := by
  refine or_str (OpR.or (op_eq (X := X)) (op_eqL K hu hK)) fun x y H Q h => ?_
  unfold yEqL at h
  split at h
  · exact .inl ⟨rfl, by rw [deci]; exact h⟩
  · exact .inl ⟨rfl, by rw [decs]; exact h⟩
  · exact .inl ⟨rfl, by rw [decb]; exact h⟩
  · exact .inr h
  · exact .inl h
theorem op_neLK {X : Cx} (K : PySem.W.Frag) (hu : X.A.units + 190 < cLine) (hK : X.K = K := by rfl) : OpR X (compareOp .NotEq) (yNeL K) := by
  refine or_str (OpR.or (op_ne (X := X)) (op_neL K hu hK)) fun x y H Q h => ?_
  unfold yNeL at h
  split at h
  · exact .inl ⟨rfl, by rw [deci]; exact h⟩
  · exact .inl ⟨rfl, by rw [decs]; exact h⟩
  · exact .inl ⟨rfl, by rw [decb]; exact h⟩
  · exact .inr h
  · exact .inl h
end XL
set_option Elab.async false
set_option linter.all false
set_option maxRecDepth 100000
set_option maxHeartbeats 4000000
/-! XCnt: xs.count(x) of data. -/
namespace XL
open PySem PySem.Spec PyProof.Rows L2
theorem _root_.L2.Room.u65 {k : Nat} {A : Around} (r : L2.Room k A) : A.units + 65 < cLine := by have := r.un; omega
def rCntD (K : PySem.W.Frag) : V → List V → Hp → VK → Prop := fun x xs H Q => ∃ (a : Addr) (y : V) (ys : List V) (d : PyData) (ds : List PyData), x = V.ref a ∧ xs = [y] ∧ SqL K H a ys ∧ DpAll K H ys ds ∧ Dp K H y d ∧
  PyData.canLayAll0 ds = true ∧ SeqAt.shaped d = true ∧ Q (.int ((ds.countP fun z => PyData.eqv z d : Nat) : Int)) H
theorem mt_countD {X : Cx} (K : PySem.W.Frag) (hu : X.A.units + 65 < cLine) (h : X.K = K := by rfl) : MtR X "list.count" (rCntD K) := by
  subst h
  intro pins s σ H x xs v us Q I rx rxs h
  obtain ⟨a, y, ys, d, ds, rfl, rfl, hs, ha, hy, hxs, sd, q⟩ := h
  cases rx
  cases rxs with
  | cons ry rt =>
    rename_i uy ut
    cases rt
    obtain ⟨bs, r1⟩ := Dp.reads I d y uy hy ry
    have hroom : X.A.units + 1 + min (PyData.depthAll ds) d.depth < cLine := room_in_shaped sd hu
    obtain ⟨its, rv, ⟨⟨cls, dd, data, sl⟩, n, ho, hc, hdn, hd⟩, hlen⟩ := I.list hs
    simp only at hc hd
    subst hc hd
    obtain ⟨as, h4⟩ := Dp.readsAll I ds _ its ha rv
    have hmap : its.map (SeqAt.readOf s.heap) = ds := SeqAt.readsAll_map ds its as hxs h4
    refine call_meets PySem.F.slot_list_count ⟨_, ho, rfl⟩ PySem.F.entry_list_count (PySem.F.args_list_count_2 _ _)
      (SeqAt.list_countAt a its.toArray n dd sl uy (fun u => PyData.eqv (SeqAt.readOf s.heap u) d)) ⟨ho, SeqAt.items_eqAt (vs := its.toArray) (show ReadsAll s.heap its.toArray.toList ds as from h4) r1 hxs (SeqAt.canLay_of_shaped sd) hroom, ?_⟩
    have ec : its.toArray.toList.countP (fun u => PyData.eqv (SeqAt.readOf s.heap u) d) = ds.countP fun z => PyData.eqv z d := by
      rw [← hmap, List.countP_map]
      rfl
    refine ⟨.int ((ds.countP fun z => PyData.eqv z d : Nat) : Int), H, I.tok _, ⟨s.toks, ?_⟩, q⟩
    show Value.int ((its.toArray.toList.countP (fun u => PyData.eqv (SeqAt.readOf s.heap u) d) : Nat) : Int) s.toks = Value.int ((ds.countP fun z => PyData.eqv z d : Nat) : Int) s.toks
    rw [ec]
end XL
set_option Elab.async false
set_option linter.all false
set_option maxRecDepth 100000
set_option maxHeartbeats 4000000
/-! XIn: x in l, l a list, items data of up to 185 levels. -/
namespace XL
open PySem PySem.Spec PyProof.Rows L2
def rInL (K : PySem.W.Frag) : R2 := fun x y H Q => ∃ d ds, Dp K H x d ∧ Dp K H y (.list ds) ∧ d.canLay0 = true ∧ d.depth ≤ 185 ∧ PyData.canLayAll0 ds = true ∧ Q (.bl (ds.any fun z => PyData.eqv z d)) H
theorem in_deepLK {X : Cx} (K : PySem.W.Frag) (hu : X.A.units + 190 < cLine) (h : X.K = K := by rfl) : OpR X (compareOp .In) (rInL K) := by
  subst h
  intro pins s σ H x y v u Q I rx ry h
  obtain ⟨d, ds, hd, he, sd, dp, se, q⟩ := h
  obtain ⟨as, r1⟩ := Dp.reads I d x v hd rx
  obtain ⟨bs, r2⟩ := Dp.reads I (.list ds) y u he ry
  exact SeqAt.in_list_reads r2 r1 se sd (by have := Nat.min_le_right (PyData.depthAll ds) d.depth; omega) ⟨.bl _, H, I, rfl, q⟩
end XL
set_option Elab.async false
set_option linter.all false
set_option maxRecDepth 100000
set_option maxHeartbeats 4000000
/-! XPat: tuples that are put together and cut. -/
namespace XL
open PySem PySem.Spec PyProof.Rows L2
section
variable {K : PySem.W.Frag} {G H : Hp} {M : List (Addr × HO)} {a b : Addr} {xs ys : List V} {Q : VK}
theorem op_catAK {X : Cx} (K : PySem.W.Frag) (h : X.K = K := by rfl) : OpR X (binaryOp .Add) (rCatA K) := h ▸ op_catA
theorem cat_ok (S : Sep G M H) (ha : SqT K G a xs) (hb : SqT K G b ys) (hl : xs.length + ys.length ≤ sizeLine) (q : ∀ c G' H', Same G G' → SqT K G' c (xs ++ ys) → Sep G' M H' → Q (.ref c) H') : rCatA K (.ref a) (.ref b) H Q := by
  refine ⟨a, b, xs, ys, rfl, rfl, S.t ha, S.t hb, hl, fun e => ?_, fun _ e => ?_, fun _ _ p np => ?_⟩
  · subst e
    exact q b G H (Same.refl G) hb S
  · subst e
    exact q a G H (Same.refl G) (by rw [List.append_nil]; exact ha) S
  · exact q p _ _ (S.grow np) (SqT.of upd_same) (S.newG np)
theorem cutA_ok {lo hi : Option Int} (S : Sep G M H) (ha : SqT K G a xs) (q : ∀ c G' H', Same G G' → SqT K G' c (cutV xs lo hi) → Sep G' M H' → Q (.ref c) H') : rSlA K (.ref a) lo hi H Q := by
  refine ⟨a, xs, rfl, S.t ha, fun e => ?_, fun _ p np => ?_⟩
  · refine q a G H (Same.refl G) ?_ S
    have : cutV xs lo hi = xs := by
      unfold cutV
      rw [e.1, e.2, Nat.sub_zero, List.drop_zero, List.take_length]
    rw [this]
    exact ha
  · exact q p _ _ (S.grow np) (SqT.of upd_same) (S.newG np)
end
theorem sqT_ty {K : PySem.W.Frag} {H : Hp} {a : Addr} {xs : List V} (h : SqT K H a xs) : TyX K H (.ref a) (.type "tuple") := by
  rcases h with (h | ⟨o, h⟩) | ⟨o, _, _, h, c, _⟩
  · exact .base (.tup h)
  · exact .fTuple h
  · exact .kTuple h c
end XL
set_option Elab.async false
set_option linter.all false
set_option maxRecDepth 100000
set_option maxHeartbeats 4000000
/-! XArith: -x and x + y by own methods, x != y by an own __eq__ alone. -/
namespace PySem.W
open PyProof.Rows
section
variable {prog : Program} {w : World} {M : Model} {A : Around} {E : Value → Shared → Prop} {s : Shared} {K : Frag} {x C L f : Addr} {h₀ : Heap} {m : Str → Option Value} {ox : Obj} {od : Option Obj} {b : Value}
def firstIn (K : Frag) (C : Addr) : Bool := match clsIn K C with
  | some cd => (match cd.mro with | .ref D :: _ => D == C | _ => false)
  | none => false
theorem firstIn_self {K : Frag} {C : Addr} (h : selfFirst K C = true) : firstIn K C = true := by
  unfold selfFirst at h
  unfold firstIn
  cases e : clsIn K C with
  | none => rw [e] at h; cases h
  | some cd =>
    rw [e] at h
    have h2 : (cd.mro.head? == some (Value.ref C)) = true := h
    show (match cd.mro with | .ref D :: _ => D == C | _ => false) = true
    cases e2 : cd.mro with
    | nil => rw [e2] at h2; cases h2
    | cons v r =>
      rw [e2] at h2
      have h3 : some v = some (Value.ref C) := eq_of_beq h2
      cases h3
      exact beq_self_eq_true C
theorem fills_own {nm : String} {Q : Bool → Shared → Prop} (X : K.In s.heap) (hm : firstIn K C = true) (hs : findIn K (.ref C) (PySem.dunder nm) = some (some (.ref f))) (q : Q true s) : wpAny M A (fillsNumberSlot (.ref C) nm) Q E s := by
  unfold firstIn at hm
  split at hm
  · rename_i cd hc
    split at hm
    · rename_i D r hr
      have e : D = C := by simpa using hm
      subst e
      have LM : Looks M s.heap (mroOf (.ref D)) cd.mro := (looks_clsIn X hc).andThen .now
      unfold fillsNumberSlot
      refine wpAny_bind (LM.here ?_)
      rw [hr]
      unfold List.anyM
      refine wpAny_bind ?_
      unfold List.anyM
      refine wpAny_bind (wpAny_bind ((looks_findIn X hs).here ?_))
      simp only [ownNameWrapper]
      exact wpAny_pure (wpAny_pure (wpAny_pure q))
    · cases hm
  · cases hm
theorem special_own {name : Str} {args : List Value} {Q : Option Value → Shared → Prop} (X : K.In s.heap) (I : InstAt s.heap x ox C od) (hs : findIn K (.ref C) name = some (some (.ref f))) (hf : isFn K (.ref f) = true)
    (h : wpAny M A (call (.ref f) (.ref x :: args)) (fun v => Q (some v)) E s) : wpAny M A (callSpecial? (.ref x) name args) Q E s := special_fn X I hs (beq_iff_eq.mp hf) h
theorem add_K {Q : Value → Shared → Prop} {y : Addr} {oy : Obj} {ody : Option Obj} (F : Fr h₀ L s.heap m) (X₀ : K.In h₀) (I : InstAt s.heap x ox C od) (J : InstAt s.heap y oy C ody) (hm : firstIn K C = true)
    (hs : findIn K (.ref C) "__add__" = some (some (.ref f))) (hf : isFn K (.ref f) = true) (h : wpAny (model prog w) A (call (.ref f) [.ref x, .ref y]) (CmpBack Q) E s) : wpAny (model prog w) A (binaryOp .Add (.ref x) (.ref y)) Q E s := by
  have X := X₀.keeps F.keep
  unfold binaryOp
  refine wpAny_holding (wpAny_bind ?_)
  unfold binaryOp1
  refine wpAny_bind (I.type.here (wpAny_bind (J.type.here (wpAny_bind (fills_own X hm hs ?_)))))
  simp only [beq_self_eq_true, if_true]
  refine wpAny_bind (wpAny_pure ?_)
  simp only [Bool.and_false, Bool.false_eq_true, if_false, Bool.false_and, if_true]
  have one : wpAny (model prog w) A (tryMethod (.ref x) (PySem.dunder "add") (.ref y)) (fun r s' => ∃ v, r = some v ∧ Q v s') E s := by
    unfold tryMethod
    refine wpAny_bind (special_own X I hs hf (wpAny_mono h (fun v s' hv => ?_) fun _ _ e => e))
    cases v <;> first | exact hv.elim | exact wpAny_pure ⟨_, rfl, hv⟩
  refine wpAny_bind (wpAny_pure ?_)
  simp only [Bool.false_eq_true, if_false]
  refine wpAny_bind (wpAny_mono one (fun r s' z => ?_) fun _ _ e => e)
  obtain ⟨v, rfl, hq⟩ := z
  exact wpAny_pure (wpAny_pure hq)
theorem neg_K {Q : Value → Shared → Prop} (F : Fr h₀ L s.heap m) (X₀ : K.In h₀) (I : InstAt s.heap x ox C od)
    (hs : findIn K (.ref C) "__neg__" = some (some (.ref f))) (hf : isFn K (.ref f) = true) (h : wpAny (model prog w) A (call (.ref f) [.ref x]) Q E s) : wpAny (model prog w) A (unaryOp .USub (.ref x)) Q E s := by
  have X := X₀.keeps F.keep
  unfold unaryOp
  refine wpAny_holding ?_
  simp only []
  refine wpAny_bind (special_own X I hs hf (wpAny_mono h (fun v s' hv => wpAny_pure hv) fun _ _ e => e))
/-- object.__ne__ over an own __eq__ -/
theorem ne_entry {Q : Fin → Shared → Prop} {y : Addr} {b : Bool} (hu : A.units < cLine) (X : K.In s.heap) (I : InstAt s.heap x ox C od) (hs : findIn K (.ref C) "__eq__" = some (some (.ref f))) (hf : isFn K (.ref f) = true)
    (h : wpAny (model prog w) A (call (.ref f) [.ref x, .ref y]) (fun v s' => ∃ c, v = .bool c ∧ Q (.done (.ret (.bool (!c)))) s') E s) : wpAny (model prog w) A (Builtin.«object.__ne__» ⟨[.ref x, .ref y], []⟩) Q E s := by
  unfold Builtin.«object.__ne__»
  refine wpAny_bind (m := slotArgs "__ne__" 1 _) (wpAny_pure ?_)
  refine wpAny_bind (m := cRoomFor _ _) (wpAny_cRoomFor hu ?_)
  refine wpAny_bind (m := callSpecialIfBound? (.ref x) (Str.ofString "__eq__") _) (ifBound_K X I hs hf (wpAny_mono h (fun r s' hq => ?_) fun _ _ y => y))
  obtain ⟨c, rfl, hq⟩ := hq
  refine wpAny_bind (wpAny_truthy_bool ?_)
  exact wpAny_pure hq
theorem ifBound_B {name : Str} {id : String} {args : List Value} {Q : Option Value → Shared → Prop} (X : K.In s.heap) (I : InstAt s.heap x ox C od) (hs : findIn K (.ref C) name = some (some (.builtin id)))
    (hb : ∀ self, bindSpecial (.builtin id) self = pure (.builtin id, [self])) (h : wpAny M A (call (.builtin id) (.ref x :: args)) (fun v => Q (some v)) E s) : wpAny M A (callSpecialIfBound? (.ref x) name args) Q E s := by
  simp only [callSpecialIfBound?, bindSpecialIfBound?]
  refine wpAny_holding (wpAny_bind (wpAny_bind (wpAny_bind (I.type.here ((looks_findIn X hs).here ?_)))))
  refine wpAny_bind (wpAny_askSetting (wpAny_ite ?_))
  have fin : wpAny M A (call (.builtin id) ([.ref x] ++ args) >>= fun v => pure (some v)) Q E s := wpAny_bind (wpAny_mono h (fun v s' h' => wpAny_pure h') fun _ _ h' => h')
  split
  · exact wpAny_bind ((Looks.of_pure (hb _)).here (wpAny_pure (by exact fin)))
  · exact wpAny_tryCatch (wpAny_bind ((Looks.of_pure (hb _)).here (wpAny_pure (by exact fin))))
theorem ne_K {Q : Value → Shared → Prop} {y : Addr} {oy : Obj} {ody : Option Obj} (hu : A.units < cLine) (hu1 : A.in1.units < cLine) (F : Fr h₀ L s.heap m) (X₀ : K.In h₀) (I : InstAt s.heap x ox C od) (J : InstAt s.heap y oy C ody)
    (hn : findIn K (.ref C) "__ne__" = some (some (.builtin "object.__ne__"))) (hm : mroIn K C (.type "object") = some true)
    (hs : findIn K (.ref C) "__eq__" = some (some (.ref f))) (hf : isFn K (.ref f) = true)
    (h : wpAny (model prog w) A.in1 (call (.ref f) [.ref x, .ref y]) (fun v s' => ∃ c, v = .bool c ∧ Q (.bool (!c)) s') E s) : wpAny (model prog w) A (richCompare .NotEq (.ref x) (.ref y)) Q E s := by
  have X := X₀.keeps F.keep
  have one : wpAny (model prog w) A (tryCompare (.ref x) (cmpInfo .NotEq).2.1 (.ref y)) (fun r s' => ∃ v, r = some v ∧ Q v s') E s := by
    unfold tryCompare
    refine wpAny_bind (ifBound_B X I hn PySem.F.slot_object_ne.bind (wpAny_call (codeAny_call_builtin PySem.F.slot_object_ne.plain PySem.F.cmpEntry_ne (check_slot (i := "object.__ne__") (owner := "object") (n := "__ne__") (by decide +kernel) (by decide +kernel) (I.type.andThen (looks_mroIn X hm)) (PySem.F.cmpArgs_ne _ _) (ne_entry (b := true) hu1 X I hs hf (wpAny_mono h (fun v s' hv => ?_) fun _ _ e => e))))))
    obtain ⟨c, rfl, hq⟩ := hv
    refine ⟨c, rfl, ?_⟩
    exact wpAny_pure ⟨_, rfl, hq⟩
  unfold richCompare
  simp only [oneThing_ref]
  refine wpAny_holding (wpAny_bind (wpAny_cRoomFor hu ?_))
  refine wpAny_bind (I.type.here (wpAny_bind (J.type.here ?_)))
  rw [if_neg (by simp)]
  refine wpAny_bind (wpAny_pure ?_)
  simp only [Bool.false_eq_true, if_false]
  refine wpAny_bind (wpAny_mono one (fun r s' z => ?_) fun _ _ e => e)
  obtain ⟨v, rfl, hq⟩ := z
  exact wpAny_pure hq
end
end PySem.W
namespace XL
open PySem PySem.Spec PyProof.Rows L2
section
variable {X : Cx} {CX : CXT} {C f : Addr} {fd : FuncData} {ps : List Str} {sp : Sp} {E : XK} {n : Nat}
/-- -x by an own __neg__ -/
def yNegO (C : Addr) (sp : Sp) (E : XK) : V → Hp → VK → Prop := fun x H Q => ∃ a dx fs, x = .ref a ∧ H a = some (.ins C dx fs) ∧ sp [.ref a] H Q E
theorem un_negO (F : FnOk X.prog X.w X.K X.mg X.base CX n f fd ps sp) (hs : PySem.W.findIn X.K (.ref C) "__neg__" = some (some (.ref f))) (hf : PySem.W.isFn X.K (.ref f) = true) (hb : Binds X.K fd ps []) (hx : Passes CX X E) (hr : Room n X.A) : UnR X (unaryOp .USub) (yNegO C sp E) := by
  intro pins s σ H x v Q I rx h
  obtain ⟨a, dx, fs, rfl, ha, hsp⟩ := h
  cases rx
  obtain ⟨mA, J1, _⟩ := ins_get I.hok ha
  obtain ⟨od, J1, _⟩ := J1.look
  obtain ⟨m, hF⟩ := I.fr
  exact PySem.W.neg_K hF I.ok.mod.kin J1 hs hf (run_fn (us := [.ref a]) (vs := [.ref a]) (dvs := []) F hr hb .nil hx I (.cons rfl .nil) hsp)
/-- x + y by an own __add__, both of class C -/
def yAddO (C : Addr) (sp : Sp) (E : XK) : R2 := yOwn C sp E
theorem op_addO (F : FnOk X.prog X.w X.K X.mg X.base CX n f fd ps sp) (hm : PySem.W.firstIn X.K C = true) (hs : PySem.W.findIn X.K (.ref C) "__add__" = some (some (.ref f))) (hf : PySem.W.isFn X.K (.ref f) = true) (hb : Binds X.K fd ps []) (hx : Passes CX X E) (hr : Room n X.A) : OpR X (binaryOp .Add) (yAddO C sp E) := by
  intro pins s σ H x y u v Q I rx ry h
  obtain ⟨a, b, dx, dy, fs, gs, rfl, rfl, ha, hb', hsp⟩ := h
  cases rx
  cases ry
  obtain ⟨mA, J1, _⟩ := ins_get I.hok ha
  obtain ⟨mB, J2, _⟩ := ins_get I.hok hb'
  obtain ⟨od, J1, _⟩ := J1.look
  obtain ⟨od', J2, _⟩ := J2.look
  obtain ⟨m, hF⟩ := I.fr
  refine PySem.W.add_K hF I.ok.mod.kin J1 J2 hm hs hf ?_
  refine wpAny_mono (run_fn (us := [.ref a, .ref b]) (vs := [.ref a, .ref b]) (dvs := []) F hr hb .nil hx I (.cons rfl (.cons rfl .nil)) hsp) (fun v s' q => ?_) fun _ _ e => e
  obtain ⟨z, H', I', rz, q⟩ := q
  have fin : EP X pins σ Q v s' := ⟨z, H', I', rz, q⟩
  cases v <;> first | exact fin | (cases z <;> first | exact absurd (show _ = _ from rz) (by intro e; cases e) | (obtain ⟨_, e⟩ := rz; cases e))
theorem run_in1 {pins : List (Addr × Obj)} {σ : L2.St} {H : Hp} {s : Shared} {Q : VK} {us : List Value} {vs : List V} (F : FnOk X.prog X.w X.K X.mg X.base CX n f fd ps sp) (hr : Room n X.A.in1) (hb : Binds X.K fd ps []) (hx : Passes CX X E)
    (I : Inv X pins σ H s) (r : Vals vs us) (h : sp vs H Q E) : wpAny (model X.prog X.w) X.A.in1 (call (.ref f) us) (EP X pins σ Q) X.xe s := by
  have hl : us.length = ps.length := by rw [← r.length]; exact F.len _ _ _ _ h
  have b := hb s us I.kIn (by rw [List.append_nil]; exact hl)
  rw [List.append_nil] at b
  refine wpAny_call (codeAny_mono (F.run X.A.in1 X.stack s H ⟨us, []⟩ us vs Q E hr I.env0.in1 b r h) fun r s' hq => ?_)
  cases r with
  | error e => exact hx pins σ _ _ e s' I hq
  | ok fl =>
    cases fl with
    | ret u => exact I.after hq
    | next => exact False.elim hq
    | brk => exact False.elim hq
    | cont => exact False.elim hq
/-- x != y by an own __eq__ alone, both of class C -/
def yNeO (C : Addr) (sp : Sp) (E : XK) : R2 := fun x y H Q => ∃ a b dx dy fs gs, x = .ref a ∧ y = .ref b ∧ H a = some (.ins C dx fs) ∧ H b = some (.ins C dy gs) ∧ sp [.ref a, .ref b] H (fun v H' => match v with
  | .bl b => Q (.bl (!b)) H'
  | _ => False) E
theorem op_neO (F : FnOk X.prog X.w X.K X.mg X.base CX n f fd ps sp) (hn : PySem.W.findIn X.K (.ref C) "__ne__" = some (some (.builtin "object.__ne__"))) (hm : PySem.W.mroIn X.K C (.type "object") = some true)
    (hs : PySem.W.findIn X.K (.ref C) "__eq__" = some (some (.ref f))) (hf : PySem.W.isFn X.K (.ref f) = true) (hb : Binds X.K fd ps []) (hx : Passes CX X E) (hr : Room (n + 1) X.A) : OpR X (compareOp .NotEq) (yNeO C sp E) := by
  intro pins s σ H x y u v Q I rx ry h
  obtain ⟨a, b, dx, dy, fs, gs, rfl, rfl, ha, hb', hsp⟩ := h
  cases rx
  cases ry
  show wpAny _ _ (richCompare .NotEq (.ref a) (.ref b)) _ _ _
  obtain ⟨mA, J1, _⟩ := ins_get I.hok ha
  obtain ⟨mB, J2, _⟩ := ins_get I.hok hb'
  obtain ⟨od, J1, _⟩ := J1.look
  obtain ⟨od', J2, _⟩ := J2.look
  obtain ⟨m, hF⟩ := I.fr
  refine PySem.W.ne_K hr.units0 hr.in1.units0 hF I.ok.mod.kin J1 J2 hn hm hs hf ?_
  refine wpAny_mono (run_in1 (us := [.ref a, .ref b]) (vs := [.ref a, .ref b]) F hr.in1 hb hx I (.cons rfl (.cons rfl .nil)) hsp) (fun v s' q => ?_) fun _ _ e => e
  obtain ⟨z, H', I', rz, q⟩ := q
  cases z with
  | bl c =>
    cases rz
    exact ⟨c, rfl, .bl (!c), H', I', rfl, q⟩
  | _ => exact q.elim
/-- x + y within a try -/
def tAddOT (C : Addr) (sp : Sp) (E : L2.St → XK) (ta tb : TE) : TE := fun σ H Q => ta σ H fun x H1 => tb σ H1 fun y H2 => yOwn C sp (E σ) x y H2 Q
theorem pe_addOT {E : L2.St → XK} {a b : Expr} {ta tb : TE} {pos : Pos} (hla : PE X a ta) (hlb : PE X b tb) (F : FnOk X.prog X.w X.K X.mg X.base CX n f fd ps sp) (hm : PySem.W.firstIn X.K C = true) (hs : PySem.W.findIn X.K (.ref C) "__add__" = some (some (.ref f))) (hf : PySem.W.isFn X.K (.ref f) = true) (hb : Binds X.K fd ps []) (hx : ∀ σ, PassesAt CX X σ (E σ)) (hr : Room n X.A) :
    PE X (.BinOp a .Add b pos) (tAddOT C sp E ta tb) := by
  refine ⟨fun pins s σ H Q I h => ?_⟩
  refine wpAny_BinOp (binT hla hlb I h fun v u s2 x y H2 I2 rx ry q => ?_)
  obtain ⟨a, b, dx, dy, fs, gs, rfl, rfl, ha, hb', hsp⟩ := q
  cases rx
  cases ry
  obtain ⟨mA, J1, _⟩ := ins_get I2.hok ha
  obtain ⟨mB, J2, _⟩ := ins_get I2.hok hb'
  obtain ⟨od, J1, _⟩ := J1.look
  obtain ⟨od', J2, _⟩ := J2.look
  obtain ⟨m, hF⟩ := I2.fr
  refine PySem.W.add_K hF I2.ok.mod.kin J1 J2 hm hs hf ?_
  have hl : ([Value.ref a, .ref b] ++ []).length = ps.length := F.len _ _ _ _ hsp
  refine wpAny_mono (Q := EP X pins σ Q) (wpAny_call (codeAny_mono (F.run X.A X.stack s2 H2 ⟨[.ref a, .ref b], []⟩ [.ref a, .ref b] [.ref a, .ref b] Q (E σ) hr I2.env0 (hb s2 [.ref a, .ref b] I2.kIn hl) (.cons rfl (.cons rfl .nil)) hsp) fun r s' hq => ?_)) (fun v s' q => ?_) fun _ _ e => e
  · cases r with
    | error e => exact hx σ pins H2 s2 e s' I2 hq
    | ok fl =>
      cases fl with
      | ret u => exact I2.after hq
      | next => exact False.elim hq
      | brk => exact False.elim hq
      | cont => exact False.elim hq
  obtain ⟨z, H', I', rz, q⟩ := q
  have fin : EP X pins σ Q v s' := ⟨z, H', I', rz, q⟩
  cases v <;> first | exact fin | (cases z <;> first | exact absurd (show _ = _ from rz) (by intro e; cases e) | (obtain ⟨_, e⟩ := rz; cases e))
end
end XL
set_option Elab.async false
set_option linter.all false
set_option maxRecDepth 100000
set_option maxHeartbeats 4000000
namespace K19
open PySem PySem.Spec PyProof.Rows L2 XL
def topS (i : Nat) : Stmt := PySem.Challenge.pw_drawnanew_k19_measured_again.main.body.getD i (.Pass ⟨0, 0, 0, 0⟩)
abbrev s_measure : Stmt := topS 11
theorem sc_measure : FnScope ["label", "sizes", "width", "height", "wide", "high"] ["label", "sizes"] (defScope s_measure) := ⟨rfl, rfl, rfl, by decide +kernel, rfl, by decide +kernel, by decide +kernel⟩
abbrev s_from_below : Stmt := topS 12
theorem sc_from_below : FnScope ["root", "rows", "waiting", "node"] ["root"] (defScope s_from_below) := ⟨rfl, rfl, rfl, by decide +kernel, rfl, by decide +kernel, by decide +kernel⟩
abbrev s_rectangles : Stmt := topS 13
theorem sc_rectangles : FnScope ["root", "sizes", "places", "waiting", "node", "x", "y", "width", "height", "beneath", "child"] ["root", "sizes"] (defScope s_rectangles) := ⟨rfl, rfl, rfl, by decide +kernel, rfl, by decide +kernel, by decide +kernel⟩
abbrev s_Laid_init : Stmt := inClass (topS 14) 0
theorem sc_Laid_init : FnScope ["self", "page"] ["self", "page"] (defScope s_Laid_init) := ⟨rfl, rfl, rfl, by decide +kernel, rfl, by decide +kernel, by decide +kernel⟩
abbrev s_Laid_page : Stmt := inClass (topS 14) 1
theorem sc_Laid_page : FnScope ["self"] ["self"] (defScope s_Laid_page) := ⟨rfl, rfl, rfl, by decide +kernel, rfl, by decide +kernel, by decide +kernel⟩
abbrev s_Laid_take : Stmt := inClass (topS 14) 6
theorem sc_Laid_take : FnScope ["self", "patches"] ["self", "patches"] (defScope s_Laid_take) := ⟨rfl, rfl, rfl, by decide +kernel, rfl, by decide +kernel, by decide +kernel⟩
abbrev s_Laid_measure_again : Stmt := inClass (topS 14) 7
theorem sc_Laid_measure_again : FnScope ["self", "page", "pairs", "sizes", "measured", "mark", "label", "children", "pair", "child"] ["self", "page"] (defScope s_Laid_measure_again) := ⟨rfl, rfl, rfl, by decide +kernel, rfl, by decide +kernel, by decide +kernel⟩
abbrev s_nodes_of : Stmt := topS 17
theorem sc_nodes_of : FnScope ["root", "out", "waiting", "node"] ["root"] (defScope s_nodes_of) := ⟨rfl, rfl, rfl, by decide +kernel, rfl, by decide +kernel, by decide +kernel⟩
abbrev s_order_of : Stmt := topS 18
theorem sc_order_of : FnScope ["root", "piece"] ["root"] (defScope s_order_of) := ⟨rfl, rfl, rfl, by decide +kernel, rfl, by decide +kernel, by decide +kernel⟩
abbrev s_Page_init : Stmt := inClass (topS 19) 0
theorem sc_Page_init : FnScope ["self", "root", "nodes", "above", "order", "node", "below"] ["self", "root"] (defScope s_Page_init) := ⟨rfl, rfl, rfl, by decide +kernel, rfl, by decide +kernel, by decide +kernel⟩
abbrev s_Page_top : Stmt := inClass (topS 19) 1
theorem sc_Page_top : FnScope ["self"] ["self"] (defScope s_Page_top) := ⟨rfl, rfl, rfl, by decide +kernel, rfl, by decide +kernel, by decide +kernel⟩
abbrev s_Page_eq : Stmt := inClass (topS 19) 6
theorem sc_Page_eq : FnScope ["self", "other"] ["self", "other"] (defScope s_Page_eq) := ⟨rfl, rfl, rfl, by decide +kernel, rfl, by decide +kernel, by decide +kernel⟩
abbrev s_is_number : Stmt := topS 21
theorem sc_is_number : FnScope ["thing", "low", "high"] ["thing", "low", "high"] (defScope s_is_number) := ⟨rfl, rfl, rfl, by decide +kernel, rfl, by decide +kernel, by decide +kernel⟩
abbrev s_check_patch : Stmt := topS 25
theorem sc_check_patch : FnScope ["patch"] ["patch"] (defScope s_check_patch) := ⟨rfl, rfl, rfl, by decide +kernel, rfl, by decide +kernel, by decide +kernel⟩
abbrev s_path_to : Stmt := topS 26
theorem sc_path_to : FnScope ["root", "mark", "waiting", "node", "path", "k"] ["root", "mark"] (defScope s_path_to) := ⟨rfl, rfl, rfl, by decide +kernel, rfl, by decide +kernel, by decide +kernel⟩
abbrev s_node_on : Stmt := topS 27
theorem sc_node_on : FnScope ["root", "path", "node", "k"] ["root", "path"] (defScope s_node_on) := ⟨rfl, rfl, rfl, by decide +kernel, rfl, by decide +kernel, by decide +kernel⟩
abbrev s_with_node : Stmt := topS 28
theorem sc_with_node : FnScope ["root", "path", "node", "line", "k", "grown", "depth", "upper"] ["root", "path", "node"] (defScope s_with_node) := ⟨rfl, rfl, rfl, by decide +kernel, rfl, by decide +kernel, by decide +kernel⟩
abbrev s_with_children : Stmt := topS 29
theorem sc_with_children : FnScope ["root", "path", "children", "node"] ["root", "path", "children"] (defScope s_with_children) := ⟨rfl, rfl, rfl, by decide +kernel, rfl, by decide +kernel, by decide +kernel⟩
abbrev s_check_marks : Stmt := topS 30
theorem sc_check_marks : FnScope ["root", "node", "known", "mark"] ["root", "node"] (defScope s_check_marks) := ⟨rfl, rfl, rfl, by decide +kernel, rfl, by decide +kernel, by decide +kernel⟩
abbrev s_check_at : Stmt := topS 31
theorem sc_check_at : FnScope ["at", "count"] ["at", "count"] (defScope s_check_at) := ⟨rfl, rfl, rfl, by decide +kernel, rfl, by decide +kernel, by decide +kernel⟩
abbrev s_with_put : Stmt := topS 32
theorem sc_with_put : FnScope ["root", "path", "patch", "children", "at"] ["root", "path", "patch"] (defScope s_with_put) := ⟨rfl, rfl, rfl, by decide +kernel, rfl, by decide +kernel, by decide +kernel⟩
abbrev s_with_say : Stmt := topS 33
theorem sc_with_say : FnScope ["root", "path", "patch", "node"] ["root", "path", "patch"] (defScope s_with_say) := ⟨rfl, rfl, rfl, by decide +kernel, rfl, by decide +kernel, by decide +kernel⟩
abbrev s_with_drop : Stmt := topS 34
theorem sc_with_drop : FnScope ["root", "path", "upper", "k", "back"] ["root", "path"] (defScope s_with_drop) := ⟨rfl, rfl, rfl, by decide +kernel, rfl, by decide +kernel, by decide +kernel⟩
abbrev s_with_move : Stmt := topS 35
theorem sc_with_move : FnScope ["root", "path", "patch", "children", "k", "others", "at"] ["root", "path", "patch"] (defScope s_with_move) := ⟨rfl, rfl, rfl, by decide +kernel, rfl, by decide +kernel, by decide +kernel⟩
abbrev s_root_after : Stmt := topS 36
theorem sc_root_after : FnScope ["root", "patch", "path"] ["root", "patch"] (defScope s_root_after) := ⟨rfl, rfl, rfl, by decide +kernel, rfl, by decide +kernel, by decide +kernel⟩
abbrev s_Patches_init : Stmt := inClass (topS 37) 0
theorem sc_Patches_init : FnScope ["self", "page", "rows", "root", "undone", "patch", "back"] ["self", "page", "rows"] (defScope s_Patches_init) := ⟨rfl, rfl, rfl, by decide +kernel, rfl, by decide +kernel, by decide +kernel⟩
abbrev s_Patches_page : Stmt := inClass (topS 37) 1
theorem sc_Patches_page : FnScope ["self"] ["self"] (defScope s_Patches_page) := ⟨rfl, rfl, rfl, by decide +kernel, rfl, by decide +kernel, by decide +kernel⟩
abbrev s_Patches_end : Stmt := inClass (topS 37) 2
theorem sc_Patches_end : FnScope ["self"] ["self"] (defScope s_Patches_end) := ⟨rfl, rfl, rfl, by decide +kernel, rfl, by decide +kernel, by decide +kernel⟩
abbrev s_Patches_many : Stmt := inClass (topS 37) 3
theorem sc_Patches_many : FnScope ["self"] ["self"] (defScope s_Patches_many) := ⟨rfl, rfl, rfl, by decide +kernel, rfl, by decide +kernel, by decide +kernel⟩
abbrev s_mixed : Stmt := topS 39
theorem sc_mixed : FnScope ["_law_number", "_law_turn", "_law_first", "_law_second"] ["_law_number", "_law_turn"] (defScope s_mixed) := ⟨rfl, rfl, rfl, by decide +kernel, rfl, by decide +kernel, by decide +kernel⟩
abbrev s_bag : Stmt := topS 40
theorem sc_bag : FnScope ["_law_script", "_law_cell", "_law_numbers", "_law_seed", "_law_at"] ["_law_script"] (defScope s_bag) := ⟨rfl, rfl, rfl, by decide +kernel, rfl, by decide +kernel, by decide +kernel⟩
abbrev s_pick : Stmt := topS 41
theorem sc_pick : FnScope ["_law_bag_here", "_law_many", "_law_turn", "_law_worth", "_law_cell", "_law_great"] ["_law_bag_here", "_law_many"] (defScope s_pick) := ⟨rfl, rfl, rfl, by decide +kernel, rfl, by decide +kernel, by decide +kernel⟩
abbrev s_choice : Stmt := topS 42
theorem sc_choice : FnScope ["_law_bag_here", "_law_things"] ["_law_bag_here", "_law_things"] (defScope s_choice) := ⟨rfl, rfl, rfl, by decide +kernel, rfl, by decide +kernel, by decide +kernel⟩
abbrev s_mingled : Stmt := topS 43
theorem sc_mingled : FnScope ["_law_bag_here", "_law_things", "_law_left", "_law_out", "_law_step"] ["_law_bag_here", "_law_things"] (defScope s_mingled) := ⟨rfl, rfl, rfl, by decide +kernel, rfl, by decide +kernel, by decide +kernel⟩
abbrev s_text : Stmt := topS 44
theorem sc_text : FnScope ["_law_bag_here", "_law_least", "_law_most", "_law_signs", "_law_told", "_law_step"] ["_law_bag_here", "_law_least", "_law_most"] (defScope s_text) := ⟨rfl, rfl, rfl, by decide +kernel, rfl, by decide +kernel, by decide +kernel⟩
abbrev s_label : Stmt := topS 45
theorem sc_label : FnScope ["_law_bag_here", "_law_way"] ["_law_bag_here"] (defScope s_label) := ⟨rfl, rfl, rfl, by decide +kernel, rfl, by decide +kernel, by decide +kernel⟩
abbrev s_marks : Stmt := topS 46
theorem sc_marks : FnScope ["_law_bag_here", "_law_count", "_law_most", "_law_left", "_law_right", "_law_step", "_law_start", "_law_k"] ["_law_bag_here", "_law_count"] (defScope s_marks) := ⟨rfl, rfl, rfl, by decide +kernel, rfl, by decide +kernel, by decide +kernel⟩
abbrev s_flat : Stmt := topS 47
theorem sc_flat : FnScope ["_law_bag_here", "_law_marks_here", "_law_deepest", "_law_flat_here", "_law_mark", "_law_most"] ["_law_bag_here", "_law_marks_here", "_law_deepest"] (defScope s_flat) := ⟨rfl, rfl, rfl, by decide +kernel, rfl, by decide +kernel, by decide +kernel⟩
abbrev s_grown : Stmt := topS 48
theorem sc_grown : FnScope ["_law_flat_here", "_law_ready", "_law_k", "_law_beneath_here"] ["_law_flat_here"] (defScope s_grown) := ⟨rfl, rfl, rfl, by decide +kernel, rfl, by decide +kernel, by decide +kernel⟩
abbrev s_end : Stmt := topS 49
theorem sc_end : FnScope ["_law_flat_here", "_law_k", "_law_j"] ["_law_flat_here", "_law_k"] (defScope s_end) := ⟨rfl, rfl, rfl, by decide +kernel, rfl, by decide +kernel, by decide +kernel⟩
abbrev s_over : Stmt := topS 50
theorem sc_over : FnScope ["_law_flat_here", "_law_k", "_law_above", "_law_j"] ["_law_flat_here", "_law_k"] (defScope s_over) := ⟨rfl, rfl, rfl, by decide +kernel, rfl, by decide +kernel, by decide +kernel⟩
abbrev s_beneath : Stmt := topS 51
theorem sc_beneath : FnScope ["_law_flat_here", "_law_k", "_law_j"] ["_law_flat_here", "_law_k"] (defScope s_beneath) := ⟨rfl, rfl, rfl, by decide +kernel, rfl, by decide +kernel, by decide +kernel⟩
abbrev s_spot : Stmt := topS 52
theorem sc_spot : FnScope ["_law_flat_here", "_law_k", "_law_at", "_law_beneath_here"] ["_law_flat_here", "_law_k", "_law_at"] (defScope s_spot) := ⟨rfl, rfl, rfl, by decide +kernel, rfl, by decide +kernel, by decide +kernel⟩
abbrev s_moved : Stmt := topS 53
theorem sc_moved : FnScope ["_law_bag_here", "_law_flat_here", "_law_k", "_law_above", "_law_end_here", "_law_rest", "_law_at", "_law_spot_here"] ["_law_bag_here", "_law_flat_here", "_law_k"] (defScope s_moved) := ⟨rfl, rfl, rfl, by decide +kernel, rfl, by decide +kernel, by decide +kernel⟩
abbrev s_grafted : Stmt := topS 54
theorem sc_grafted : FnScope ["_law_bag_here", "_law_flat_here", "_law_k", "_law_spare", "_law_at", "_law_spot_here", "_law_first", "_law_block", "_law_lower", "_law_mark", "_law_label_here", "_law_depth"] ["_law_bag_here", "_law_flat_here", "_law_k", "_law_spare"] (defScope s_grafted) := ⟨rfl, rfl, rfl, by decide +kernel, rfl, by decide +kernel, by decide +kernel⟩
abbrev s_edited : Stmt := topS 55
theorem sc_edited : FnScope ["_law_bag_here", "_law_flat_here", "_law_pool", "_law_way", "_law_k", "_law_shown", "_law_spare", "_law_label_here", "_law_row", "_law_mark"] ["_law_bag_here", "_law_flat_here", "_law_pool"] (defScope s_edited) := ⟨rfl, rfl, rfl, by decide +kernel, rfl, by decide +kernel, by decide +kernel⟩
abbrev s_fresh : Stmt := topS 56
theorem sc_fresh : FnScope ["_law_bag_here", "_law_pool"] ["_law_bag_here", "_law_pool"] (defScope s_fresh) := ⟨rfl, rfl, rfl, by decide +kernel, rfl, by decide +kernel, by decide +kernel⟩
abbrev s_renewed : Stmt := topS 57
theorem sc_renewed : FnScope ["_law_bag_here", "_law_flat_here", "_law_pool", "_law_k", "_law_above", "_law_shown", "_law_mark", "_law_at", "_law_rows", "_law_row", "_law_one"] ["_law_bag_here", "_law_flat_here", "_law_pool"] (defScope s_renewed) := ⟨rfl, rfl, rfl, by decide +kernel, rfl, by decide +kernel, by decide +kernel⟩
abbrev s_onward : Stmt := topS 58
theorem sc_onward : FnScope ["_law_bag_here", "_law_flat_here", "_law_pool", "_law_way", "_law_rows", "_law_after", "_law_step", "_law_patch", "_law_k", "_law_at", "_law_child"] ["_law_bag_here", "_law_flat_here", "_law_pool"] (defScope s_onward) := ⟨rfl, rfl, rfl, by decide +kernel, rfl, by decide +kernel, by decide +kernel⟩
abbrev s_measured : Stmt := topS 59
theorem sc_measured : FnScope ["_law_label_here", "_law_sizes", "_law_widest", "_law_highest", "_law_pair"] ["_law_label_here", "_law_sizes"] (defScope s_measured) := ⟨rfl, rfl, rfl, by decide +kernel, rfl, by decide +kernel, by decide +kernel⟩
abbrev s_pairs : Stmt := topS 60
theorem sc_pairs : FnScope ["_law_node", "_law_rows", "_law_sizes", "_law_child"] ["_law_node", "_law_rows"] (defScope s_pairs) := ⟨rfl, rfl, rfl, by decide +kernel, rfl, by decide +kernel, by decide +kernel⟩
abbrev s_due : Stmt := topS 61
theorem sc_due : FnScope ["_law_old", "_law_new", "_law_before", "_law_behind", "_law_known", "_law_mark", "_law_pair"] ["_law_old", "_law_new"] (defScope s_due) := ⟨rfl, rfl, rfl, by decide +kernel, rfl, by decide +kernel, by decide +kernel⟩
abbrev s_refused : Stmt := topS 62
theorem sc_refused : FnScope ["_law_laid", "_law_patches", "_law_mark", "e"] ["_law_laid", "_law_patches", "_law_mark"] (defScope s_refused) := ⟨rfl, rfl, rfl, by decide +kernel, rfl, by decide +kernel, by decide +kernel⟩
abbrev s_stranger : Stmt := topS 63
theorem sc_stranger : FnScope ["_law_bag_here", "_law_flat_here", "_law_k", "_law_mark", "_law_label_here", "_law_depth"] ["_law_bag_here", "_law_flat_here"] (defScope s_stranger) := ⟨rfl, rfl, rfl, by decide +kernel, rfl, by decide +kernel, by decide +kernel⟩
abbrev s_taken : Stmt := topS 64
theorem sc_taken : FnScope ["_law_bag_here", "_law_laid", "_law_old", "_law_new", "_law_rows", "_law_patches", "_law_told"] ["_law_bag_here", "_law_laid", "_law_old", "_law_new", "_law_rows"] (defScope s_taken) := ⟨rfl, rfl, rfl, by decide +kernel, rfl, by decide +kernel, by decide +kernel⟩
abbrev s_law : Stmt := topS 65
theorem sc_law : FnScope ["_law_script", "_law_bag_here", "_law_worlds", "_law_turn", "_law_pool", "_law_flat_here", "_law_world", "_law_laid", "_law_other", "_law_rows", "_law_after"] ["_law_script"] (defScope s_law) := ⟨rfl, rfl, rfl, by decide +kernel, rfl, by decide +kernel, by decide +kernel⟩
abbrev s_NoNode_init : Stmt := inClass (topS 6) 0
abbrev s_TwiceMarked_init : Stmt := inClass (topS 5) 0
abbrev s_TooMany_init : Stmt := inClass (topS 3) 0
abbrev s_NotOnePage_init : Stmt := inClass (topS 9) 0
/-- what the top leaves -/
structure Top (K : PySem.W.Frag) (mg : Str → Option Value) (W : World) where
  m_abs : mg "abs" = none
  m_bool : mg "bool" = none
  m_enumerate : mg "enumerate" = none
  m_int : mg "int" = none
  m_isinstance : mg "isinstance" = none
  m_len : mg "len" = none
  m_list : mg "list" = none
  m_range : mg "range" = none
  m_str : mg "str" = none
  m_sum : mg "sum" = none
  m_tuple : mg "tuple" = none
  v_MOST_NODES : ∃ t, mg "MOST_NODES" = some (.int 400 t)
  a_measure : Addr
  d_measure : FuncData
  F_measure : Fun K "measure" "measure" s_measure a_measure d_measure
  b_measure : Binds K d_measure ["label", "sizes"] []
  g_measure : mg "measure" = some (.ref a_measure)
  a_from_below : Addr
  d_from_below : FuncData
  F_from_below : Fun K "from_below" "from_below" s_from_below a_from_below d_from_below
  b_from_below : Binds K d_from_below ["root"] []
  g_from_below : mg "from_below" = some (.ref a_from_below)
  a_rectangles : Addr
  d_rectangles : FuncData
  F_rectangles : Fun K "rectangles" "rectangles" s_rectangles a_rectangles d_rectangles
  b_rectangles : Binds K d_rectangles ["root", "sizes"] []
  g_rectangles : mg "rectangles" = some (.ref a_rectangles)
  a_Laid_init : Addr
  d_Laid_init : FuncData
  F_Laid_init : Fun K "__init__" "Laid.__init__" s_Laid_init a_Laid_init d_Laid_init
  b_Laid_init : Binds K d_Laid_init ["self", "page"] []
  a_Laid_page : Addr
  d_Laid_page : FuncData
  F_Laid_page : Fun K "page" "Laid.page" s_Laid_page a_Laid_page d_Laid_page
  b_Laid_page : Binds K d_Laid_page ["self"] []
  a_Laid_take : Addr
  d_Laid_take : FuncData
  F_Laid_take : Fun K "take" "Laid.take" s_Laid_take a_Laid_take d_Laid_take
  b_Laid_take : Binds K d_Laid_take ["self", "patches"] []
  a_Laid_measure_again : Addr
  d_Laid_measure_again : FuncData
  F_Laid_measure_again : Fun K "measure_again" "Laid.measure_again" s_Laid_measure_again a_Laid_measure_again d_Laid_measure_again
  b_Laid_measure_again : Binds K d_Laid_measure_again ["self", "page"] []
  a_nodes_of : Addr
  d_nodes_of : FuncData
  F_nodes_of : Fun K "nodes_of" "nodes_of" s_nodes_of a_nodes_of d_nodes_of
  b_nodes_of : Binds K d_nodes_of ["root"] []
  g_nodes_of : mg "nodes_of" = some (.ref a_nodes_of)
  a_order_of : Addr
  d_order_of : FuncData
  F_order_of : Fun K "order_of" "order_of" s_order_of a_order_of d_order_of
  b_order_of : Binds K d_order_of ["root"] []
  g_order_of : mg "order_of" = some (.ref a_order_of)
  a_Page_init : Addr
  d_Page_init : FuncData
  F_Page_init : Fun K "__init__" "Page.__init__" s_Page_init a_Page_init d_Page_init
  b_Page_init : Binds K d_Page_init ["self", "root"] []
  a_Page_top : Addr
  d_Page_top : FuncData
  F_Page_top : Fun K "top" "Page.top" s_Page_top a_Page_top d_Page_top
  b_Page_top : Binds K d_Page_top ["self"] []
  a_Page_eq : Addr
  d_Page_eq : FuncData
  F_Page_eq : Fun K "__eq__" "Page.__eq__" s_Page_eq a_Page_eq d_Page_eq
  b_Page_eq : Binds K d_Page_eq ["self", "other"] []
  a_is_number : Addr
  d_is_number : FuncData
  F_is_number : Fun K "is_number" "is_number" s_is_number a_is_number d_is_number
  b_is_number : Binds K d_is_number ["thing", "low", "high"] []
  g_is_number : mg "is_number" = some (.ref a_is_number)
  a_check_patch : Addr
  d_check_patch : FuncData
  F_check_patch : Fun K "check_patch" "check_patch" s_check_patch a_check_patch d_check_patch
  b_check_patch : Binds K d_check_patch ["patch"] []
  g_check_patch : mg "check_patch" = some (.ref a_check_patch)
  a_path_to : Addr
  d_path_to : FuncData
  F_path_to : Fun K "path_to" "path_to" s_path_to a_path_to d_path_to
  b_path_to : Binds K d_path_to ["root", "mark"] []
  g_path_to : mg "path_to" = some (.ref a_path_to)
  a_node_on : Addr
  d_node_on : FuncData
  F_node_on : Fun K "node_on" "node_on" s_node_on a_node_on d_node_on
  b_node_on : Binds K d_node_on ["root", "path"] []
  g_node_on : mg "node_on" = some (.ref a_node_on)
  a_with_node : Addr
  d_with_node : FuncData
  F_with_node : Fun K "with_node" "with_node" s_with_node a_with_node d_with_node
  b_with_node : Binds K d_with_node ["root", "path", "node"] []
  g_with_node : mg "with_node" = some (.ref a_with_node)
  a_with_children : Addr
  d_with_children : FuncData
  F_with_children : Fun K "with_children" "with_children" s_with_children a_with_children d_with_children
  b_with_children : Binds K d_with_children ["root", "path", "children"] []
  g_with_children : mg "with_children" = some (.ref a_with_children)
  a_check_marks : Addr
  d_check_marks : FuncData
  F_check_marks : Fun K "check_marks" "check_marks" s_check_marks a_check_marks d_check_marks
  b_check_marks : Binds K d_check_marks ["root", "node"] []
  g_check_marks : mg "check_marks" = some (.ref a_check_marks)
  a_check_at : Addr
  d_check_at : FuncData
  F_check_at : Fun K "check_at" "check_at" s_check_at a_check_at d_check_at
  b_check_at : Binds K d_check_at ["at", "count"] []
  g_check_at : mg "check_at" = some (.ref a_check_at)
  a_with_put : Addr
  d_with_put : FuncData
  F_with_put : Fun K "with_put" "with_put" s_with_put a_with_put d_with_put
  b_with_put : Binds K d_with_put ["root", "path", "patch"] []
  g_with_put : mg "with_put" = some (.ref a_with_put)
  a_with_say : Addr
  d_with_say : FuncData
  F_with_say : Fun K "with_say" "with_say" s_with_say a_with_say d_with_say
  b_with_say : Binds K d_with_say ["root", "path", "patch"] []
  g_with_say : mg "with_say" = some (.ref a_with_say)
  a_with_drop : Addr
  d_with_drop : FuncData
  F_with_drop : Fun K "with_drop" "with_drop" s_with_drop a_with_drop d_with_drop
  b_with_drop : Binds K d_with_drop ["root", "path"] []
  g_with_drop : mg "with_drop" = some (.ref a_with_drop)
  a_with_move : Addr
  d_with_move : FuncData
  F_with_move : Fun K "with_move" "with_move" s_with_move a_with_move d_with_move
  b_with_move : Binds K d_with_move ["root", "path", "patch"] []
  g_with_move : mg "with_move" = some (.ref a_with_move)
  a_root_after : Addr
  d_root_after : FuncData
  F_root_after : Fun K "root_after" "root_after" s_root_after a_root_after d_root_after
  b_root_after : Binds K d_root_after ["root", "patch"] []
  g_root_after : mg "root_after" = some (.ref a_root_after)
  a_Patches_init : Addr
  d_Patches_init : FuncData
  F_Patches_init : Fun K "__init__" "Patches.__init__" s_Patches_init a_Patches_init d_Patches_init
  b_Patches_init : Binds K d_Patches_init ["self", "page", "rows"] []
  a_Patches_page : Addr
  d_Patches_page : FuncData
  F_Patches_page : Fun K "page" "Patches.page" s_Patches_page a_Patches_page d_Patches_page
  b_Patches_page : Binds K d_Patches_page ["self"] []
  a_Patches_end : Addr
  d_Patches_end : FuncData
  F_Patches_end : Fun K "end" "Patches.end" s_Patches_end a_Patches_end d_Patches_end
  b_Patches_end : Binds K d_Patches_end ["self"] []
  a_Patches_many : Addr
  d_Patches_many : FuncData
  F_Patches_many : Fun K "many" "Patches.many" s_Patches_many a_Patches_many d_Patches_many
  b_Patches_many : Binds K d_Patches_many ["self"] []
  a_mixed : Addr
  d_mixed : FuncData
  F_mixed : Fun K "_law_mixed" "_law_mixed" s_mixed a_mixed d_mixed
  b_mixed : Binds K d_mixed ["_law_number", "_law_turn"] []
  g_mixed : mg "_law_mixed" = some (.ref a_mixed)
  a_bag : Addr
  d_bag : FuncData
  F_bag : Fun K "_law_bag" "_law_bag" s_bag a_bag d_bag
  b_bag : Binds K d_bag ["_law_script"] []
  g_bag : mg "_law_bag" = some (.ref a_bag)
  a_pick : Addr
  d_pick : FuncData
  F_pick : Fun K "_law_pick" "_law_pick" s_pick a_pick d_pick
  b_pick : Binds K d_pick ["_law_bag_here", "_law_many"] []
  g_pick : mg "_law_pick" = some (.ref a_pick)
  a_choice : Addr
  d_choice : FuncData
  F_choice : Fun K "_law_choice" "_law_choice" s_choice a_choice d_choice
  b_choice : Binds K d_choice ["_law_bag_here", "_law_things"] []
  g_choice : mg "_law_choice" = some (.ref a_choice)
  a_mingled : Addr
  d_mingled : FuncData
  F_mingled : Fun K "_law_mingled" "_law_mingled" s_mingled a_mingled d_mingled
  b_mingled : Binds K d_mingled ["_law_bag_here", "_law_things"] []
  g_mingled : mg "_law_mingled" = some (.ref a_mingled)
  a_text : Addr
  d_text : FuncData
  F_text : Fun K "_law_text" "_law_text" s_text a_text d_text
  b_text : Binds K d_text ["_law_bag_here", "_law_least", "_law_most"] []
  g_text : mg "_law_text" = some (.ref a_text)
  a_label : Addr
  d_label : FuncData
  F_label : Fun K "_law_label" "_law_label" s_label a_label d_label
  b_label : Binds K d_label ["_law_bag_here"] []
  g_label : mg "_law_label" = some (.ref a_label)
  a_marks : Addr
  d_marks : FuncData
  F_marks : Fun K "_law_marks" "_law_marks" s_marks a_marks d_marks
  b_marks : Binds K d_marks ["_law_bag_here", "_law_count"] []
  g_marks : mg "_law_marks" = some (.ref a_marks)
  a_flat : Addr
  d_flat : FuncData
  F_flat : Fun K "_law_flat" "_law_flat" s_flat a_flat d_flat
  b_flat : Binds K d_flat ["_law_bag_here", "_law_marks_here", "_law_deepest"] []
  g_flat : mg "_law_flat" = some (.ref a_flat)
  a_grown : Addr
  d_grown : FuncData
  F_grown : Fun K "_law_grown" "_law_grown" s_grown a_grown d_grown
  b_grown : Binds K d_grown ["_law_flat_here"] []
  g_grown : mg "_law_grown" = some (.ref a_grown)
  a_end : Addr
  d_end : FuncData
  F_end : Fun K "_law_end" "_law_end" s_end a_end d_end
  b_end : Binds K d_end ["_law_flat_here", "_law_k"] []
  g_end : mg "_law_end" = some (.ref a_end)
  a_over : Addr
  d_over : FuncData
  F_over : Fun K "_law_over" "_law_over" s_over a_over d_over
  b_over : Binds K d_over ["_law_flat_here", "_law_k"] []
  g_over : mg "_law_over" = some (.ref a_over)
  a_beneath : Addr
  d_beneath : FuncData
  F_beneath : Fun K "_law_beneath" "_law_beneath" s_beneath a_beneath d_beneath
  b_beneath : Binds K d_beneath ["_law_flat_here", "_law_k"] []
  g_beneath : mg "_law_beneath" = some (.ref a_beneath)
  a_spot : Addr
  d_spot : FuncData
  F_spot : Fun K "_law_spot" "_law_spot" s_spot a_spot d_spot
  b_spot : Binds K d_spot ["_law_flat_here", "_law_k", "_law_at"] []
  g_spot : mg "_law_spot" = some (.ref a_spot)
  a_moved : Addr
  d_moved : FuncData
  F_moved : Fun K "_law_moved" "_law_moved" s_moved a_moved d_moved
  b_moved : Binds K d_moved ["_law_bag_here", "_law_flat_here", "_law_k"] []
  g_moved : mg "_law_moved" = some (.ref a_moved)
  a_grafted : Addr
  d_grafted : FuncData
  F_grafted : Fun K "_law_grafted" "_law_grafted" s_grafted a_grafted d_grafted
  b_grafted : Binds K d_grafted ["_law_bag_here", "_law_flat_here", "_law_k", "_law_spare"] []
  g_grafted : mg "_law_grafted" = some (.ref a_grafted)
  a_edited : Addr
  d_edited : FuncData
  F_edited : Fun K "_law_edited" "_law_edited" s_edited a_edited d_edited
  b_edited : Binds K d_edited ["_law_bag_here", "_law_flat_here", "_law_pool"] []
  g_edited : mg "_law_edited" = some (.ref a_edited)
  a_fresh : Addr
  d_fresh : FuncData
  F_fresh : Fun K "_law_fresh" "_law_fresh" s_fresh a_fresh d_fresh
  b_fresh : Binds K d_fresh ["_law_bag_here", "_law_pool"] []
  g_fresh : mg "_law_fresh" = some (.ref a_fresh)
  a_renewed : Addr
  d_renewed : FuncData
  F_renewed : Fun K "_law_renewed" "_law_renewed" s_renewed a_renewed d_renewed
  b_renewed : Binds K d_renewed ["_law_bag_here", "_law_flat_here", "_law_pool"] []
  g_renewed : mg "_law_renewed" = some (.ref a_renewed)
  a_onward : Addr
  d_onward : FuncData
  F_onward : Fun K "_law_onward" "_law_onward" s_onward a_onward d_onward
  b_onward : Binds K d_onward ["_law_bag_here", "_law_flat_here", "_law_pool"] []
  g_onward : mg "_law_onward" = some (.ref a_onward)
  a_measured : Addr
  d_measured : FuncData
  F_measured : Fun K "_law_measured" "_law_measured" s_measured a_measured d_measured
  b_measured : Binds K d_measured ["_law_label_here", "_law_sizes"] []
  g_measured : mg "_law_measured" = some (.ref a_measured)
  a_pairs : Addr
  d_pairs : FuncData
  F_pairs : Fun K "_law_pairs" "_law_pairs" s_pairs a_pairs d_pairs
  b_pairs : Binds K d_pairs ["_law_node", "_law_rows"] []
  g_pairs : mg "_law_pairs" = some (.ref a_pairs)
  a_due : Addr
  d_due : FuncData
  F_due : Fun K "_law_due" "_law_due" s_due a_due d_due
  b_due : Binds K d_due ["_law_old", "_law_new"] []
  g_due : mg "_law_due" = some (.ref a_due)
  a_refused : Addr
  d_refused : FuncData
  F_refused : Fun K "_law_refused" "_law_refused" s_refused a_refused d_refused
  b_refused : Binds K d_refused ["_law_laid", "_law_patches", "_law_mark"] []
  g_refused : mg "_law_refused" = some (.ref a_refused)
  a_stranger : Addr
  d_stranger : FuncData
  F_stranger : Fun K "_law_stranger" "_law_stranger" s_stranger a_stranger d_stranger
  b_stranger : Binds K d_stranger ["_law_bag_here", "_law_flat_here"] []
  g_stranger : mg "_law_stranger" = some (.ref a_stranger)
  a_taken : Addr
  d_taken : FuncData
  F_taken : Fun K "_law_taken" "_law_taken" s_taken a_taken d_taken
  b_taken : Binds K d_taken ["_law_bag_here", "_law_laid", "_law_old", "_law_new", "_law_rows"] []
  g_taken : mg "_law_taken" = some (.ref a_taken)
  a_law : Addr
  d_law : FuncData
  F_law : Fun K "law" "law" s_law a_law d_law
  b_law : Binds K d_law ["_law_script"] []
  g_law : mg "law" = some (.ref a_law)
  U_WORDS : Addr
  g_WORDS : mg "WORDS" = some (.ref U_WORDS)
  sq_WORDS : ∀ H, SqT K H U_WORDS [V.str "drop", V.str "put", V.str "move", V.str "say"]
  wt_WORDS : ∃ o, K.lookup U_WORDS = some o ∧ o.cls = .type "tuple" ∧ o.dict = none
  U_LENGTHS : Addr
  g_LENGTHS : mg "LENGTHS" = some (.ref U_LENGTHS)
  sq_LENGTHS : ∀ H, SqT K H U_LENGTHS [V.int 2, V.int 4, V.int 3, V.int 3]
  wt_LENGTHS : ∃ o, K.lookup U_LENGTHS = some o ∧ o.cls = .type "tuple" ∧ o.dict = none
  C_Page : Addr
  g_Page : mg "Page" = some (.ref C_Page)
  cl_Page : Cls K C_Page
  na_Page_tree : NoAttr K C_Page "tree"
  na_Page_nodes : NoAttr K C_Page "nodes"
  na_Page_above : NoAttr K C_Page "above"
  na_Page_order : NoAttr K C_Page "order"
  mk_Page : Mk K C_Page a_Page_init
  sp_Page_eq : PySem.W.findIn K (.ref C_Page) "__eq__" = some (some (.ref a_Page_eq)) ∧ PySem.W.isFn K (.ref a_Page_eq) = true
  p_Page_top : Addr
  pr_Page_top : PropOf K C_Page "top" p_Page_top a_Page_top
  ty_Page : PySem.W.findIn K (.ref C_Page) "__class__" = some (some (.builtin "object.__class__")) ∧ PySem.W.specialIn K (.builtin "object.__class__") "__get__" = some (some (.builtin "getset_descriptor.__get__")) ∧ PySem.W.takesIn K (.builtin "object.__class__") = some true ∧ PySem.W.mroIn K C_Page (.type "object") = some true ∧ PySem.W.kitOne K (.ref C_Page) (.ref C_Page) = some true
  C_Patches : Addr
  g_Patches : mg "Patches" = some (.ref C_Patches)
  cl_Patches : Cls K C_Patches
  na_Patches_first_page : NoAttr K C_Patches "first_page"
  na_Patches_last_page : NoAttr K C_Patches "last_page"
  na_Patches_rows : NoAttr K C_Patches "rows"
  na_Patches_undone : NoAttr K C_Patches "undone"
  mk_Patches : Mk K C_Patches a_Patches_init
  p_Patches_page : Addr
  pr_Patches_page : PropOf K C_Patches "page" p_Patches_page a_Patches_page
  p_Patches_end : Addr
  pr_Patches_end : PropOf K C_Patches "end" p_Patches_end a_Patches_end
  p_Patches_many : Addr
  pr_Patches_many : PropOf K C_Patches "many" p_Patches_many a_Patches_many
  ty_Patches : PySem.W.findIn K (.ref C_Patches) "__class__" = some (some (.builtin "object.__class__")) ∧ PySem.W.specialIn K (.builtin "object.__class__") "__get__" = some (some (.builtin "getset_descriptor.__get__")) ∧ PySem.W.takesIn K (.builtin "object.__class__") = some true ∧ PySem.W.mroIn K C_Patches (.type "object") = some true ∧ PySem.W.kitOne K (.ref C_Patches) (.ref C_Patches) = some true
  C_Laid : Addr
  g_Laid : mg "Laid" = some (.ref C_Laid)
  cl_Laid : Cls K C_Laid
  na_Laid_kept_page : NoAttr K C_Laid "kept_page"
  na_Laid_pairs : NoAttr K C_Laid "pairs"
  na_Laid_sizes : NoAttr K C_Laid "sizes"
  na_Laid_places : NoAttr K C_Laid "places"
  na_Laid_marks : NoAttr K C_Laid "marks"
  mk_Laid : Mk K C_Laid a_Laid_init
  me_Laid_measure_again : Meth K C_Laid "measure_again" a_Laid_measure_again
  me_Laid_take : Meth K C_Laid "take" a_Laid_take
  p_Laid_page : Addr
  pr_Laid_page : PropOf K C_Laid "page" p_Laid_page a_Laid_page
  x_file : Str
  C_ScreenError : Addr
  g_ScreenError : mg "ScreenError" = some (.ref C_ScreenError)
  C_NoNode : Addr
  i_NoNode : Addr
  g_NoNode : mg "NoNode" = some (.ref C_NoNode)
  x_NoNode : ∀ P : Program, PySem.XExc.PF P x_file → PySem.XExc.ExTxt P K mg "NoNode" "mark" "no node is marked " C_NoNode i_NoNode
  xc_NoNode : ExcC K C_NoNode
  xf_NoNode : XfC K C_NoNode
  em_NoNode_NoNode : PySem.W.exmOne K (.ref C_NoNode) (.ref C_NoNode) = some true
  C_TwiceMarked : Addr
  i_TwiceMarked : Addr
  g_TwiceMarked : mg "TwiceMarked" = some (.ref C_TwiceMarked)
  x_TwiceMarked : ∀ P : Program, PySem.XExc.PF P x_file → PySem.XExc.ExTxt P K mg "TwiceMarked" "mark" "two nodes are marked " C_TwiceMarked i_TwiceMarked
  xc_TwiceMarked : ExcC K C_TwiceMarked
  xf_TwiceMarked : XfC K C_TwiceMarked
  em_TwiceMarked_TwiceMarked : PySem.W.exmOne K (.ref C_TwiceMarked) (.ref C_TwiceMarked) = some true
  C_TooMany : Addr
  i_TooMany : Addr
  g_TooMany : mg "TooMany" = some (.ref C_TooMany)
  x_TooMany : ∀ P : Program, PySem.XExc.PF P x_file → PySem.XExc.ExTxt P K mg "TooMany" "count" "too many: " C_TooMany i_TooMany
  xc_TooMany : ExcC K C_TooMany
  xf_TooMany : XfC K C_TooMany
  em_TooMany_TooMany : PySem.W.exmOne K (.ref C_TooMany) (.ref C_TooMany) = some true
  C_NotOnePage : Addr
  i_NotOnePage : Addr
  g_NotOnePage : mg "NotOnePage" = some (.ref C_NotOnePage)
  x_NotOnePage : ∀ P : Program, PySem.XExc.PF P x_file → PySem.XExc.ExTxt P K mg "NotOnePage" "mark" "not the same page: " C_NotOnePage i_NotOnePage
  xc_NotOnePage : ExcC K C_NotOnePage
  xf_NotOnePage : XfC K C_NotOnePage
  ky_NotOnePage_ScreenError : PySem.W.kitOne K (.ref C_NotOnePage) (.ref C_ScreenError) = some true
  em_NotOnePage_NotOnePage : PySem.W.exmOne K (.ref C_NotOnePage) (.ref C_NotOnePage) = some true
  ki_NotOnePage_NoNode : PySem.W.kitOne K (.ref C_NotOnePage) (.ref C_NoNode) = some false
  ne_Page : PySem.W.findIn K (.ref C_Page) "__ne__" = some (some (.builtin "object.__ne__")) ∧ PySem.W.mroIn K C_Page (.type "object") = some true
/-! ### the bag -/
structure Bag (G : Hp) (o : HO) : Prop where
  ex : ∃ (n : Addr) (ns : List Int) (i g t s : Int), o = .lst [.ref n, .int i, .int g, .int t, .int s] ∧ G n = some (.lst (ns.map V.int)) ∧ 0 ≤ i ∧ 0 ≤ g
theorem Bag.same {G G' : Hp} {o : HO} (e : Same G G') (b : Bag G o) : Bag G' o := by
  obtain ⟨n, ns, i, g, t, s, h1, h2, h3⟩ := b.ex
  exact ⟨n, ns, i, g, t, s, h1, e _ _ h2, h3⟩

section
variable {P : Program} {w : World} {K : PySem.W.Frag} {mg : Str → Option Value} {base : Heap}
def spMixed : Sp := fun vs H Q _ => ∃ n t : Int, vs = [.int n, .int t] ∧ ∀ r : Int, 0 ≤ r → r < 2147483587 → Q (.int r) H
theorem ok_mixed (T : Top K mg w) {k : Nat} : FnOk P w K mg base CX0 (k + 1) T.a_mixed T.d_mixed ["_law_number", "_law_turn"] spMixed := by
  refine T.F_mixed.ok sc_mixed (fun vs H Q E h => ?_) (fun cdv A outer s H vs Q E hr h => ?_)
  · obtain ⟨n, t, rfl, _⟩ := h
    rfl
  · obtain ⟨n, t, rfl, q⟩ := h
    refine ⟨_, (pss_cons (ps_set (i := 2) sc_mixed.nd rfl (.inl rfl) (pe_op op_modY (pe_callTy cr_int (by rfl) T.m_int (by decide +kernel) (pa_cons (pe_op op_addY (pe_op op_mulY (pe_op op_addY (xv 0) pe_int) pe_int) (pe_op op_mulY (pe_op op_addY (xv 1) pe_int) pe_int)) pa_nil)) pe_int))
      (pss_cons (ps_set (i := 3) sc_mixed.nd rfl (.inl rfl) (pe_op op_modY (pe_callTy cr_int (by rfl) T.m_int (by decide +kernel) (pa_cons (pe_op op_addY (pe_op op_addY (pe_op op_mulY (xv 2) (xv 2)) (pe_op op_mulY (xv 2) pe_int)) (pe_op op_mulY (pe_op op_addY (xv 1) pe_int) pe_int)) pa_nil)) pe_int))
      (pss_one (ps_ret (pe_op op_modY (pe_callTy cr_int (by rfl) T.m_int (by decide +kernel) (pa_cons (pe_op op_addY (pe_op op_addY (pe_op op_divY (xv 3) pe_int) (pe_op op_mulY (xv 3) pe_int)) (xv 1)) pa_nil)) pe_int))))), ?_⟩
    refine ⟨.inr ⟨by decide, by decide⟩, .inr ⟨by decide, by decide⟩, by decide, fun f _ f0 f1 => ?_⟩
    refine ⟨.inl ⟨by omega, by omega⟩, .inr ⟨by decide, by decide⟩, .inr ⟨by decide, by decide⟩, by decide, fun g _ g0 g1 => ?_⟩
    refine ⟨⟨by decide, by decide⟩, fun d _ _ => ⟨.inr ⟨by decide, by decide⟩, by decide, fun r _ r0 r1 => ?_⟩⟩
    exact q r r0 r1

def spPick : Sp := fun vs H Q _ => ∃ (G : Hp) (M : List (Addr × HO)) (b : Addr) (o : HO) (n : Int), vs = [.ref b, .int n] ∧ Sep G ((b, o) :: M) H ∧ Bag G o ∧ 0 < n ∧ n < 1073741824 ∧
  ∀ (r : Int) (o' : HO) (H' : Hp), 0 ≤ r → r < n → Bag G o' → Sep G ((b, o') :: M) H' → Q (.int r) H'
theorem ok_pick (T : Top K mg w) {k : Nat} (G_mixed : FnOk P w K mg base CX0 (k + 1) T.a_mixed T.d_mixed ["_law_number", "_law_turn"] spMixed) :
    FnOk P w K mg base CX0 (k + 2) T.a_pick T.d_pick ["_law_bag_here", "_law_many"] spPick := by
  refine T.F_pick.ok sc_pick (fun vs H Q E h => ?_) (fun cdv A outer s H vs Q E hr h => ?_)
  · obtain ⟨G, M, b, o, n, rfl, _⟩ := h
    rfl
  · obtain ⟨G, M, b, o, n, rfl, S, B, n0, n1, q⟩ := h
    obtain ⟨N, ns, i, g, t, z, rfl, hN, i0, g0⟩ := B.ex
    refine ⟨_, (pss_cons (ps_set (i := 2) sc_pick.nd rfl (.inl rfl) (pe_ix (ix_k K) (xv 0) pe_int (fun _ _ => rfl)))
      (pss_cons (ps_asg (pe_op op_addY (xv 2) pe_int) (pg_sub (xv 0) pe_int set_list))
      (pss_cons (xs_if (xt_cmp op_gtY (pe_ix (ix_k K) (xv 0) pe_int (fun _ _ => rfl)) pe_int (nomark _))
      (pss_cons (ps_set (i := 3) sc_pick.nd rfl (.inl rfl) (pe_op op_modY (pe_callTy cr_int (by rfl) T.m_int (by decide +kernel) (pa_cons (pe_ix (ix_k K) (xv 0) pe_int (fun _ _ => rfl)) pa_nil)) (xv 1)))
      (pss_cons (ps_asg (pe_op op_divY (pe_ix (ix_k K) (xv 0) pe_int (fun _ _ => rfl)) (xv 1)) (pg_sub (xv 0) pe_int set_list))
      (pss_one (ps_ret (xv 3)))))
      pss_nil)
      (pss_cons (xs_if (xt_cmp op_ltY (pe_ix (ix_k K) (xv 0) pe_int (fun _ _ => rfl)) (pe_callB (cr_lenK K) (by rfl) T.m_len (by decide +kernel) (pa_cons (pe_ix (ix_k K) (xv 0) pe_int (fun _ _ => rfl)) pa_nil)) (nomark _))
      (pss_cons (ps_set (i := 4) sc_pick.nd rfl (.inl rfl) (pe_ix (ix_k K) (pe_ix (ix_k K) (xv 0) pe_int (fun _ _ => rfl)) (pe_ix (ix_k K) (xv 0) pe_int (fun _ _ => rfl)) (fun _ _ => rfl)))
      (pss_cons (ps_asg (pe_op op_addY (pe_ix (ix_k K) (xv 0) pe_int (fun _ _ => rfl)) pe_int) (pg_sub (xv 0) pe_int set_list))
      (pss_cons (ps_set (i := 5) sc_pick.nd rfl (.inl rfl) (pe_callB cr_abs (by rfl) T.m_abs (by decide +kernel) (pa_cons (xv 4) pa_nil)))
      (pss_cons (xs_if (xt_cmp op_geY (xv 5) (pe_op op_powY pe_int pe_int) (nomark _))
      (pss_cons (ps_asg (pe_op op_divY (xv 5) (xv 1)) (pg_sub (xv 0) pe_int set_list))
      (pss_one (ps_ret (pe_op op_modY (pe_callTy cr_int (by rfl) T.m_int (by decide +kernel) (pa_cons (xv 5) pa_nil)) (xv 1)))))
      pss_nil)
      (pss_one (ps_ret (pe_op op_modY (pe_callTy cr_int (by rfl) T.m_int (by decide +kernel) (pa_cons (pe_call G_mixed (hr.mono (by omega)) (by rfl) T.g_mixed T.F_mixed.kp T.b_mixed .nil pass0 (pa_cons (pe_op op_addY (pe_op op_addY (xv 5) (xv 5)) (pe_cmpR op_ltY (xv 4) pe_int (nomark _))) (pa_cons (xv 2) pa_nil))) pa_nil)) (xv 1))))))))
      pss_nil)
      (pss_one (ps_ret (pe_op op_modY (pe_callTy cr_int (by rfl) T.m_int (by decide +kernel) (pa_cons (pe_call G_mixed (hr.mono (by omega)) (by rfl) T.g_mixed T.F_mixed.kp T.b_mixed .nil pass0 (pa_cons (pe_ix (ix_k K) (xv 0) pe_int (fun _ _ => rfl)) (pa_cons (xv 2) pa_nil))) pa_nil)) (xv 1)))))))), ?_⟩
    -- the turn
    refine ⟨_, _, .inl (SqL.of S.hd), rfl, b, _, _, 3, rfl, rfl, S.hd, rfl, ?_⟩
    have S1 := S.set (o' := .lst [.ref N, .int i, .int g, .int (t + 1), .int z])
    -- a great number's rest
    refine ⟨_, _, .inl (SqL.of S1.hd), rfl, fun e => ?_, fun e => ?_⟩
    · refine ⟨_, _, .inl (SqL.of S1.hd), rfl, n0, fun r _ r0 r1 => ?_⟩
      refine ⟨_, _, .inl (SqL.of S1.hd), rfl, ⟨n0, n1⟩, fun d _ d0 => ⟨b, _, _, 2, rfl, rfl, S1.hd, rfl, ?_⟩⟩
      exact q r _ _ r0 r1 ⟨N, ns, i, d, t + 1, z, rfl, hN, i0, d0 g0⟩ S1.set
    -- a new number
    refine ⟨_, _, .inl (SqL.of S1.hd), rfl, _, _, .inl (SqL.of S1.hd), rfl, _, .inl (SqL.of (S1.st hN)), fun e => ?_, fun e => ?_⟩
    · have hi : i < (ns.map V.int).length := of_decide_eq_true e
      obtain ⟨v, hv, hm⟩ := atI_in i0 hi
      obtain ⟨c, _, rfl⟩ := List.mem_map.mp hm
      refine ⟨_, _, .inl (SqL.of S1.hd), rfl, _, _, .inl (SqL.of S1.hd), rfl, _, _, .inl (SqL.of (S1.st hN)), hv, ?_⟩
      refine ⟨_, _, .inl (SqL.of S1.hd), rfl, b, _, _, 1, rfl, rfl, S1.hd, rfl, ?_⟩
      have S2 := S1.set (o' := .lst [.ref N, .int (i + 1), .int g, .int (t + 1), .int z])
      refine ⟨⟨by decide, by decide, by decide⟩, fun p _ => ⟨fun e => ?_, fun e => ?_⟩⟩
      · refine ⟨⟨n0, n1⟩, fun d _ d0 => ⟨b, _, _, 2, rfl, rfl, S2.hd, rfl, n0, fun r _ r0 r1 => ?_⟩⟩
        exact q r _ _ r0 r1 ⟨N, ns, i + 1, d, t + 1, z, rfl, hN, by omega, d0 (by omega)⟩ S2.set
      · refine ⟨_, _, rfl, fun m _ _ => ⟨n0, fun r _ r0 r1 => ?_⟩⟩
        exact q r _ _ r0 r1 ⟨N, ns, i + 1, g, t + 1, z, rfl, hN, by omega, g0⟩ S2
    · refine ⟨_, _, .inl (SqL.of S1.hd), rfl, _, _, rfl, fun m _ _ => ⟨n0, fun r _ r0 r1 => ?_⟩⟩
      exact q r _ _ r0 r1 ⟨N, ns, i, g, t + 1, z, rfl, hN, i0, g0⟩ S1

def spBag (K : PySem.W.Frag) : Sp := fun vs H Q _ => ∃ (G : Hp) (M : List (Addr × HO)) (a : Addr) (ns : List Int), vs = [.ref a] ∧ Sep G M H ∧ SqL K G a (ns.map V.int) ∧ ns.length ≤ 63 ∧
  ∀ (b : Addr) (o : HO) (G' H' : Hp), Same G G' → Bag G' o → Sep G' ((b, o) :: M) H' → Q (.ref b) H'
theorem ok_bag (T : Top K mg w) {k : Nat} : FnOk P w K mg base CX0 (k + 1) T.a_bag T.d_bag ["_law_script"] (spBag K) := by
  refine T.F_bag.ok sc_bag (fun vs H Q E h => ?_) (fun cdv A outer s H vs Q E hr h => ?_)
  · obtain ⟨G, M, a, ns, rfl, _⟩ := h
    rfl
  · obtain ⟨G, M, a, ns, rfl, S, hA, hl, q⟩ := h
    refine ⟨_, (pss_cons (ps_setLc (i := 2) (own := [("_law_cell", 1)]) (by rfl) sc_bag.nd rfl rfl (sw_true rfl rfl rfl (by decide +kernel)) (pi_listK K (xv 0)) (blkOk_by (N := ["_law_script", "_law_cell", "_law_numbers", "_law_seed", "_law_at"]) (sc := defScope s_bag) (by decide +kernel)) (fun _ _ _ _ _ => (pg_name (i := 1) sc_bag.nd rfl (.inl rfl))) (fun _ _ _ _ _ => pts_nil) (fun _ _ _ _ _ => (pe_callTy cr_int (by rfl) T.m_int (by decide +kernel) (pa_cons (xv 1) pa_nil))))
      (pss_cons (ps_set (i := 3) sc_bag.nd rfl (.inl rfl) (pe_callB (cr_lenK K) (by rfl) T.m_len (by decide +kernel) (pa_cons (xv 2) pa_nil)))
      (pss_cons (ps_for PassesOwn.never rfl (pi_enum (by rfl) T.m_enumerate (pa_cons (pe_slice (sl_listK K) (xv 2) po_none (po_some pe_int)) pa_nil)) (pg_tupK K 2 (pgs_cons (pg_name (i := 4) sc_bag.nd rfl (.inl rfl)) (pgs_cons (pg_name (i := 1) sc_bag.nd rfl (.inl rfl)) pgs_nil)))
      (pss_one (ps_set (i := 3) sc_bag.nd rfl (.inl rfl) (pe_op op_modY (pe_callTy cr_int (by rfl) T.m_int (by decide +kernel) (pa_cons (pe_op op_addY (pe_op op_addY (pe_op op_mulY (xv 3) pe_int) (pe_op op_modY (pe_callTy cr_int (by rfl) T.m_int (by decide +kernel) (pa_cons (pe_callB cr_abs (by rfl) T.m_abs (by decide +kernel) (pa_cons (xv 1) pa_nil)) pa_nil)) pe_int)) (pe_op op_mulY (pe_op op_addY (xv 4) pe_int) (pe_cmpR op_ltY (xv 1) pe_int (nomark _)))) pa_nil)) pe_int))))
      (pss_one (ps_ret (pe_lst (pa_cons (xv 2) (pa_cons pe_int (pa_cons pe_int (pa_cons pe_int (pa_cons (xv 3) pa_nil))))))))))), ?_⟩
    refine ⟨a, rfl, ⟨_, S.l hA⟩, fun L nL => lc_pre (xs := ns.map V.int) (fun pre H' => Sep G ((L, .lst pre) :: M) H') (S.new nL) (fun pre H' p => p.l hA) (fun _ => rfl) (fun pre x post H' e p => ?_) (fun H' S1 => ?_)⟩
    · obtain ⟨c, _, rfl⟩ := List.mem_map.mp (show x ∈ ns.map V.int by rw [e]; simp)
      have hz : pre.length ≤ 63 := by
        have z := congrArg List.length e
        rw [List.length_map, List.length_append] at z
        omega
      exact ⟨_, p.hd, smallL (by omega), p.set⟩
    · -- the seed
      have S2 := S1.frz
      have hN : upd G L (.lst (ns.map V.int)) L = some (.lst (ns.map V.int)) := upd_same
      refine ⟨_, .inl (SqL.of (S2.st hN)), ?_⟩
      refine ⟨63, rfl, L, _, rfl, SqL.of (S2.st hN), fun c nc => ?_⟩
      have S3 := S2.newG (o := .lst (cutV (ns.map V.int) none (some 63))) nc
      have s3 := S2.grow (o := .lst (cutV (ns.map V.int) none (some 63))) nc
      refine ⟨c, _, rfl, SqL.of (S3.st upd_same), for_enum (xs := cutV (ns.map V.int) none (some 63)) (fun pre σ H' => ∃ (y1 y4 : Option V) (z : Int) (G' : Hp), σ = [some (.ref a), y1, some (.ref L), some (.int z), y4] ∧
        Same (upd (upd G L (.lst (ns.map V.int))) c (.lst (cutV (ns.map V.int) none (some 63)))) G' ∧ Sep G' M H') ⟨_, _, _, _, rfl, Same.refl _, S3⟩ (fun pre σ H' h => ?_) (fun pre x post σ H' W e h nW => ?_) (fun σ H' h => ?_)⟩
      · obtain ⟨_, _, _, G', _, s4, S4⟩ := h
        exact SqL.of (S4.st (s4 _ _ upd_same))
      · obtain ⟨y1, y4, z, G', rfl, s4, S4⟩ := h
        have hx : x ∈ ns.map V.int := by
          have hm : x ∈ cutV (ns.map V.int) none (some 63) := by rw [e]; simp
          exact List.mem_of_mem_drop (List.mem_of_mem_take hm)
        obtain ⟨v, _, rfl⟩ := List.mem_map.mp hx
        have S5 := S4.newG (o := .tup [.int (pre.length : Nat), .int v]) nW
        refine ⟨.inr ⟨by decide, by decide⟩, by decide, fun r _ r0 r1 => ⟨by decide, fun u _ u0 u1 => ?_⟩⟩
        exact ⟨_, _, _, _, rfl, s4.trans (S4.grow nW), S5⟩
      · obtain ⟨y1, y4, z, G', rfl, s4, S4⟩ := h
        refine ⟨sz, fun b nb => ?_⟩
        exact q b _ G' _ ((S1.frzS).trans (s3.trans s4)) ⟨L, ns, 0, 0, 0, z, rfl, s4 _ _ (s3 _ _ hN), by decide, by decide⟩ (S4.new nb)

def spChoice (K : PySem.W.Frag) : Sp := fun vs H Q _ => ∃ (G : Hp) (M : List (Addr × HO)) (b : Addr) (o : HO) (l : Addr) (xs : List V), vs = [.ref b, .ref l] ∧ Sep G ((b, o) :: M) H ∧ Bag G o ∧ SqL K G l xs ∧ 0 < xs.length ∧ xs.length < 100000 ∧
  ∀ (v : V) (o' : HO) (H' : Hp), v ∈ xs → Bag G o' → Sep G ((b, o') :: M) H' → Q v H'
theorem ok_choice (T : Top K mg w) {k : Nat} (G_pick : FnOk P w K mg base CX0 k T.a_pick T.d_pick ["_law_bag_here", "_law_many"] spPick) : FnOk P w K mg base CX0 (k + 1) T.a_choice T.d_choice ["_law_bag_here", "_law_things"] (spChoice K) := by
  refine T.F_choice.ok sc_choice (fun vs H Q E h => ?_) (fun cdv A outer s H vs Q E hr h => ?_)
  · obtain ⟨G, M, b, o, l, xs, rfl, _⟩ := h
    rfl
  · obtain ⟨G, M, b, o, l, xs, rfl, S, B, hl, x0, x1, q⟩ := h
    refine ⟨_, (pss_one (ps_ret (pe_ix (ix_k K) (xv 1) (pe_call G_pick (hr.mono (by omega)) (by rfl) T.g_pick T.F_pick.kp T.b_pick .nil pass0 (pa_cons (xv 0) (pa_cons (pe_callB (cr_lenK K) (by rfl) T.m_len (by decide +kernel) (pa_cons (xv 1) pa_nil)) pa_nil))) (fun _ _ => rfl)))), ?_⟩
    refine ⟨_, .inl (S.l hl), G, M, b, o, _, rfl, S, B, by omega, by omega, fun r o' H' r0 r1 B' S' => ?_⟩
    obtain ⟨v, hv, hm⟩ := atI_in r0 r1
    exact ⟨_, v, .inl (S'.l hl), hv, q v o' H' hm B' S'⟩

def spMingled (K : PySem.W.Frag) : Sp := fun vs H Q _ => ∃ (G : Hp) (M : List (Addr × HO)) (b : Addr) (o : HO) (l : Addr) (xs : List V), vs = [.ref b, .ref l] ∧ Sep G ((b, o) :: M) H ∧ Bag G o ∧ SqL K G l xs ∧ xs.length < 100000 ∧
  ∀ (p : Addr) (ys : List V) (o' : HO) (G' H' : Hp), Same G G' → G' p = some (.lst ys) → ys.Perm xs → Bag G' o' → Sep G' ((b, o') :: M) H' → Q (.ref p) H'
theorem ok_mingled (T : Top K mg w) {k : Nat} (G_pick : FnOk P w K mg base CX0 k T.a_pick T.d_pick ["_law_bag_here", "_law_many"] spPick) : FnOk P w K mg base CX0 (k + 1) T.a_mingled T.d_mingled ["_law_bag_here", "_law_things"] (spMingled K) := by
  refine T.F_mingled.ok sc_mingled (fun vs H Q E h => ?_) (fun cdv A outer s H vs Q E hr h => ?_)
  · obtain ⟨G, M, b, o, l, xs, rfl, _⟩ := h
    rfl
  · obtain ⟨G, M, b, o, l, xs, rfl, S, B, hl, x1, q⟩ := h
    refine ⟨_, (pss_cons (ps_set (i := 2) sc_mingled.nd rfl (.inl rfl) (pe_callTy (call_listK K) (by rfl) T.m_list (by decide +kernel) (pa_cons (xv 1) pa_nil)))
      (pss_cons (ps_set (i := 3) sc_mingled.nd rfl (.inl rfl) (pe_lst pa_nil))
      (pss_cons (ps_for PassesOwn.never rfl (pi_range1 (by rfl) T.m_range (pa_cons (pe_callB (cr_lenK K) (by rfl) T.m_len (by decide +kernel) (pa_cons (xv 1) pa_nil)) pa_nil)) (pg_name (i := 4) sc_mingled.nd rfl (.inl rfl))
      (pss_one (ps_expr (pe_bmK K PySem.F.plainAttrs_list PySem.F.slot_list_append PySem.F.type_list_append mt_append (xv 3) (pa_cons (pe_bmK K PySem.F.plainAttrs_list PySem.F.slot_list_pop PySem.F.type_list_pop mt_popAt (xv 2) (pa_cons (pe_call G_pick (hr.mono (by omega)) (by rfl) T.g_pick T.F_pick.kp T.b_pick .nil pass0 (pa_cons (xv 0) (pa_cons (pe_callB (cr_lenK K) (by rfl) T.m_len (by decide +kernel) (pa_cons (xv 2) pa_nil)) pa_nil))) pa_nil)) pa_nil)))))
      (pss_one (ps_ret (xv 3)))))), ?_⟩
    refine ⟨l, xs, rfl, .inl (S.l hl), fun L nL => ?_⟩
    have S1 := S.new (o := .lst xs) nL
    refine ⟨sz, fun O nO => ?_⟩
    have S2 := S1.new (o := .lst []) nO
    refine ⟨_, .inl (S2.l hl), _, rfl, by omega, by omega, for_range (lo := 0) (n := (xs.length : Int).toNat) (fun i σ H' => ∃ (y4 : Option V) (o' : HO) (ls os : List V), σ = [some (.ref b), some (.ref l), some (.ref L), some (.ref O), y4] ∧
      Bag G o' ∧ Sep G ((O, .lst os) :: (L, .lst ls) :: (b, o') :: M) H' ∧ ls.length + i = xs.length ∧ os.length = i ∧ (os ++ ls).Perm xs) ?_ (fun i σ H' hi h => ?_) (fun σ H' h => ?_)⟩
    · exact ⟨_, o, xs, [], rfl, B, S2, by omega, rfl, List.Perm.refl _⟩
    · obtain ⟨y4, o', ls, os, rfl, B', S3, e1, e2, pm⟩ := h
      have S4 := (S3.sw).perm (List.Perm.cons _ (List.Perm.swap _ _ _))
      have S5 := S4.sw
      -- out.append(left.pop(pick(bag, len(left))))
      refine ⟨.inl ⟨rfl, _, SqL.of S3.hd⟩, .inl ⟨rfl, _, SqL.of S4.hd⟩, _, .inl (SqL.of S4.hd), G, _, b, o', _, rfl, S5, B', by omega, by omega, fun r o2 H2 r0 r1 B2 S6 => ?_⟩
      have S7 := S6.sw
      obtain ⟨v, hv, hm⟩ := atI_in r0 r1
      have S8 := S7.set (o' := .lst (ls.eraseIdx r.toNat))
      have S9 := (S8.perm (List.Perm.cons _ (List.Perm.swap _ _ _))).sw
      refine ⟨L, ls, r, r.toNat, v, rfl, rfl, S7.hd, by omega, by omega, seqIdx r0 r1, atN r0 hv, O, os, v, rfl, rfl, S9.hd, smallL (by omega), ?_⟩
      refine ⟨_, o2, ls.eraseIdx r.toNat, os ++ [v], rfl, B2, S9.set, ?_, ?_, ?_⟩
      · rw [List.length_eraseIdx_of_lt (by omega)]
        omega
      · rw [List.length_append, e2]
        rfl
      · refine List.Perm.trans ?_ pm
        rw [List.append_assoc, List.singleton_append]
        refine List.Perm.append_left _ ?_
        exact perm_erase (atN r0 hv)
    · obtain ⟨y4, o', ls, os, rfl, B', S3, e1, e2, pm⟩ := h
      have S4 := ((S3.frz).drop)
      exact q O os o' _ _ S3.frzS upd_same (by
        have e3 : ls = [] := List.eq_nil_of_length_eq_zero (by omega)
        rw [e3, List.append_nil] at pm
        exact pm) (B'.same S3.frzS) S4

end
end K19
set_option Elab.async false
set_option linter.all false
set_option maxRecDepth 100000
set_option maxHeartbeats 4000000
namespace K19
open PySem PySem.Spec PyProof.Rows L2 XL
/-! ### data of a bounded size -/
theorem showAll : ∀ {xs : List PyData}, (∀ x ∈ xs, x.showable = true) → PyData.showableAll xs = true
  | [], _ => by simp only [PyData.showableAll]
  | x :: xs, h => by
    simp only [PyData.showableAll, h x (by simp), showAll (xs := xs) fun y hy => h y (List.mem_cons_of_mem _ hy), Bool.and_self]
theorem layAll : ∀ {xs : List PyData}, (∀ x ∈ xs, x.canLay0 = true) → PyData.canLayAll0 xs = true
  | [], _ => by simp only [PyData.canLayAll0]
  | x :: xs, h => by
    simp only [PyData.canLayAll0, h x (by simp), layAll (xs := xs) fun y hy => h y (List.mem_cons_of_mem _ hy), Bool.and_self]
theorem depthAll_le {n : Nat} : ∀ {xs : List PyData}, (∀ x ∈ xs, x.depth ≤ n) → PyData.depthAll xs ≤ n
  | [], _ => by simp only [PyData.depthAll]; omega
  | x :: xs, h => by
    have h1 := h x (by simp)
    have h2 := depthAll_le (xs := xs) fun y hy => h y (List.mem_cons_of_mem _ hy)
    simp only [PyData.depthAll]
    omega
theorem shortAll {n : Nat} : ∀ {xs : List PyData}, (∀ x ∈ xs, x.leavesShort n = true) → PyData.leavesShortAll n xs = true
  | [], _ => by simp only [PyData.leavesShortAll]
  | x :: xs, h => by
    simp only [PyData.leavesShortAll, h x (by simp), shortAll (xs := xs) fun y hy => h y (List.mem_cons_of_mem _ hy), Bool.and_self]
theorem weightAll_le {n : Nat} : ∀ {xs : List PyData}, (∀ x ∈ xs, x.weight ≤ n) → PyData.weightAll xs ≤ xs.length * (n + 1)
  | [], _ => by simp only [PyData.weightAll]; omega
  | x :: xs, h => by
    have h1 := h x (by simp)
    have h2 := weightAll_le (xs := xs) fun y hy => h y (List.mem_cons_of_mem _ hy)
    simp only [PyData.weightAll, List.length_cons, Nat.add_mul]
    omega
structure Fit (w dp : Nat) (d : PyData) : Prop where
  cl : d.canLay0 = true
  sh : d.showable = true
  ls : d.leavesShort 8 = true
  dp : d.depth ≤ dp
  wt : d.weight ≤ w
theorem Fit.mono {w dp w' dp' : Nat} {d : PyData} (h : Fit w dp d) (h1 : w ≤ w') (h2 : dp ≤ dp') : Fit w' dp' d := ⟨h.cl, h.sh, h.ls, Nat.le_trans h.dp h2, Nat.le_trans h.wt h1⟩
theorem Fit.shaped {w dp : Nat} {d : PyData} (h : Fit w dp d) (h2 : dp ≤ 64) : SeqAt.shaped d = true := by
  unfold SeqAt.shaped
  rw [h.cl, decide_eq_true (Nat.le_trans h.dp h2)]
  rfl
theorem Fit.self {w dp : Nat} {d : PyData} (h : Fit w dp d) : PyData.eqv d d = true := SeqAt.eqv_refl d h.cl
structure Shw (d : PyData) : Prop where
  sh : d.showable = true
  nd : d.hasDict = false
  dp : d.depth ≤ 64
  ln : d.shown.length ≤ sizeLine
theorem Fit.shw {w dp : Nat} {d : PyData} (h : Fit w dp d) (h1 : w ≤ 1048576) (h2 : dp ≤ 64) : Shw d :=
  ⟨h.sh, PyData.hasDict_of_canLay d h.cl, Nat.le_trans h.dp h2, PyData.shown_fits (B := 8) (by decide) (by decide) h.ls (Nat.le_trans h.wt (Nat.le_trans h1 (by decide)))⟩
theorem Fit.tup {w dp : Nat} {ds : List PyData} (hw : PyData.weightAll ds ≤ w) (h : ∀ d ∈ ds, ∃ w', Fit w' dp d) : Fit w (dp + 1) (.tuple ds) := by
  have dl := depthAll_le (n := dp) fun d hd => (h d hd).choose_spec.dp
  refine ⟨?_, ?_, ?_, ?_, ?_⟩
  · simp only [PyData.canLay0]; exact layAll fun d hd => (h d hd).choose_spec.cl
  · simp only [PyData.showable]; exact showAll fun d hd => (h d hd).choose_spec.sh
  · simp only [PyData.leavesShort]; exact shortAll fun d hd => (h d hd).choose_spec.ls
  · simp only [PyData.depth]; omega
  · simp only [PyData.weight]; exact hw
theorem Fit.lst {w dp : Nat} {ds : List PyData} (hw : PyData.weightAll ds ≤ w) (h : ∀ d ∈ ds, ∃ w', Fit w' dp d) : Fit w (dp + 1) (.list ds) := by
  have dl := depthAll_le (n := dp) fun d hd => (h d hd).choose_spec.dp
  refine ⟨?_, ?_, ?_, ?_, ?_⟩
  · simp only [PyData.canLay0]; exact layAll fun d hd => (h d hd).choose_spec.cl
  · simp only [PyData.showable]; exact showAll fun d hd => (h d hd).choose_spec.sh
  · simp only [PyData.leavesShort]; exact shortAll fun d hd => (h d hd).choose_spec.ls
  · simp only [PyData.depth]; omega
  · simp only [PyData.weight]; exact hw
theorem Fit.tups {w dp : Nat} {ds : List PyData} (h : ∀ d ∈ ds, Fit w dp d) : Fit (ds.length * (w + 1)) (dp + 1) (.tuple ds) := .tup (weightAll_le fun d hd => (h d hd).wt) fun d hd => ⟨w, h d hd⟩
theorem Fit.lsts {w dp : Nat} {ds : List PyData} (h : ∀ d ∈ ds, Fit w dp d) : Fit (ds.length * (w + 1)) (dp + 1) (.list ds) := .lst (weightAll_le fun d hd => (h d hd).wt) fun d hd => ⟨w, h d hd⟩
theorem Fit.str {z : Str} {w : Nat} (h : ∀ c ∈ z.cps.toList, c < 1114112) (l : z.length ≤ w) : Fit w 0 (.str z) := by
  refine ⟨?_, by simp only [PyData.showable], ?_, by simp only [PyData.depth]; omega, ?_⟩
  · simp only [PyData.canLay0]
    unfold PyData.strOk
    rw [← Array.all_toList, List.all_eq_true]
    exact fun c hc => decide_eq_true (h c hc)
  · simp only [PyData.leavesShort]
    rw [List.all_eq_true]
    exact fun c hc => decide_eq_true (Nat.lt_trans (h c hc) (by decide))
  · simp only [PyData.weight]
    exact l
theorem LS_low : ∀ c ∈ LS.cps.toList, c < 1114112 := by decide +kernel
theorem Fit.name {z : Str} {a b : Nat} (h : Lt a b z) : Fit b 0 (.str z) := .str (fun c hc => LS_low c (h.ch c hc)) h.hi
theorem dig_short : ∀ n : Nat, n < 10 → (PyData.shown (.int (n : Nat))).length ≤ 8 ∧ PyData.weight (.int (n : Nat)) ≤ 4 ∧ PyData.showable (.int (n : Nat)) = true := by decide +kernel
theorem Fit.digit {n : Int} (h0 : 0 ≤ n) (h1 : n ≤ 9) : Fit 4 0 (.int n) := by
  obtain ⟨k, rfl⟩ := Int.eq_ofNat_of_zero_le h0
  have z := dig_short k (by omega)
  refine ⟨by simp only [PyData.canLay0], z.2.2, ?_, by simp only [PyData.depth]; omega, z.2.1⟩
  simp only [PyData.leavesShort]
  exact decide_eq_true z.1
/-! ### data at a value -/
theorem dp_tup {K : PySem.W.Frag} {G : Hp} {v : V} {ds : List PyData} (h : Dp K G v (.tuple ds)) : ∃ a xs, v = .ref a ∧ SqT K G a xs ∧ DpAll K G xs ds := by
  cases h with
  | tup h1 h2 => exact ⟨_, _, rfl, h1, h2⟩
theorem dpa_cons {K : PySem.W.Frag} {G : Hp} {xs : List V} {d : PyData} {ds : List PyData} (h : DpAll K G xs (d :: ds)) : ∃ x r, xs = x :: r ∧ Dp K G x d ∧ DpAll K G r ds := by
  cases h with
  | cons h1 h2 => exact ⟨_, _, rfl, h1, h2⟩
theorem dpa_nil {K : PySem.W.Frag} {G : Hp} {xs : List V} (h : DpAll K G xs []) : xs = [] := by
  cases h
  rfl
theorem dp_str {K : PySem.W.Frag} {G : Hp} {v : V} {z : Str} (h : Dp K G v (.str z)) : v = .str z := by
  cases h
  rfl
theorem dpa_len {K : PySem.W.Frag} {G : Hp} : ∀ {xs : List V} {ds : List PyData}, DpAll K G xs ds → xs.length = ds.length
  | _, _, .nil => rfl
  | _, _, .cons _ h => congrArg (· + 1) (dpa_len h)
theorem dpa_get {K : PySem.W.Frag} {G : Hp} : ∀ {xs : List V} {ds : List PyData} {i : Nat} {x : V}, DpAll K G xs ds → xs[i]? = some x → ∃ d, ds[i]? = some d ∧ Dp K G x d
  | _, _, _, _, .nil, h => by simp at h
  | _, _, 0, _, .cons h1 _, h => by
    simp at h
    subst h
    exact ⟨_, rfl, h1⟩
  | _, _, i + 1, _, .cons _ h2, h => by
    rw [List.getElem?_cons_succ] at h
    obtain ⟨d, e1, e2⟩ := dpa_get h2 h
    exact ⟨d, by rw [List.getElem?_cons_succ]; exact e1, e2⟩
theorem dpa_app {K : PySem.W.Frag} {G : Hp} : ∀ {xs ys : List V} {ds es : List PyData}, DpAll K G xs ds → DpAll K G ys es → DpAll K G (xs ++ ys) (ds ++ es)
  | _, _, _, _, .nil, h => h
  | _, _, _, _, .cons h1 h2, h => .cons h1 (dpa_app h2 h)
theorem dpa_take {K : PySem.W.Frag} {G : Hp} : ∀ {xs : List V} {ds : List PyData} (n : Nat), DpAll K G xs ds → DpAll K G (xs.take n) (ds.take n)
  | _, _, 0, _ => .nil
  | _, _, _ + 1, .nil => .nil
  | _, _, n + 1, .cons h1 h2 => .cons h1 (dpa_take n h2)
theorem dpa_drop {K : PySem.W.Frag} {G : Hp} : ∀ {xs : List V} {ds : List PyData} (n : Nat), DpAll K G xs ds → DpAll K G (xs.drop n) (ds.drop n)
  | _, _, 0, h => h
  | _, _, _ + 1, .nil => .nil
  | _, _, n + 1, .cons _ h2 => dpa_drop n h2
theorem dpa_one {K : PySem.W.Frag} {G : Hp} {v : V} {d : PyData} (h : Dp K G v d) : DpAll K G [v] [d] := .cons h .nil
theorem Sep.mk {G H : Hp} {M : List (Addr × HO)} {p : Addr} {o : HO} (S : Sep G M H) (h : H p = none) : ∃ G', Same G G' ∧ Sep G' M (upd H p o) ∧ G' p = some o := ⟨_, S.grow h, S.newG h, upd_same⟩

/-! ### fields -/
theorem putF_ne {f g : Str} {v x : V} {r : List (Str × V)} (h : decide (g = f) = false := by decide +kernel) : putF f v ((g, x) :: r) = (g, x) :: putF f v r := by
  show (if g = f then _ else _) = _
  rw [if_neg (of_decide_eq_false h)]
theorem putF_eq {f : Str} {v x : V} {r : List (Str × V)} : putF f v ((f, x) :: r) = (f, v) :: r := by
  show (if f = f then _ else _) = _
  rw [if_pos rfl]
theorem putF_nil {f : Str} {v : V} : putF f v [] = [(f, v)] := rfl
theorem lk_ne {f g : Str} {x : V} {r : List (Str × V)} (h : (f == g) = false := by decide +kernel) : List.lookup f ((g, x) :: r) = List.lookup f r := by simp [List.lookup, h]
theorem lk_eq {f : Str} {x : V} {r : List (Str × V)} : List.lookup f ((f, x) :: r) = some x := by simp [List.lookup]
theorem Sep.keep {G H : Hp} {M : List (Addr × HO)} {p : Addr} {o : HO} (S : Sep G ((p, o) :: M) H) : ∃ G', Same G G' ∧ Sep G' M H ∧ G' p = some o := ⟨_, S.frzS, S.frz, upd_same⟩

section
variable {P : Program} {w : World} {K : PySem.W.Frag} {mg : Str → Option Value} {base : Heap}
/-! ### drawn texts, labels -/
structure Tx (a b : Nat) (z : Str) : Prop where
  lo : a ≤ z.length
  hi : z.length ≤ b
  ch : ∀ c ∈ z.cps.toList, c < 128
theorem Tx.wide {a b a' b' : Nat} {z : Str} (h : Tx a b z) (h1 : a' ≤ a) (h2 : b ≤ b') : Tx a' b' z := ⟨Nat.le_trans h1 h.lo, Nat.le_trans h.hi h2, h.ch⟩
theorem Tx.app {a b c d : Nat} {x y : Str} (h : Tx a b x) (k : Tx c d y) : Tx (a + c) (b + d) (x ++ y) := by
  have h1 := h.lo; have h2 := h.hi; have h3 := k.lo; have h4 := k.hi
  refine ⟨by rw [app_len]; omega, by rw [app_len]; omega, fun e he => ?_⟩
  rw [app_tl] at he
  rcases List.mem_append.mp he with z | z
  · exact h.ch e z
  · exact k.ch e z
theorem Tx.lit {a b : Nat} (z : Str) (h : (Nat.ble a z.length && Nat.ble z.length b && z.cps.toList.all fun c => decide (c < 128)) = true) : Tx a b z := by
  rw [Bool.and_eq_true, Bool.and_eq_true] at h
  exact ⟨Nat.le_of_ble_eq_true h.1.1, Nat.le_of_ble_eq_true h.1.2, fun c hc => of_decide_eq_true (List.all_eq_true.mp h.2 c hc)⟩
def spText : Sp := fun vs H Q _ => ∃ (G : Hp) (M : List (Addr × HO)) (b : Addr) (o : HO) (l m : Nat), vs = [.ref b, .int (l : Nat), .int (m : Nat)] ∧ Sep G ((b, o) :: M) H ∧ Bag G o ∧ l ≤ m ∧ m ≤ 1000 ∧
  ∀ (z : Str) (o' : HO) (H' : Hp), Tx l m z → Bag G o' → Sep G ((b, o') :: M) H' → Q (.str z) H'
theorem ok_text (T : Top K mg w) {k : Nat} (G_pick : FnOk P w K mg base CX0 k T.a_pick T.d_pick ["_law_bag_here", "_law_many"] spPick) : FnOk P w K mg base CX0 (k + 1) T.a_text T.d_text ["_law_bag_here", "_law_least", "_law_most"] spText := by
  refine T.F_text.ok sc_text (fun vs H Q E h => ?_) (fun cdv A outer s H vs Q E hr h => ?_)
  · obtain ⟨G, M, b, o, l, m, rfl, _⟩ := h
    rfl
  · obtain ⟨G, M, b, o, l, m, rfl, S, B, l1, m1, q⟩ := h
    refine ⟨_, (pss_cons (ps_set (i := 3) sc_text.nd rfl (.inl rfl) pe_str)
      (pss_cons (ps_set (i := 3) sc_text.nd rfl (.inl rfl) (pe_op op_addY (xv 3) pe_str))
      (pss_cons (ps_set (i := 4) sc_text.nd rfl (.inl rfl) pe_str)
      (pss_cons (ps_for PassesOwn.never rfl (pi_range1 (by rfl) T.m_range (pa_cons (pe_op op_addY (xv 1) (pe_call G_pick (hr.mono (by omega)) (by rfl) T.g_pick T.F_pick.kp T.b_pick .nil pass0 (pa_cons (xv 0) (pa_cons (pe_op op_addY (pe_op op_subY (xv 2) (xv 1)) pe_int) pa_nil)))) pa_nil)) (pg_name (i := 5) sc_text.nd rfl (.inl rfl))
      (pss_one (ps_set (i := 4) sc_text.nd rfl (.inl rfl) (pe_op op_addY (xv 4) (pe_ix (ix_k K) (xv 3) (pe_call G_pick (hr.mono (by omega)) (by rfl) T.g_pick T.F_pick.kp T.b_pick .nil pass0 (pa_cons (xv 0) (pa_cons (pe_callB (cr_lenK K) (by rfl) T.m_len (by decide +kernel) (pa_cons (xv 3) pa_nil)) pa_nil))) (fun _ _ => rfl))))))
      (pss_one (ps_ret (xv 4))))))), ?_⟩
    refine ⟨by decide +kernel, fun sg hsg => ?_⟩
    have hlen : sg.length = 94 := by rw [hsg]; decide +kernel
    have hch : ∀ c ∈ sg.cps.toList, c < 128 := by rw [hsg]; decide +kernel
    refine ⟨G, M, b, o, _, rfl, S, B, by omega, by omega, fun r o1 H1 r0 r1 B1 S1 => ?_⟩
    refine ⟨_, rfl, by omega, by omega, for_range (lo := 0) (n := ((l : Int) + r).toNat) (fun i σ H' => ∃ (y5 : Option V) (z : Str) (o' : HO), σ = [some (.ref b), some (.int (l : Nat)), some (.int (m : Nat)), some (.str sg), some (.str z), y5] ∧ z.length = i ∧ (∀ c ∈ z.cps.toList, c < 128) ∧
      Bag G o' ∧ Sep G ((b, o') :: M) H') ⟨_, _, o1, rfl, rfl, (fun c hc => absurd hc (show c ∉ ([] : List Nat) by simp)), B1, S1⟩ (fun i σ H' hi h => ?_) (fun σ H' h => ?_)⟩
    · obtain ⟨y5, z, o', rfl, hz, hzc, B', S'⟩ := h
      refine ⟨small (by omega), G, M, b, o', _, rfl, S', B', by omega, by omega, fun r2 o2 H2 r20 r21 B2 S2 => ?_⟩
      obtain ⟨c, hc, hcm⟩ := atI_in (xs := sg.cps.toList) r20 (by rw [Array.length_toList]; exact r21)
      refine ⟨c, small (by omega), hc, ?_, fun z2 hz2 => ?_⟩
      · rw [hz]
        exact small (by show i + 1 ≤ 100000; omega)
      · refine ⟨_, z2, o2, rfl, ?_, fun d hd => ?_, B2, S2⟩
        · rw [hz2, PySem.Str.length_append, hz]
          rfl
        · rw [hz2, app_tl] at hd
          rcases List.mem_append.mp hd with k | k
          · exact hzc d k
          · have : d = c := by simpa using k
            rw [this]
            exact hch c hcm
    · obtain ⟨y5, z, o', rfl, hz, hzc, B', S'⟩ := h
      exact q z o' H' ⟨by omega, by omega, hzc⟩ B' S'
theorem digit_tx {r : Int} (h0 : 0 ≤ r) (h1 : r < 10) : Tx 1 1 (toString r : Str) := by
  have h : r = 0 ∨ r = 1 ∨ r = 2 ∨ r = 3 ∨ r = 4 ∨ r = 5 ∨ r = 6 ∨ r = 7 ∨ r = 8 ∨ r = 9 := by omega
  rcases h with rfl | rfl | rfl | rfl | rfl | rfl | rfl | rfl | rfl | rfl <;> exact Tx.lit _ (by decide +kernel)
def spLabel : Sp := fun vs H Q _ => ∃ (G : Hp) (M : List (Addr × HO)) (b : Addr) (o : HO), vs = [.ref b] ∧ Sep G ((b, o) :: M) H ∧ Bag G o ∧
  ∀ (z : Str) (o' : HO) (G' H' : Hp), Tx 1 20 z → Same G G' → Bag G' o' → Sep G' ((b, o') :: M) H' → Q (.str z) H'
theorem ok_label (T : Top K mg w) {k : Nat} (G_pick : FnOk P w K mg base CX0 k T.a_pick T.d_pick ["_law_bag_here", "_law_many"] spPick) (G_text : FnOk P w K mg base CX0 (k + 1) T.a_text T.d_text ["_law_bag_here", "_law_least", "_law_most"] spText)
    (G_choice : FnOk P w K mg base CX0 (k + 1) T.a_choice T.d_choice ["_law_bag_here", "_law_things"] (spChoice K)) : FnOk P w K mg base CX0 (k + 2) T.a_label T.d_label ["_law_bag_here"] spLabel := by
  refine T.F_label.ok sc_label (fun vs H Q E h => ?_) (fun cdv A outer s H vs Q E hr h => ?_)
  · obtain ⟨G, M, b, o, rfl, _⟩ := h
    rfl
  · obtain ⟨G, M, b, o, rfl, S, B, q⟩ := h
    refine ⟨_, (pss_cons (ps_set (i := 1) sc_label.nd rfl (.inl rfl) (pe_call G_pick (hr.mono (by omega)) (by rfl) T.g_pick T.F_pick.kp T.b_pick .nil pass0 (pa_cons (xv 0) (pa_cons pe_int pa_nil))))
      (pss_cons (xs_if (xt_cmp op_ltY (xv 1) pe_int (nomark _))
      (pss_one (ps_ret pe_str))
      pss_nil)
      (pss_cons (xs_if (xt_cmp (op_eqLK K hr.u190) (xv 1) pe_int (nomark _))
      (pss_one (ps_ret pe_str))
      pss_nil)
      (pss_cons (xs_if (xt_cmp op_ltY (xv 1) pe_int (nomark _))
      (pss_one (ps_ret (pe_op op_addY pe_str (pe_callTy cr_strI (by rfl) T.m_str (by decide +kernel) (pa_cons (pe_call G_pick (hr.mono (by omega)) (by rfl) T.g_pick T.F_pick.kp T.b_pick .nil pass0 (pa_cons (xv 0) (pa_cons pe_int pa_nil))) pa_nil)))))
      pss_nil)
      (pss_cons (xs_if (xt_cmp (op_eqLK K hr.u190) (xv 1) pe_int (nomark _))
      (pss_one (ps_ret (pe_op op_addY pe_str (pe_call G_text (hr.mono (by omega)) (by rfl) T.g_text T.F_text.kp T.b_text .nil pass0 (pa_cons (xv 0) (pa_cons pe_int (pa_cons pe_int pa_nil)))))))
      pss_nil)
      (pss_cons (xs_if (xt_cmp (op_eqLK K hr.u190) (xv 1) pe_int (nomark _))
      (pss_one (ps_ret (pe_call G_choice (hr.mono (by omega)) (by rfl) T.g_choice T.F_choice.kp T.b_choice .nil pass0 (pa_cons (xv 0) (pa_cons (pe_lst (pa_cons pe_str (pa_cons pe_str (pa_cons pe_str (pa_cons pe_str (pa_cons pe_str (pa_cons pe_str (pa_cons pe_str (pa_cons pe_str (pa_cons pe_str (pa_cons pe_str (pa_cons pe_str (pa_cons pe_str (pa_cons pe_str (pa_cons pe_str (pa_cons pe_str (pa_cons pe_str (pa_cons pe_str (pa_cons pe_str (pa_cons pe_str pa_nil)))))))))))))))))))) pa_nil)))))
      pss_nil)
      (pss_one (ps_ret (pe_call G_text (hr.mono (by omega)) (by rfl) T.g_text T.F_text.kp T.b_text .nil pass0 (pa_cons (xv 0) (pa_cons pe_int (pa_cons pe_int pa_nil)))))))))))), ?_⟩
    refine ⟨G, M, b, o, _, rfl, S, B, by omega, by omega, fun r o1 H1 r0 r1 B1 S1 => ?_⟩
    have sr := Same.refl G
    refine ⟨fun e => ?_, fun e => ⟨fun e => ?_, fun e => ⟨fun e => ?_, fun e => ⟨fun e => ?_, fun e => ⟨fun e => ?_, fun e => ?_⟩⟩⟩⟩⟩
    · exact q _ o1 G _ (Tx.lit _ (by decide +kernel)) sr B1 S1
    · exact q _ o1 G _ (Tx.lit _ (by decide +kernel)) sr B1 S1
    · refine ⟨G, M, b, o1, _, rfl, S1, B1, by omega, by omega, fun r2 o2 H2 r20 r21 B2 S2 => ?_⟩
      have e1 := digit_tx r20 r21
      have e0 : Tx 5 5 ("text " : Str) := Tx.lit _ (by decide +kernel)
      refine ⟨?_, ?_, fun z hz => q z o2 G _ ?_ sr B2 S2⟩
      · have h : r2 = 0 ∨ r2 = 1 ∨ r2 = 2 ∨ r2 = 3 ∨ r2 = 4 ∨ r2 = 5 ∨ r2 = 6 ∨ r2 = 7 ∨ r2 = 8 ∨ r2 = 9 := by omega
        rcases h with rfl | rfl | rfl | rfl | rfl | rfl | rfl | rfl | rfl | rfl <;> decide +kernel
      · have := e1.hi; have := e0.hi
        exact small (by omega)
      · rw [hz]
        exact (e0.app e1).wide (by decide) (by decide)
    · refine ⟨G, M, b, o1, 0, 13, rfl, S1, B1, by omega, by omega, fun z o2 H2 hz B2 S2 => ?_⟩
      have e1 : Tx 7 7 ("button " : Str) := Tx.lit _ (by decide +kernel)
      refine ⟨?_, fun z2 hz2 => q z2 o2 G _ ?_ sr B2 S2⟩
      · have := e1.hi; have := hz.hi
        exact small (by omega)
      · rw [hz2]
        exact (e1.app hz).wide (by decide) (by decide)
    · refine ⟨sz, fun p np => ?_⟩
      refine ⟨_, M, b, o1, p, _, rfl, S1.newG np, B1.same (S1.grow np), SqL.of upd_same, by decide, by decide, fun v o2 H2 hv B2 S2 => ?_⟩
      have hz : ∃ z : Str, v = .str z ∧ Tx 1 20 z := by
        simp only [List.mem_cons, List.not_mem_nil, or_false] at hv
        rcases hv with rfl | rfl | rfl | rfl | rfl | rfl | rfl | rfl | rfl | rfl | rfl | rfl | rfl | rfl | rfl | rfl | rfl | rfl | rfl <;> exact ⟨_, rfl, Tx.lit _ (by decide +kernel)⟩
      obtain ⟨z, rfl, hz⟩ := hz
      exact q z o2 _ _ hz (S1.grow np) B2 S2
    · refine ⟨G, M, b, o1, 1, 20, rfl, S1, B1, by omega, by omega, fun z o2 H2 hz B2 S2 => ?_⟩
      exact q z o2 G _ hz sr B2 S2

end
end K19
set_option Elab.async false
set_option linter.all false
set_option maxRecDepth 100000
set_option maxHeartbeats 4000000
namespace K19
open PySem PySem.Spec PyProof.Rows L2 XL
/-! ### trees of nodes -/
inductive Tr where
  | node (m l : Str) (ks : List Tr)
def mrk : Tr → Str
  | .node m _ _ => m
def lbl : Tr → Str
  | .node _ l _ => l
def kids : Tr → List Tr
  | .node _ _ ks => ks
theorem tr_eta (t : Tr) : t = .node (mrk t) (lbl t) (kids t) := by cases t; rfl
mutual
def toD : Tr → PyData
  | .node m l ks => .tuple [.str m, .str l, .tuple (toDs ks)]
def toDs : List Tr → List PyData
  | [] => []
  | s :: r => toD s :: toDs r
end
theorem toDs_eq : ∀ ps, toDs ps = ps.map toD
  | [] => by simp only [toDs, List.map_nil]
  | s :: r => by simp only [toDs, List.map_cons, toDs_eq r]
theorem toD_eq (t : Tr) : toD t = .tuple [.str (mrk t), .str (lbl t), .tuple ((kids t).map toD)] := by
  cases t
  simp only [toD, mrk, lbl, kids, toDs_eq]
mutual
def hgt : Tr → Nat
  | .node _ _ ks => hgts ks + 1
def hgts : List Tr → Nat
  | [] => 0
  | s :: r => max (hgt s) (hgts r)
end
theorem hgt_eq (t : Tr) : hgt t = hgts (kids t) + 1 := by
  cases t
  simp only [hgt, kids]
theorem hgt_mem {p : Tr} : ∀ {ps : List Tr}, p ∈ ps → hgt p ≤ hgts ps
  | q :: r, h => by
    rcases List.mem_cons.mp h with rfl | h
    · simp only [hgts]; omega
    · have := hgt_mem h
      simp only [hgts]; omega
theorem hgts_le {n : Nat} : ∀ {ps : List Tr}, (∀ p ∈ ps, hgt p ≤ n) → hgts ps ≤ n
  | [], _ => by simp only [hgts]; omega
  | p :: r, h => by
    have h1 := h p (by simp)
    have h2 := hgts_le (ps := r) fun q hq => h q (List.mem_cons_of_mem _ hq)
    simp only [hgts]; omega
theorem hgt_kid {p s : Tr} (h : p ∈ kids s) : hgt p + 1 ≤ hgt s := by
  have := hgt_mem h
  rw [hgt_eq s]
  omega
/-! in page order -/
mutual
def pre : Tr → List Tr
  | .node m l ks => .node m l ks :: pres ks
def pres : List Tr → List Tr
  | [] => []
  | s :: r => pre s ++ pres r
end
theorem pre_eq (t : Tr) : pre t = t :: pres (kids t) := by
  cases t
  simp only [pre, kids]
theorem pres_app : ∀ xs ys, pres (xs ++ ys) = pres xs ++ pres ys
  | [], ys => by simp only [List.nil_append, pres]
  | x :: xs, ys => by simp only [List.cons_append, pres, pres_app xs ys, List.append_assoc]
theorem pres_one (p : Tr) : pres [p] = pre p := by simp only [pres, List.append_nil]
theorem mem_pres {x : Tr} : ∀ {ps : List Tr}, x ∈ pres ps ↔ ∃ p ∈ ps, x ∈ pre p
  | [] => by simp [pres]
  | p :: r => by simp [pres, mem_pres (ps := r)]
theorem self_pre (t : Tr) : t ∈ pre t := by rw [pre_eq]; simp
theorem many_le : ∀ ps : List Tr, ps.length ≤ (pres ps).length
  | [] => by simp
  | p :: r => by
    have := many_le r
    have e := congrArg List.length (pre_eq p)
    rw [List.length_cons] at e
    simp only [pres, List.length_append, List.length_cons]
    omega
/-! from below -/
mutual
def post : Tr → List Tr
  | .node m l ks => posts ks ++ [.node m l ks]
def posts : List Tr → List Tr
  | [] => []
  | s :: r => post s ++ posts r
end
theorem post_eq (t : Tr) : post t = posts (kids t) ++ [t] := by
  cases t
  simp only [post, kids]
theorem posts_app : ∀ xs ys, posts (xs ++ ys) = posts xs ++ posts ys
  | [], ys => by simp only [List.nil_append, posts]
  | x :: xs, ys => by simp only [List.cons_append, posts, posts_app xs ys, List.append_assoc]
theorem posts_one (p : Tr) : posts [p] = post p := by simp only [posts, List.append_nil]
mutual
theorem post_perm : ∀ t, (post t).Perm (pre t)
  | .node m l ks => by
    simp only [post, pre]
    exact (List.perm_append_comm).trans (List.Perm.cons _ (posts_perm ks))
theorem posts_perm : ∀ ts, (posts ts).Perm (pres ts)
  | [] => by simp only [posts, pres]; exact List.Perm.refl _
  | t :: r => by
    simp only [posts, pres]
    exact (post_perm t).append (posts_perm r)
end
/-- ahead of a node stand those beneath it -/
theorem take_post : ∀ n t, hgt t ≤ n → ∀ i p, (post t)[i]? = some p → ∃ r, (post t).take i = r ++ posts (kids p)
  | 0, t, h, _, _, _ => by rw [hgt_eq] at h; omega
  | n + 1, t, h, i, p, e => by
    have ih := take_post n
    have go : ∀ (ps : List Tr), (∀ q ∈ ps, hgt q ≤ n) → ∀ j, (posts ps)[j]? = some p → ∃ r, (posts ps).take j = r ++ posts (kids p) := by
      intro ps
      induction ps with
      | nil => intro _ j e; simp [posts] at e
      | cons q qs ih2 =>
        intro hq j e
        simp only [posts] at e ⊢
        by_cases hj : j < (post q).length
        · rw [List.getElem?_append_left hj] at e
          obtain ⟨r, hr⟩ := ih q (hq q (by simp)) j p e
          exact ⟨r, by rw [List.take_append_of_le_length (by omega), hr]⟩
        · rw [List.getElem?_append_right (by omega)] at e
          obtain ⟨r, hr⟩ := ih2 (fun x hx => hq x (List.mem_cons_of_mem _ hx)) _ e
          exact ⟨post q ++ r, by rw [List.take_append, List.take_of_length_le (by omega), hr, List.append_assoc]⟩
    rw [post_eq t] at e ⊢
    by_cases hi : i < (posts (kids t)).length
    · rw [List.getElem?_append_left hi] at e
      obtain ⟨r, hr⟩ := go _ (fun q hq => by have := hgt_kid hq; omega) i e
      exact ⟨r, by rw [List.take_append_of_le_length (by omega), hr]⟩
    · rw [List.getElem?_append_right (by omega)] at e
      have hl : i - (posts (kids t)).length = 0 := by
        have := (List.getElem?_eq_some_iff.mp e).1
        simp at this
        omega
      rw [hl] at e
      obtain rfl : t = p := by simpa using e
      have ei : i = (posts (kids t)).length := by omega
      exact ⟨[], by rw [ei, List.take_append_of_le_length (Nat.le_refl _), List.take_length, List.nil_append]⟩
theorem kid_posts {c : Tr} : ∀ {ks : List Tr}, c ∈ ks → c ∈ posts ks
  | k :: r, h => by
    simp only [posts, List.mem_append]
    rcases List.mem_cons.mp h with rfl | h
    · exact .inl (by rw [post_eq]; simp)
    · exact .inr (kid_posts h)
/-! sizes -/
def stp (z : Str) (a p : Int × Int) : Int × Int := if z = "row" then (a.1 + p.1, if a.2 < p.2 then p.2 else a.2) else (if a.1 < p.1 then p.1 else a.1, a.2 + p.2)
def msr (z : Str) (ps : List (Int × Int)) : Int × Int := if ps = [] then (if z = "row" ∨ z = "col" then (0, 0) else (z.length, 1)) else ps.foldl (stp z) (0, 0)
mutual
def meas : Tr → Int × Int
  | .node _ l ks => msr l (meass ks)
def meass : List Tr → List (Int × Int)
  | [] => []
  | s :: r => meas s :: meass r
end
theorem meass_eq : ∀ ps, meass ps = ps.map meas
  | [] => by simp only [meass, List.map_nil]
  | s :: r => by simp only [meass, List.map_cons, meass_eq r]
theorem meas_eq (t : Tr) : meas t = msr (lbl t) ((kids t).map meas) := by
  cases t
  simp only [meas, lbl, kids, meass_eq]
/-! rectangles -/
abbrev Bx := Int × Int × Int × Int
mutual
def rects (x y : Int) : Tr → List (Str × Bx)
  | .node m l ks => (m, (x, y, (msr l (meass ks)).1, (msr l (meass ks)).2)) :: rectss (decide (l = "row")) x y ks
def rectss (row : Bool) (x y : Int) : List Tr → List (Str × Bx)
  | [] => []
  | k :: r => rects x y k ++ rectss row (if row then x + (meas k).1 else x) (if row then y else y + (meas k).2) r
end
theorem rects_eq (x y : Int) (t : Tr) : rects x y t = (mrk t, (x, y, (meas t).1, (meas t).2)) :: rectss (decide (lbl t = "row")) x y (kids t) := by
  cases t
  simp only [rects, mrk, lbl, kids, meas]
  first | rfl | (congr 2)
def offs (row : Bool) (x y : Int) : List Tr → List (Tr × Int × Int)
  | [] => []
  | k :: r => (k, x, y) :: offs row (if row then x + (meas k).1 else x) (if row then y else y + (meas k).2) r
def rectF : List (Tr × Int × Int) → List (Str × Bx)
  | [] => []
  | (t, x, y) :: r => rects x y t ++ rectF r
theorem rectss_eq (row : Bool) : ∀ (ks : List Tr) (x y : Int), rectss row x y ks = rectF (offs row x y ks)
  | [], _, _ => by simp only [rectss, offs, rectF]
  | k :: r, x, y => by simp only [rectss, offs, rectF, rectss_eq row r]
theorem rectF_app : ∀ xs ys, rectF (xs ++ ys) = rectF xs ++ rectF ys
  | [], ys => by simp only [List.nil_append, rectF]
  | (t, x, y) :: r, ys => by simp only [List.cons_append, rectF, rectF_app r ys, List.append_assoc]
mutual
theorem rects_marks (x y : Int) : ∀ t, (rects x y t).map (·.1) = (pre t).map mrk
  | .node m l ks => by simp only [rects, pre, List.map_cons, mrk, rectss_marks]
theorem rectss_marks (row : Bool) (x y : Int) : ∀ ts, (rectss row x y ts).map (·.1) = (pres ts).map mrk
  | [] => by simp only [rectss, pres, List.map_nil]
  | t :: r => by simp only [rectss, pres, List.map_append, rects_marks, rectss_marks]
end
def shf (a b : Int) (r : Str × Bx) : Str × Bx := (r.1, (r.2.1 + a, r.2.2.1 + b, r.2.2.2.1, r.2.2.2.2))
mutual
theorem rects_shift (a b x y : Int) : ∀ t, rects (x + a) (y + b) t = (rects x y t).map (shf a b)
  | .node m l ks => by
    simp only [rects, List.map_cons, shf, rectss_shift a b x y]
theorem rectss_shift (a b x y : Int) (row : Bool) : ∀ ts, rectss row (x + a) (y + b) ts = (rectss row x y ts).map (shf a b)
  | [] => by simp only [rectss, List.map_nil]
  | t :: r => by
    simp only [rectss, List.map_append, rects_shift a b x y]
    congr 1
    cases row
    · have e := rectss_shift a b x (y + (meas t).2) false r
      have e2 : y + (meas t).2 + b = y + b + (meas t).2 := by omega
      rw [e2] at e
      exact e
    · have e := rectss_shift a b (x + (meas t).1) y true r
      have e2 : x + (meas t).1 + a = x + a + (meas t).1 := by omega
      rw [e2] at e
      exact e
end
/-! the flat list of a tree -/
mutual
def fl (d : Nat) : Tr → List (Str × Str × Nat)
  | .node m l ks => (m, l, d) :: fls (d + 1) ks
def fls (d : Nat) : List Tr → List (Str × Str × Nat)
  | [] => []
  | s :: r => fl d s ++ fls d r
end
theorem fl_eq (d : Nat) (t : Tr) : fl d t = (mrk t, lbl t, d) :: fls (d + 1) (kids t) := by
  cases t
  simp only [fl, mrk, lbl, kids]
mutual
theorem fl_pre (d : Nat) : ∀ t, (fl d t).map (fun x => (x.1, x.2.1)) = (pre t).map fun t => (mrk t, lbl t)
  | .node m l ks => by simp only [fl, pre, List.map_cons, mrk, lbl, fls_pre]
theorem fls_pre (d : Nat) : ∀ ts, (fls d ts).map (fun x => (x.1, x.2.1)) = (pres ts).map fun t => (mrk t, lbl t)
  | [] => by simp only [fls, pres, List.map_nil]
  | t :: r => by simp only [fls, pres, List.map_append, fl_pre, fls_pre]
end
mutual
theorem fl_hgt (d : Nat) (n : Nat) : ∀ t, (∀ x ∈ fl d t, x.2.2 < n) → d + hgt t ≤ n
  | .node m l ks, h => by
    simp only [fl, List.mem_cons] at h
    have h0 := h (m, l, d) (.inl rfl)
    have h1 := fls_hgt (d + 1) n ks fun x hx => h x (.inr hx)
    simp only [hgt]
    rcases h1 with h1 | h1
    · rw [h1]; simp only [hgts]; show d + 1 ≤ n; exact h0
    · omega
theorem fls_hgt (d : Nat) (n : Nat) : ∀ ts, (∀ x ∈ fls d ts, x.2.2 < n) → ts = [] ∨ d + hgts ts ≤ n
  | [], _ => .inl rfl
  | t :: r, h => by
    simp only [fls, List.mem_append] at h
    have h0 := fl_hgt d n t fun x hx => h x (.inl hx)
    have h1 := fls_hgt d n r fun x hx => h x (.inr hx)
    refine .inr ?_
    simp only [hgts]
    rcases h1 with h1 | h1
    · rw [h1]; simp only [hgts]; omega
    · omega
end
/-! node values -/
theorem node_at {K : PySem.W.Frag} {G : Hp} {v : V} {t : Tr} (h : Dp K G v (toD t)) : ∃ a kv us, v = .ref a ∧ SqT K G a [.str (mrk t), .str (lbl t), .ref kv] ∧ SqT K G kv us ∧ DpAll K G us ((kids t).map toD) := by
  rw [toD_eq] at h
  obtain ⟨a, xs, rfl, h1, h2⟩ := dp_tup h
  obtain ⟨x1, r1, rfl, h3, h4⟩ := dpa_cons h2
  obtain ⟨x2, r2, rfl, h5, h6⟩ := dpa_cons h4
  obtain ⟨x3, r3, rfl, h7, h8⟩ := dpa_cons h6
  rw [dpa_nil h8] at h1
  obtain ⟨kv, us, rfl, h9, h10⟩ := dp_tup h7
  rw [dp_str h3, dp_str h5] at h1
  exact ⟨a, kv, us, rfl, h1, h9, h10⟩
theorem map_get {ps : List Tr} {i : Nat} {d : PyData} (h : (ps.map toD)[i]? = some d) : ∃ p, ps[i]? = some p ∧ d = toD p := by
  rw [List.getElem?_map] at h
  obtain ⟨p, h1, h2⟩ := Option.map_eq_some_iff.mp h
  exact ⟨p, h1, h2.symm⟩

section
variable {P : Program} {w : World} {K : PySem.W.Frag} {mg : Str → Option Value} {base : Heap}
end
end K19
set_option Elab.async false
set_option linter.all false
set_option maxRecDepth 100000
set_option maxHeartbeats 4000000
namespace K19
open PySem PySem.Spec PyProof.Rows L2 XL
section
variable {P : Program} {w : World} {K : PySem.W.Frag} {mg : Str → Option Value} {base : Heap}
/-! ### a tree out of its flat list -/
abbrev Fr3 := Str × Str × Nat
def Lv : Nat → List Fr3 → Prop
  | _, [] => True
  | p, x :: r => 1 ≤ x.2.2 ∧ x.2.2 ≤ p + 1 ∧ Lv x.2.2 r
def FlOk (fs : List Fr3) : Prop := ∃ x r, fs = x :: r ∧ x.2.2 = 0 ∧ Lv 0 r
theorem lv_pos : ∀ {p : Nat} {r : List Fr3}, Lv p r → ∀ x ∈ r, 1 ≤ x.2.2
  | _, y :: r, h, x, hx => by
    rcases List.mem_cons.mp hx with rfl | hx
    · exact h.1
    · exact lv_pos h.2.2 x hx
/-- the next one is at most one deeper -/
theorem lv_next : ∀ {p : Nat} {r : List Fr3} {i : Nat} {x y : Fr3}, Lv p r → r[i]? = some x → r[i + 1]? = some y → y.2.2 ≤ x.2.2 + 1
  | _, a :: b :: r, 0, x, y, h, e1, e2 => by
    simp at e1 e2
    subst e1 e2
    exact h.2.2.2.1
  | _, a :: r, i + 1, x, y, h, e1, e2 => by
    rw [List.getElem?_cons_succ] at e1 e2
    exact lv_next h.2.2 e1 e2
  | _, [], _, _, _, _, e1, _ => by simp at e1
  | _, [a], 0, x, y, _, e1, e2 => by simp at e2
theorem fl_next {fs : List Fr3} (h : FlOk fs) {i : Nat} {x y : Fr3} (e1 : fs[i]? = some x) (e2 : fs[i + 1]? = some y) : y.2.2 ≤ x.2.2 + 1 := by
  obtain ⟨a, r, rfl, h0, hl⟩ := h
  cases i with
  | zero =>
    simp at e1
    subst e1
    rw [List.getElem?_cons_succ] at e2
    cases r with
    | nil => simp at e2
    | cons b r =>
      simp at e2
      subst e2
      have := hl.2.1
      omega
  | succ i =>
    rw [List.getElem?_cons_succ] at e1 e2
    exact lv_next hl e1 e2
theorem fl_later {fs : List Fr3} (h : FlOk fs) {i : Nat} {x : Fr3} (hi : 1 ≤ i) (e : fs[i]? = some x) : 1 ≤ x.2.2 := by
  obtain ⟨a, r, rfl, h0, hl⟩ := h
  obtain ⟨j, rfl⟩ : ∃ j, i = j + 1 := ⟨i - 1, by omega⟩
  rw [List.getElem?_cons_succ] at e
  exact lv_pos hl x (List.mem_of_getElem? e)
/-- what a stack of trees tells -/
def told : List (Nat × Tr) → List Fr3
  | [] => []
  | (d, t) :: r => fl d t ++ told r
theorem told_same {d : Nat} : ∀ (ts : List Tr) (r : List (Nat × Tr)), told (ts.map (fun t => (d, t)) ++ r) = fls d ts ++ told r
  | [], r => by simp only [List.map_nil, List.nil_append, fls]
  | t :: ts, r => by simp only [List.map_cons, List.cons_append, told, fls, told_same ts r, List.append_assoc]
def RdAt (K : PySem.W.Frag) (G : Hp) (v : V) (p : Nat × Tr) : Prop := ∃ a nv, v = .ref a ∧ G a = some (.tup [.int (p.1 : Nat), nv]) ∧ Dp K G nv (toD p.2)
theorem RdAt.same {K : PySem.W.Frag} {G G' : Hp} {v : V} {p : Nat × Tr} (e : Same G G') (h : RdAt K G v p) : RdAt K G' v p := by
  obtain ⟨a, nv, h1, h2, h3⟩ := h
  exact ⟨a, nv, h1, e _ _ h2, dp_same e h3⟩
def FlAt (G : Hp) (v : V) (p : Fr3) : Prop := ∃ a, v = .ref a ∧ G a = some (.tup [.str p.1, .str p.2.1, .int (p.2.2 : Nat)])
theorem FlAt.same {G G' : Hp} {v : V} {p : Fr3} (e : Same G G') (h : FlAt G v p) : FlAt G' v p := by
  obtain ⟨a, h1, h2⟩ := h
  exact ⟨a, h1, e _ _ h2⟩
def spGrown (K : PySem.W.Frag) : Sp := fun vs H Q _ => ∃ (G : Hp) (M : List (Addr × HO)) (l : Addr) (us : List V) (fs : List Fr3), vs = [.ref l] ∧ Sep G M H ∧ G l = some (.lst us) ∧ Paired (FlAt G) us fs ∧ FlOk fs ∧ fs.length ≤ 1000 ∧
  ∀ (v : V) (t : Tr) (G' H' : Hp), Same G G' → Dp K G' v (toD t) → fl 0 t = fs → Sep G' M H' → Q v H'
theorem atI_last {α : Type} (xs : List α) (x : α) : atI (xs ++ [x]) (-1) = some x := by
  unfold atI ixN
  rw [if_neg (by omega), List.length_append]
  have e : (-1 + ((xs.length + [x].length : Nat) : Int)).toNat = xs.length := by simp; omega
  rw [if_pos (by simp; omega), e]
  simp
theorem prd_unsnoc {α β : Type} {F : α → β → Prop} {xs : List α} {x : α} {ys : List β} (h : Paired F (xs ++ [x]) ys) : ∃ ys' y, ys = ys' ++ [y] ∧ Paired F xs ys' ∧ F x y := by
  induction xs generalizing ys with
  | nil =>
    cases h with
    | cons h t =>
      cases t
      exact ⟨[], _, rfl, .nil, h⟩
  | cons a xs ih =>
    cases h with
    | cons h t =>
      obtain ⟨ys', y, rfl, h1, h2⟩ := ih t
      exact ⟨_ :: ys', y, rfl, .cons h h1, h2⟩
theorem nil_or_snoc {α : Type} (xs : List α) : xs = [] ∨ ∃ ys y, xs = ys ++ [y] := by
  rcases List.eq_nil_or_concat xs with h | ⟨ys, y, h⟩
  · exact .inl h
  · exact .inr ⟨ys, y, by rw [h, List.concat_eq_append]⟩
theorem rev_cons {α : Type} {xs ys : List α} {y : α} (h : xs.reverse = ys ++ [y]) : ∃ r, xs = y :: r ∧ r.reverse = ys := by
  cases xs with
  | nil => simp at h
  | cons a r =>
    rw [List.reverse_cons] at h
    obtain ⟨h1, h2⟩ := List.append_inj' h rfl
    cases h2
    exact ⟨r, rfl, h1⟩
theorem told_head {rd : List (Nat × Tr)} {d : Nat} {t : Tr} : told ((d, t) :: rd) = (mrk t, lbl t, d) :: (fls (d + 1) (kids t) ++ told rd) := by
  simp only [told, fl_eq, List.cons_append]
theorem ok_grown (T : Top K mg w) {k : Nat} : FnOk P w K mg base CX0 (k + 1) T.a_grown T.d_grown ["_law_flat_here"] (spGrown K) := by
  refine T.F_grown.ok sc_grown (fun vs H Q E h => ?_) (fun cdv A outer s H vs Q E hr h => ?_)
  · obtain ⟨G, M, l, us, fs, rfl, _⟩ := h
    rfl
  · obtain ⟨G, M, l, us, fs, rfl, S, hl, hus, ok, fl1000, q⟩ := h
    refine ⟨_, (pss_cons (ps_set (i := 1) sc_grown.nd rfl (.inl rfl) (pe_lst pa_nil))
      (pss_cons (ps_for PassesOwn.never rfl (pi_range3 (by rfl) T.m_range (pa_cons (pe_op op_subY (pe_callB (cr_lenK K) (by rfl) T.m_len (by decide +kernel) (pa_cons (xv 0) pa_nil)) pe_int) (pa_cons (pe_un un_neg pe_int) (pa_cons (pe_un un_neg pe_int) pa_nil)))) (pg_name (i := 2) sc_grown.nd rfl (.inl rfl))
      (pss_cons (ps_set (i := 3) sc_grown.nd rfl (.inl rfl) (pe_lst pa_nil))
      (pss_cons (xs_while PassesOwn.never (PW.pt (xw_and (xt_truK K (xv 1)) (pw_and1 (xt_cmp op_gtY (pe_ix (ix_k K) (pe_ix (ix_k K) (xv 1) (pe_un un_neg pe_int) (fun _ _ => rfl)) pe_int (fun _ _ => rfl)) (pe_ix (ix_k K) (pe_ix (ix_k K) (xv 0) (xv 2) (fun _ _ => rfl)) pe_int (fun _ _ => rfl)) (nomark _)))))
      (pss_one (ps_expr (pe_bmK K PySem.F.plainAttrs_list PySem.F.slot_list_append PySem.F.type_list_append mt_append (xv 3) (pa_cons (pe_ix (ix_k K) (pe_bm0 PySem.F.plainAttrs_list PySem.F.slot_list_pop PySem.F.type_list_pop mt_pop (xv 1)) pe_int (fun _ _ => rfl)) pa_nil)))))
      (pss_one (ps_expr (pe_bmK K PySem.F.plainAttrs_list PySem.F.slot_list_append PySem.F.type_list_append mt_append (xv 1) (pa_cons (pe_tup (pa_cons (pe_ix (ix_k K) (pe_ix (ix_k K) (xv 0) (xv 2) (fun _ _ => rfl)) pe_int (fun _ _ => rfl)) (pa_cons (pe_tup (pa_cons (pe_ix (ix_k K) (pe_ix (ix_k K) (xv 0) (xv 2) (fun _ _ => rfl)) pe_int (fun _ _ => rfl)) (pa_cons (pe_ix (ix_k K) (pe_ix (ix_k K) (xv 0) (xv 2) (fun _ _ => rfl)) pe_int (fun _ _ => rfl)) (pa_cons (pe_callTy (call_tupleK K) (by rfl) T.m_tuple (by decide +kernel) (pa_cons (xv 3) pa_nil)) pa_nil)))) pa_nil))) pa_nil)))))))
      (pss_one (ps_ret (pe_ix (ix_k K) (pe_ix (ix_k K) (xv 1) pe_int (fun _ _ => rfl)) pe_int (fun _ _ => rfl)))))), ?_⟩
    have ul := prd_len hus
    refine ⟨sz, fun R nR => ?_⟩
    have S1 := S.new (o := .lst []) nR
    refine ⟨_, .inl (SqL.of (S1.st hl)), 1, rfl, 1, rfl, (us.length : Int) - 1, -1, -1, us.length, rfl, ?_, for_rangeC (lo := (us.length : Int) - 1) (c := -1) (n := us.length) (fun i σ H' => ∃ (y2 y3 : Option V) (ws : List V) (rd : List (Nat × Tr)) (G' : Hp), σ = [some (.ref l), some (.ref R), y2, y3] ∧
      Same G G' ∧ Paired (RdAt K G') ws rd.reverse ∧ told rd = fs.drop (fs.length - i) ∧ (rd.map (·.1)).Pairwise (· ≥ ·) ∧ rd.length ≤ i ∧ Sep G' ((R, .lst ws) :: M) H') ⟨_, _, [], [], G, rfl, Same.refl _, .nil, by simp [told], .nil, Nat.le_refl _, S1⟩ (fun i σ H' hi h => ?_) (fun σ H' h => ?_)⟩
    · have z := RgC.neg (i := (us.length : Int) - 1) (j := -1) (by omega) (by omega) (by omega) (by omega)
      have e1 : ((us.length : Int) - 1 - -1).toNat = us.length := by omega
      rw [e1] at z
      exact z
    · obtain ⟨y2, y3, ws, rd, G1, rfl, s1, hws, htold, hpw, hrl, S2⟩ := h
      have ek : ((us.length : Int) - 1 + (i : Nat) * (-1)) = ((us.length - 1 - i : Nat) : Int) := by omega
      rw [ek]
      obtain ⟨u, hu⟩ : ∃ u, us[us.length - 1 - i]? = some u := ⟨_, List.getElem?_eq_getElem (by omega)⟩
      obtain ⟨x, hx, ax, rfl, hax⟩ := prd_get hus hu
      have hdrop : fs.drop (fs.length - (i + 1)) = x :: fs.drop (fs.length - i) := by
        have e : fs.length - (i + 1) = us.length - 1 - i := by omega
        rw [e, List.drop_eq_getElem_cons (by omega)]
        have hx2 := (List.getElem?_eq_some_iff.mp hx).2
        rw [hx2]
        congr 2
        omega
      refine ⟨sz, fun Bn nB => ?_⟩
      have S3 := S2.new (o := .lst []) nB
      refine ⟨fun m σ H' => ∃ (ws' bs : List V) (pp rd' : List (Nat × Tr)), σ = [some (.ref l), some (.ref R), some (.int ((us.length - 1 - i : Nat) : Int)), some (.ref Bn)] ∧ rd = pp ++ rd' ∧ m = rd'.length ∧ (∀ p ∈ pp, x.2.2 < p.1) ∧ Paired (RdAt K G1) ws' rd'.reverse ∧
        DpAll K G1 bs ((pp.map (·.2)).map toD) ∧ Sep G1 ((Bn, .lst bs) :: (R, .lst ws') :: M) H', ⟨rd.length, ws, [], [], rd, rfl, rfl, rfl, (fun _ h => nomatch h), hws, .nil, S3⟩, fun m σ H4 h => ?_⟩
      obtain ⟨ws', bs, pp, rd', rfl, erd, rfl, hpp, hws', hbs, S4⟩ := h
      have hl4 := S4.st (s1 _ _ hl)
      have hax4 := S4.st (s1 _ _ hax)
      have eK : atI us ((us.length - 1 - i : Nat) : Int) = some (.ref ax) := atI_nat hu
      have rdl : rd.length = pp.length + rd'.length := by rw [erd, List.length_append]
      have main : (∀ p ∈ rd', p.1 ≤ x.2.2) → ∃ ts : List Tr, pp = ts.map (fun t => (x.2.2 + 1, t)) := fun hle => by
        have all : ∀ p ∈ pp, p.1 = x.2.2 + 1 := fun p hp => by
          have h1 := hpp p hp
          have h2 : p.1 ≤ x.2.2 + 1 := by
            cases hpc : pp with
            | nil => rw [hpc] at hp; cases hp
            | cons p0 pr =>
              have e0 : p0.1 ≤ x.2.2 + 1 := by
                obtain ⟨d0, t0⟩ := p0
                have ed := htold
                rw [erd, hpc, List.cons_append, told_head] at ed
                have hy : fs[fs.length - i]? = some (mrk t0, lbl t0, d0) := by
                  have e2 := congrArg List.head? ed
                  rw [List.head?_drop] at e2
                  exact e2.symm
                have e3 : fs.length - i = (us.length - 1 - i) + 1 := by omega
                rw [e3] at hy
                exact fl_next ok hx hy
              have hpw2 := hpw
              rw [erd, hpc, List.cons_append, List.map_cons, List.pairwise_cons] at hpw2
              rw [hpc] at hp
              rcases List.mem_cons.mp hp with rfl | hp
              · exact e0
              · have := hpw2.1 p.1 (List.mem_map_of_mem (List.mem_append_left _ hp))
                omega
          omega
        refine ⟨pp.map (·.2), ?_⟩
        rw [List.map_map]
        have : pp.map ((fun t => (x.2.2 + 1, t)) ∘ fun p => p.2) = pp.map id := List.map_congr_left fun p hp => by
          show (x.2.2 + 1, p.2) = p
          rw [← all p hp]
        rw [this, List.map_id]
      have wl := prd_len hws'
      rw [List.length_reverse] at wl
      rcases nil_or_snoc ws' with ew | ⟨wp, w0, ew⟩
      · subst ew
        have hle : ∀ p ∈ rd', p.1 ≤ x.2.2 := fun p hp => by
          have : rd' = [] := List.length_eq_zero_iff.mp (by rw [← wl]; rfl)
          rw [this] at hp
          cases hp
        refine ⟨!([] : List V).isEmpty, .inl ⟨_, SqL.of S4.sw.hd, rfl⟩, (fun e => nomatch e), fun e => ⟨ff, fun _ => ?f1⟩⟩
        case f1 =>
          obtain ⟨ts, ets⟩ := main hle
          have e2 : pp.map (·.2) = ts := by
            rw [ets, List.map_map]
            exact List.map_id _
          rw [e2] at hbs
          refine ⟨.inl ⟨rfl, _, SqL.of S4.sw.hd⟩, _, _, .inl (SqL.of hl4), eK, _, _, .inr (SqT.of hax4), atI_nat (j := 2) rfl, _, _, .inl (SqL.of hl4), eK, _, _, .inr (SqT.of hax4), atI_nat (j := 0) rfl, _, _, .inl (SqL.of hl4), eK, _, _, .inr (SqT.of hax4), atI_nat (j := 1) rfl,
            Bn, bs, rfl, .inl ⟨SqL.of S4.hd, fun t5 nt5 => ?_⟩⟩
          obtain ⟨G5, s5, S5, h5⟩ := Sep.mk (o := .tup bs) S4 nt5
          refine ⟨sz, fun t6 nt6 => ?_⟩
          obtain ⟨G6, s6, S6, h6⟩ := Sep.mk (o := .tup [.str x.1, .str x.2.1, .ref t5]) S5 nt6
          refine ⟨sz, fun t7 nt7 => ?_⟩
          obtain ⟨G7, s7, S7, h7⟩ := Sep.mk (o := .tup [.int (x.2.2 : Nat), .ref t6]) S6 nt7
          have s17 := s5.trans (s6.trans s7)
          have dt : Dp K G7 (.ref t6) (toD (.node x.1 x.2.1 ts)) := by
            rw [toD_eq]
            exact .tup (SqT.of (s7 _ _ h6)) (.cons (.str _) (.cons (.str _) (.cons (.tup (SqT.of (s7 _ _ (s6 _ _ h5))) (dpa_same s17 hbs)) .nil)))
          refine ⟨R, [], .ref t7, rfl, rfl, S7.sw.hd, smallL (by omega), _, _, [] ++ [.ref t7], (x.2.2, .node x.1 x.2.1 ts) :: rd', G7, rfl, s1.trans s17, ?_, ?_, ?_, by rw [List.length_cons]; omega, S7.drop.set⟩
          · rw [List.reverse_cons]
            exact prd_app (prd_imp (fun _ _ => RdAt.same s17) hws') (.cons ⟨t7, .ref t6, rfl, h7, dt⟩ .nil)
          · rw [hdrop, told_head]
            have e3 := htold
            rw [erd, ets, told_same] at e3
            rw [← e3]
            rfl
          · rw [List.map_cons, List.pairwise_cons]
            refine ⟨fun n hn => ?_, ?_⟩
            · obtain ⟨p, hp, rfl⟩ := List.mem_map.mp hn
              exact hle p hp
            · have hpw2 := hpw
              rw [erd, List.map_append, List.pairwise_append] at hpw2
              exact hpw2.2.1
      · subst ew
        obtain ⟨rr, p0, err, hwp, hp0⟩ := prd_unsnoc hws'
        obtain ⟨rt, ert, err2⟩ := rev_cons err
        subst ert
        have hp0' := hp0
        obtain ⟨a0, nv, rfl, ha0, hnv⟩ := hp0
        have ha4 := S4.st ha0
        have ne : (!(wp ++ [V.ref a0]).isEmpty) = true := by simp
        by_cases hgt : x.2.2 < p0.1
        · refine ⟨!(wp ++ [V.ref a0]).isEmpty, .inl ⟨_, SqL.of S4.sw.hd, rfl⟩, fun _ => ⟨1, rfl, _, _, .inl (SqL.of S4.sw.hd), atI_last _ _, _, _, .inr (SqT.of ha4), atI_nat (j := 0) rfl, _, _, .inl (SqL.of hl4), eK, _, _, .inr (SqT.of hax4), atI_nat (j := 2) rfl, fun _ => ?_, fun e => absurd (show (x.2.2 : Int) < (p0.1 : Int) by omega) (of_decide_eq_false e)⟩, fun e => absurd (ne.symm.trans e) (by decide)⟩
          have S5 := S4.sw.set (o' := .lst wp)
          have ppl : pp.length + 1 ≤ rd.length := by rw [rdl, List.length_cons]; omega
          have bl := dpa_len hbs
          rw [List.length_map, List.length_map] at bl
          refine ⟨.inl ⟨rfl, _, SqL.of S4.hd⟩, .inl ⟨rfl, _, SqL.of S4.sw.hd⟩, R, wp ++ [V.ref a0], .ref a0, rfl, rfl, S4.sw.hd, by simp, ?_⟩
          rw [List.dropLast_concat]
          refine ⟨_, _, .inr (SqT.of (S5.st ha0)), atI_nat (j := 1) rfl, Bn, bs, nv, rfl, rfl, S5.sw.hd, smallL (by omega), ?_⟩
          refine ⟨rt.length, by rw [List.length_cons]; omega, wp, bs ++ [nv], pp ++ [p0], rt, rfl, by rw [erd, List.append_assoc]; rfl, rfl, fun p hp => ?_, by rw [err2]; exact hwp, ?_, S5.sw.set⟩
          · rcases List.mem_append.mp hp with z | z
            · exact hpp p z
            · rw [List.mem_singleton.mp z]
              exact hgt
          · rw [List.map_append, List.map_append]
            exact dpa_app hbs (dpa_one hnv)
        · have hle : ∀ p ∈ p0 :: rt, p.1 ≤ x.2.2 := fun p hp => by
            have hpw2 := hpw
            rw [erd, List.map_append, List.pairwise_append] at hpw2
            have h3 := hpw2.2.1
            rw [List.map_cons, List.pairwise_cons] at h3
            rcases List.mem_cons.mp hp with rfl | hp
            · omega
            · have := h3.1 p.1 (List.mem_map_of_mem hp)
              omega
          refine ⟨!(wp ++ [V.ref a0]).isEmpty, .inl ⟨_, SqL.of S4.sw.hd, rfl⟩, fun _ => ⟨1, rfl, _, _, .inl (SqL.of S4.sw.hd), atI_last _ _, _, _, .inr (SqT.of ha4), atI_nat (j := 0) rfl, _, _, .inl (SqL.of hl4), eK, _, _, .inr (SqT.of hax4), atI_nat (j := 2) rfl, fun e => absurd (show (x.2.2 : Int) < (p0.1 : Int) from of_decide_eq_true e) (by omega), fun _ => ?f2⟩, fun e => absurd (ne.symm.trans e) (by decide)⟩
          case f2 =>
            obtain ⟨ts, ets⟩ := main hle
            have e2 : pp.map (·.2) = ts := by
              rw [ets, List.map_map]
              exact List.map_id _
            rw [e2] at hbs
            refine ⟨.inl ⟨rfl, _, SqL.of S4.sw.hd⟩, _, _, .inl (SqL.of hl4), eK, _, _, .inr (SqT.of hax4), atI_nat (j := 2) rfl, _, _, .inl (SqL.of hl4), eK, _, _, .inr (SqT.of hax4), atI_nat (j := 0) rfl, _, _, .inl (SqL.of hl4), eK, _, _, .inr (SqT.of hax4), atI_nat (j := 1) rfl,
              Bn, bs, rfl, .inl ⟨SqL.of S4.hd, fun t5 nt5 => ?_⟩⟩
            obtain ⟨G5, s5, S5, h5⟩ := Sep.mk (o := .tup bs) S4 nt5
            refine ⟨sz, fun t6 nt6 => ?_⟩
            obtain ⟨G6, s6, S6, h6⟩ := Sep.mk (o := .tup [.str x.1, .str x.2.1, .ref t5]) S5 nt6
            refine ⟨sz, fun t7 nt7 => ?_⟩
            obtain ⟨G7, s7, S7, h7⟩ := Sep.mk (o := .tup [.int (x.2.2 : Nat), .ref t6]) S6 nt7
            have s17 := s5.trans (s6.trans s7)
            have dt : Dp K G7 (.ref t6) (toD (.node x.1 x.2.1 ts)) := by
              rw [toD_eq]
              exact .tup (SqT.of (s7 _ _ h6)) (.cons (.str _) (.cons (.str _) (.cons (.tup (SqT.of (s7 _ _ (s6 _ _ h5))) (dpa_same s17 hbs)) .nil)))
            refine ⟨R, (wp ++ [V.ref a0]), .ref t7, rfl, rfl, S7.sw.hd, smallL (by omega), _, _, (wp ++ [V.ref a0]) ++ [.ref t7], (x.2.2, .node x.1 x.2.1 ts) :: (p0 :: rt), G7, rfl, s1.trans s17, ?_, ?_, ?_, by rw [List.length_cons]; omega, S7.drop.set⟩
            · rw [List.reverse_cons]
              exact prd_app (prd_imp (fun _ _ => RdAt.same s17) hws') (.cons ⟨t7, .ref t6, rfl, h7, dt⟩ .nil)
            · rw [hdrop, told_head]
              have e3 := htold
              rw [erd, ets, told_same] at e3
              rw [← e3]
              rfl
            · rw [List.map_cons, List.pairwise_cons]
              refine ⟨fun n hn => ?_, ?_⟩
              · obtain ⟨p, hp, rfl⟩ := List.mem_map.mp hn
                exact hle p hp
              · have hpw2 := hpw
                rw [erd, List.map_append, List.pairwise_append] at hpw2
                exact hpw2.2.1
    · obtain ⟨y2, y3, ws, rd, G1, rfl, s1, hws, htold, hpw, hrl, S2⟩ := h
      rw [ul, Nat.sub_self, List.drop_zero] at htold
      obtain ⟨x0, r0, ef, hx0, hlv⟩ := id ok
      cases rd with
      | nil =>
        rw [ef] at htold
        simp [told] at htold
      | cons p rd =>
        obtain ⟨d, t⟩ := p
        rw [told_head, ef] at htold
        injection htold with h1 h2
        have hd : d = 0 := by rw [← h1] at hx0; exact hx0
        have er : rd = [] := by
          cases rd with
          | nil => rfl
          | cons p2 rd =>
            obtain ⟨d2, t2⟩ := p2
            have hm : (mrk t2, lbl t2, d2) ∈ r0 := by
              rw [← h2, told_head]
              simp
            have h3 := lv_pos hlv _ hm
            rw [List.map_cons, List.pairwise_cons] at hpw
            have h4 := hpw.1 d2 (by simp)
            have h3' : 1 ≤ d2 := h3
            omega
        subst er hd
        have hws1 : Paired (RdAt K G1) ws [(0, t)] := hws
        cases hws1 with
        | cons hw ht =>
          cases ht
          obtain ⟨a0, nv, rfl, ha0, hnv⟩ := hw
          refine ⟨_, _, .inl (SqL.of S2.hd), atI_nat (j := 0) rfl, _, _, .inr (SqT.of (S2.st ha0)), atI_nat (j := 1) rfl, q nv t G1 H' s1 hnv ?_ S2.drop⟩
          rw [ef, fl_eq, ← h1, ← h2]
          simp [told]

/-! ### trees that are fit -/
structure TrOk (t : Tr) : Prop where
  hg : hgt t ≤ 60
  tx : ∀ p ∈ pre t, Tx 1 60 (mrk p) ∧ Tx 1 20 (lbl p)
mutual
theorem pre_hgt {p : Tr} : ∀ t, p ∈ pre t → hgt p ≤ hgt t
  | .node m l ks, h => by
    simp only [pre, List.mem_cons] at h
    rcases h with rfl | h
    · exact Nat.le_refl _
    · have := pres_hgt ks h
      simp only [hgt]; omega
theorem pres_hgt {p : Tr} : ∀ ts, p ∈ pres ts → hgt p ≤ hgts ts
  | [], h => by simp [pres] at h
  | t :: r, h => by
    simp only [pres, List.mem_append] at h
    simp only [hgts]
    rcases h with h | h
    · have := pre_hgt t h; omega
    · have := pres_hgt r h; omega
end
mutual
theorem pre_trans {p q : Tr} : ∀ t, p ∈ pre t → q ∈ pre p → q ∈ pre t
  | .node m l ks, h, h2 => by
    simp only [pre, List.mem_cons] at h
    rcases h with rfl | h
    · exact h2
    · simp only [pre, List.mem_cons]
      exact .inr (pres_trans ks h h2)
theorem pres_trans {p q : Tr} : ∀ ts, p ∈ pres ts → q ∈ pre p → q ∈ pres ts
  | [], h, _ => by simp [pres] at h
  | t :: r, h, h2 => by
    simp only [pres, List.mem_append] at h ⊢
    rcases h with h | h
    · exact .inl (pre_trans t h h2)
    · exact .inr (pres_trans r h h2)
end
theorem kid_pre {p c : Tr} (h : c ∈ kids p) : c ∈ pre p := by
  rw [pre_eq]
  exact List.mem_cons_of_mem _ (mem_pres.mpr ⟨c, h, self_pre c⟩)
theorem TrOk.sub {t p : Tr} (ok : TrOk t) (h : p ∈ pre t) : TrOk p := ⟨Nat.le_trans (pre_hgt t h) ok.hg, fun q hq => ok.tx q (pre_trans t h hq)⟩
mutual
theorem tr_lay : ∀ t : Tr, (∀ p ∈ pre t, (PyData.str (mrk p)).canLay0 = true ∧ (PyData.str (lbl p)).canLay0 = true) → (toD t).canLay0 = true
  | .node m l ks, h => by
    have h0 := h (.node m l ks) (self_pre _)
    have h1 := trs_lay ks fun p hp => h p (by rw [pre_eq]; exact List.mem_cons_of_mem _ hp)
    simp only [mrk, lbl, PyData.canLay0] at h0
    simp only [toD, PyData.canLay0, PyData.canLayAll0, h0.1, h0.2, h1, Bool.and_self]
theorem trs_lay : ∀ ts : List Tr, (∀ p ∈ pres ts, (PyData.str (mrk p)).canLay0 = true ∧ (PyData.str (lbl p)).canLay0 = true) → PyData.canLayAll0 (toDs ts) = true
  | [], _ => by simp only [toDs, PyData.canLayAll0]
  | t :: r, h => by
    have h0 := tr_lay t fun p hp => h p (by simp only [pres]; exact List.mem_append_left _ hp)
    have h1 := trs_lay r fun p hp => h p (by simp only [pres]; exact List.mem_append_right _ hp)
    simp only [toDs, PyData.canLayAll0, h0, h1, Bool.and_self]
end
mutual
theorem tr_dep : ∀ t : Tr, (toD t).depth ≤ 2 * hgt t
  | .node m l ks => by
    have h1 := trs_dep ks
    simp only [toD, PyData.depth, PyData.depthAll, hgt]
    omega
theorem trs_dep : ∀ ts : List Tr, PyData.depthAll (toDs ts) ≤ 2 * hgts ts
  | [] => by simp only [toDs, PyData.depthAll]; omega
  | t :: r => by
    have h0 := tr_dep t
    have h1 := trs_dep r
    simp only [toDs, PyData.depthAll, hgts]
    omega
end
theorem tx_lay {a b : Nat} {z : Str} (h : Tx a b z) : (PyData.str z).canLay0 = true := (Fit.str (w := b) (fun c hc => Nat.lt_trans (h.ch c hc) (by decide)) h.hi).cl
theorem ok_lay {t : Tr} (ok : TrOk t) : (toD t).canLay0 = true := tr_lay t fun p hp => ⟨tx_lay (ok.tx p hp).1, tx_lay (ok.tx p hp).2⟩
theorem ok_dep {t : Tr} (ok : TrOk t) : (toD t).depth ≤ 120 := by
  have := tr_dep t
  have := ok.hg
  omega
theorem eqv_str (a b : Str) : PyData.eqv (.str a) (.str b) = decide (a = b) := by
  rw [Bool.eq_iff_iff]
  simp [PyData.eqv]
theorem strs_dp {K : PySem.W.Frag} {G : Hp} : ∀ zs : List Str, DpAll K G (zs.map V.str) (zs.map PyData.str)
  | [] => .nil
  | z :: r => .cons (.str z) (strs_dp r)
theorem strs_fit {zs : List Str} {b : Nat} (h : ∀ z ∈ zs, (∀ c ∈ z.cps.toList, c < 128) ∧ z.length ≤ b) : ∃ n, Fit n 1 (.list (zs.map PyData.str)) :=
  ⟨_, Fit.lsts (w := b) fun d hd => by
    obtain ⟨z, hz, rfl⟩ := List.mem_map.mp hd
    exact Fit.str (fun c hc => Nat.lt_trans ((h z hz).1 c hc) (by decide)) (h z hz).2⟩
theorem mrk_inj {ts : List Tr} {p q : Tr} (nd : (ts.map mrk).Nodup) (hp : p ∈ ts) (hq : q ∈ ts) (e : mrk p = mrk q) : p = q := by
  obtain ⟨i, hi⟩ := List.getElem?_of_mem hp
  obtain ⟨j, hj⟩ := List.getElem?_of_mem hq
  have e1 : (ts.map mrk)[i]? = (ts.map mrk)[j]? := by rw [List.getElem?_map, List.getElem?_map, hi, hj]; exact congrArg some e
  have il := (List.getElem?_eq_some_iff.mp hi).1
  have e2 := (List.getElem?_inj (by rw [List.length_map]; exact il) nd).mp e1
  rw [e2, hj] at hi
  exact (Option.some.inj hi).symm
/-! the shown form -/
mutual
def shD : Tr → PyData
  | .node _ l ks => .tuple [.str l, .tuple (shDs ks)]
def shDs : List Tr → List PyData
  | [] => []
  | s :: r => shD s :: shDs r
end
theorem shDs_eq : ∀ ps, shDs ps = ps.map shD
  | [] => by simp only [shDs, List.map_nil]
  | s :: r => by simp only [shDs, List.map_cons, shDs_eq r]
theorem shD_eq (t : Tr) : shD t = .tuple [.str (lbl t), .tuple ((kids t).map shD)] := by
  cases t
  simp only [shD, lbl, kids, shDs_eq]
mutual
theorem sh_lay : ∀ t : Tr, (∀ p ∈ pre t, (PyData.str (lbl p)).canLay0 = true) → (shD t).canLay0 = true
  | .node m l ks, h => by
    have h0 := h (.node m l ks) (self_pre _)
    have h1 := shs_lay ks fun p hp => h p (by rw [pre_eq]; exact List.mem_cons_of_mem _ hp)
    simp only [lbl, PyData.canLay0] at h0
    simp only [shD, PyData.canLay0, PyData.canLayAll0, h0, h1, Bool.and_self]
theorem shs_lay : ∀ ts : List Tr, (∀ p ∈ pres ts, (PyData.str (lbl p)).canLay0 = true) → PyData.canLayAll0 (shDs ts) = true
  | [], _ => by simp only [shDs, PyData.canLayAll0]
  | t :: r, h => by
    have h0 := sh_lay t fun p hp => h p (by simp only [pres]; exact List.mem_append_left _ hp)
    have h1 := shs_lay r fun p hp => h p (by simp only [pres]; exact List.mem_append_right _ hp)
    simp only [shDs, PyData.canLayAll0, h0, h1, Bool.and_self]
end
mutual
theorem sh_dep : ∀ t : Tr, (shD t).depth ≤ 2 * hgt t
  | .node m l ks => by
    have h1 := shs_dep ks
    simp only [shD, PyData.depth, PyData.depthAll, hgt]
    omega
theorem shs_dep : ∀ ts : List Tr, PyData.depthAll (shDs ts) ≤ 2 * hgts ts
  | [] => by simp only [shDs, PyData.depthAll]; omega
  | t :: r => by
    have h0 := sh_dep t
    have h1 := shs_dep r
    simp only [shDs, PyData.depthAll, hgts]
    omega
end
theorem ok_shl {t : Tr} (ok : TrOk t) : (shD t).canLay0 = true := sh_lay t fun p hp => tx_lay (ok.tx p hp).2
theorem ok_shd {t : Tr} (ok : TrOk t) : (shD t).depth ≤ 120 := by
  have := sh_dep t
  have := ok.hg
  omega
/-! equal data, equal trees -/
mutual
theorem eqv_tr : ∀ s t : Tr, PyData.eqv (toD s) (toD t) = true → s = t
  | .node m l ks, .node m' l' ks', h => by
    simp only [toD, PyData.eqv, PyData.eqvAll, Bool.and_eq_true, decide_eq_true_eq, beq_iff_eq] at h
    obtain ⟨h1, h2, h3, _⟩ := h
    rw [h1, h2, eqv_trs ks ks' h3]
theorem eqv_trs : ∀ ss ts : List Tr, PyData.eqvAll (toDs ss) (toDs ts) = true → ss = ts
  | [], [], _ => rfl
  | [], t :: r, h => by simp [toDs, PyData.eqvAll] at h
  | s :: r, [], h => by simp [toDs, PyData.eqvAll] at h
  | s :: r, t :: r', h => by
    simp only [toDs, PyData.eqvAll, Bool.and_eq_true] at h
    rw [eqv_tr s t h.1, eqv_trs r r' h.2]
end
theorem eqv_self {t : Tr} (ok : TrOk t) : PyData.eqv (toD t) (toD t) = true := SeqAt.eqv_refl _ (ok_lay ok)
theorem eqv_ne {s t : Tr} (h : s ≠ t) : PyData.eqv (toD s) (toD t) = false := by
  cases e : PyData.eqv (toD s) (toD t) with
  | false => rfl
  | true => exact absurd (eqv_tr s t e) h

/-! ### patches, and the tree behind them -/
inductive Pt where
  | drop (m : Str)
  | put (m : Str) (i : Nat) (t : Tr)
  | move (m : Str) (i : Nat)
  | say (m l : Str)
def wd : Pt → Str
  | .drop _ => "drop"
  | .put _ _ _ => "put"
  | .move _ _ => "move"
  | .say _ _ => "say"
def pmk : Pt → Str
  | .drop m => m
  | .put m _ _ => m
  | .move m _ => m
  | .say m _ => m
def insT (ks : List Tr) (i : Nat) (t : Tr) : List Tr := ks.take i ++ t :: ks.drop i
def mvT (m : Str) (i : Nat) (ks : List Tr) : List Tr := match ks.findIdx? fun s => decide (mrk s = m) with
  | none => ks
  | some k => match ks[k]? with
    | none => ks
    | some c => insT (ks.eraseIdx k) i c
def keeps (p : Pt) (s : Tr) : Bool := match p with
  | .drop m => decide (mrk s ≠ m)
  | _ => true
def ksP (p : Pt) (m : Str) (ks : List Tr) : List Tr := match p with
  | .put m' i t => if m = m' then insT ks i t else ks
  | .move m' i => mvT m' i ks
  | _ => ks
def lbP (p : Pt) (m l : Str) : Str := match p with
  | .say m' l' => if m = m' then l' else l
  | _ => l
mutual
def aft (p : Pt) : Tr → Tr
  | .node m l ks => .node m (lbP p m l) (ksP p m (afts p ks))
def afts (p : Pt) : List Tr → List Tr
  | [] => []
  | s :: r => if keeps p s then aft p s :: afts p r else afts p r
end
theorem aft_eq (p : Pt) (t : Tr) : aft p t = .node (mrk t) (lbP p (mrk t) (lbl t)) (ksP p (mrk t) (afts p (kids t))) := by
  cases t
  simp only [aft, mrk, lbl, kids]
theorem aft_mrk (p : Pt) (t : Tr) : mrk (aft p t) = mrk t := by rw [aft_eq]; rfl
theorem afts_app (p : Pt) : ∀ xs ys, afts p (xs ++ ys) = afts p xs ++ afts p ys
  | [], ys => by simp only [List.nil_append, afts]
  | s :: r, ys => by
    simp only [List.cons_append, afts, afts_app p r ys]
    split <;> rfl
theorem afts_one (p : Pt) (s : Tr) : afts p [s] = if keeps p s then [aft p s] else [] := by simp only [afts]
theorem mvT_none {m : Str} {i : Nat} {ks : List Tr} (h : ∀ s ∈ ks, mrk s ≠ m) : mvT m i ks = ks := by
  unfold mvT
  have e : (ks.findIdx? fun s => decide (mrk s = m)) = none := List.findIdx?_eq_none_iff.mpr fun s hs => decide_eq_false (h s hs)
  rw [e]
theorem mvT_at {m : Str} {i k : Nat} {ks : List Tr} {c : Tr} (hk : ks[k]? = some c) (hm : mrk c = m) (h : ∀ j s, j < k → ks[j]? = some s → mrk s ≠ m) : mvT m i ks = insT (ks.eraseIdx k) i c := by
  unfold mvT
  have e : (ks.findIdx? fun s => decide (mrk s = m)) = some k := by
    rw [List.findIdx?_eq_some_iff_getElem]
    have hl := (List.getElem?_eq_some_iff.mp hk)
    have hl1 := hl.1
    refine ⟨hl.1, decide_eq_true (by rw [hl.2]; exact hm), fun j hj => ?_⟩
    have := h j _ hj (List.getElem?_eq_getElem (by omega))
    simpa using this
  rw [e]
  show (match ks[k]? with | none => ks | some c => insT (ks.eraseIdx k) i c) = _
  rw [hk]
/-! nothing changes where the mark is not -/
mutual
theorem aft_off (p : Pt) : ∀ t, pmk p ∉ (pre t).map mrk → aft p t = t
  | .node m l ks, h => by
    simp only [pre, List.map_cons, List.mem_cons, not_or, mrk] at h
    have h2 := afts_off p ks h.2
    have hk : ∀ s ∈ ks, mrk s ≠ pmk p := fun s hs e => h.2 (e ▸ List.mem_map_of_mem (mem_pres.mpr ⟨s, hs, self_pre s⟩))
    simp only [aft]
    rw [h2]
    have e1 : lbP p m l = l := by
      cases p <;> simp only [lbP]
      exact if_neg (fun e => h.1 e.symm)
    have e2 : ksP p m ks = ks := by
      cases p <;> simp only [ksP]
      · exact if_neg (fun e => h.1 e.symm)
      · exact mvT_none hk
    rw [e1, e2]
theorem afts_off (p : Pt) : ∀ ts, pmk p ∉ (pres ts).map mrk → afts p ts = ts
  | [], _ => rfl
  | t :: r, h => by
    simp only [pres, List.map_append, List.mem_append, not_or] at h
    have e : keeps p t = true := by
      cases p <;> simp only [keeps]
      refine decide_eq_true fun e => h.1 ?_
      rw [← show mrk t = pmk (.drop _) from e]
      exact List.mem_map_of_mem (self_pre t)
    simp only [afts]
    rw [if_pos e, aft_off p t h.1, afts_off p r h.2]
end
/-! paths -/
def sub : Tr → List Nat → Option Tr
  | t, [] => some t
  | t, k :: π => match (kids t)[k]? with
    | none => none
    | some c => sub c π
def setAt : Tr → List Nat → Tr → Tr
  | _, [], u => u
  | t, k :: π, u => match (kids t)[k]? with
    | none => t
    | some c => .node (mrk t) (lbl t) ((kids t).set k (setAt c π u))
theorem sub_cons {t c : Tr} {k : Nat} {π : List Nat} (h : (kids t)[k]? = some c) : sub t (k :: π) = sub c π := by
  rw [sub, h]
theorem setAt_cons {t c u : Tr} {k : Nat} {π : List Nat} (h : (kids t)[k]? = some c) : setAt t (k :: π) u = .node (mrk t) (lbl t) ((kids t).set k (setAt c π u)) := by
  rw [setAt, h]
theorem sub_ne {t p : Tr} {k : Nat} {π : List Nat} (h : sub t (k :: π) = some p) : ∃ c, (kids t)[k]? = some c ∧ sub c π = some p := by
  rw [sub] at h
  cases hk : (kids t)[k]? with
  | none => rw [hk] at h; cases h
  | some c => rw [hk] at h; exact ⟨c, rfl, h⟩
theorem sub_mem {p : Tr} : ∀ {π : List Nat} {t : Tr}, sub t π = some p → p ∈ pre t
  | [], t, h => by
    cases h
    exact self_pre p
  | k :: π, t, h => by
    obtain ⟨c, hc, h⟩ := sub_ne h
    rw [pre_eq]
    exact List.mem_cons_of_mem _ (mem_pres.mpr ⟨c, List.mem_of_getElem? hc, sub_mem h⟩)
mutual
theorem pre_sub {p : Tr} : ∀ t, p ∈ pre t → ∃ π, sub t π = some p
  | .node m l ks, h => by
    simp only [pre, List.mem_cons] at h
    rcases h with rfl | h
    · exact ⟨[], rfl⟩
    · obtain ⟨k, c, π, h1, h2⟩ := pres_sub ks h
      exact ⟨k :: π, by rw [sub_cons (show (kids (.node m l ks))[k]? = some c from h1)]; exact h2⟩
theorem pres_sub {p : Tr} : ∀ ts, p ∈ pres ts → ∃ (k : Nat) (c : Tr) (π : List Nat), ts[k]? = some c ∧ sub c π = some p
  | [], h => by simp [pres] at h
  | t :: r, h => by
    simp only [pres, List.mem_append] at h
    rcases h with h | h
    · obtain ⟨π, hπ⟩ := pre_sub t h
      exact ⟨0, t, π, rfl, hπ⟩
    · obtain ⟨k, c, π, h1, h2⟩ := pres_sub r h
      exact ⟨k + 1, c, π, h1, h2⟩
end
theorem sub_set : ∀ {π : List Nat} {t p : Tr} (u : Tr), sub t π = some p → sub (setAt t π u) π = some u
  | [], _, _, _, _ => rfl
  | k :: π, t, p, u, h => by
    obtain ⟨c, hc, h⟩ := sub_ne h
    rw [setAt_cons hc]
    have hk := (List.getElem?_eq_some_iff.mp hc).1
    rw [sub_cons (c := setAt c π u) (by show ((kids t).set k (setAt c π u))[k]? = _; exact List.getElem?_set_self hk)]
    exact sub_set u h
theorem set_sub : ∀ {π : List Nat} {t p : Tr}, sub t π = some p → setAt t π p = t
  | [], _, _, h => by cases h; rfl
  | k :: π, t, p, h => by
    obtain ⟨c, hc, h⟩ := sub_ne h
    rw [setAt_cons hc, set_sub h]
    have : (kids t).set k c = kids t := by
      refine List.ext_getElem? fun j => ?_
      by_cases e : j = k
      · subst e
        rw [List.getElem?_set_self (List.getElem?_eq_some_iff.mp hc).1, hc]
      · rw [List.getElem?_set_ne (Ne.symm e)]
    rw [this]
    exact (tr_eta t).symm
theorem set_set : ∀ {π : List Nat} {t p : Tr} (u v : Tr), sub t π = some p → setAt (setAt t π u) π v = setAt t π v
  | [], _, _, _, _, _ => rfl
  | k :: π, t, p, u, v, h => by
    obtain ⟨c, hc, h⟩ := sub_ne h
    have hk := (List.getElem?_eq_some_iff.mp hc).1
    rw [setAt_cons hc, setAt_cons hc]
    rw [setAt_cons (c := setAt c π u) (by show ((kids t).set k (setAt c π u))[k]? = _; exact List.getElem?_set_self hk)]
    show Tr.node (mrk t) (lbl t) (((kids t).set k (setAt c π u)).set k _) = _
    rw [List.set_set, set_set u v h]
theorem pres_at {ts : List Tr} {k : Nat} {c : Tr} (h : ts[k]? = some c) : ∃ a b, ts = a ++ c :: b ∧ a.length = k ∧ pres ts = pres a ++ (pre c ++ pres b) ∧ ∀ c', ts.set k c' = a ++ c' :: b := by
  have e := (take_pre h).1
  have hk := (List.getElem?_eq_some_iff.mp h).1
  refine ⟨ts.take k, ts.drop (k + 1), e, by rw [List.length_take]; omega, ?_, fun c' => ?_⟩
  · conv => lhs; rw [e]
    rw [pres_app]
    rfl
  · rw [List.set_eq_take_append_cons_drop, if_pos hk]
/-- marks and labels in page order -/
def ml (t : Tr) : List (Str × Str) := (pre t).map fun p => (mrk p, lbl p)
def mls (ts : List Tr) : List (Str × Str) := (pres ts).map fun p => (mrk p, lbl p)
theorem ml_eq (t : Tr) : ml t = (mrk t, lbl t) :: mls (kids t) := by
  unfold ml mls
  rw [pre_eq, List.map_cons]
theorem mls_app (xs ys : List Tr) : mls (xs ++ ys) = mls xs ++ mls ys := by
  unfold mls
  rw [pres_app, List.map_append]
theorem mls_cons (x : Tr) (ys : List Tr) : mls (x :: ys) = ml x ++ mls ys := by
  unfold mls ml
  simp only [pres, List.map_append]
theorem ml_mrk (t : Tr) : (ml t).map (·.1) = (pre t).map mrk := by
  unfold ml
  rw [List.map_map]
  rfl
theorem mls_mrk (t : List Tr) : (mls t).map (·.1) = (pres t).map mrk := by
  unfold mls
  rw [List.map_map]
  rfl
theorem ml_set : ∀ {π : List Nat} {t p : Tr}, sub t π = some p → ∃ R, (ml t).Perm (ml p ++ R) ∧ ∀ u, (ml (setAt t π u)).Perm (ml u ++ R)
  | [], t, p, h => by
    cases h
    exact ⟨[], by rw [List.append_nil], fun u => by rw [List.append_nil]; exact List.Perm.refl _⟩
  | k :: π, t, p, h => by
    obtain ⟨c, hc, h⟩ := sub_ne h
    obtain ⟨R, h1, h2⟩ := ml_set h
    obtain ⟨a, b, e, _, _, es⟩ := pres_at hc
    have go : ∀ (X Y : List (Str × Str)) (hX : X.Perm (Y ++ R)), ((mrk t, lbl t) :: (mls a ++ (X ++ mls b))).Perm (Y ++ (R ++ (mrk t, lbl t) :: (mls a ++ mls b))) := fun X Y hX => by
      have z1 := List.Perm.cons (mrk t, lbl t) (List.Perm.trans (List.perm_append_comm_assoc (mls a) X (mls b)) (hX.append_right (mls a ++ mls b)))
      have z3 := (List.perm_middle (a := (mrk t, lbl t)) (l₁ := Y ++ R) (l₂ := mls a ++ mls b)).symm
      have z := z1.trans z3
      rw [List.append_assoc] at z
      exact z
    refine ⟨R ++ (mrk t, lbl t) :: (mls a ++ mls b), ?_, fun u => ?_⟩
    · rw [ml_eq t, e, mls_app, mls_cons]
      exact go _ _ h1
    · rw [setAt_cons hc, ml_eq, es]
      show ((mrk t, lbl t) :: mls (a ++ setAt c π u :: b)).Perm _
      rw [mls_app, mls_cons]
      exact go _ _ (h2 u)
theorem hgt_set : ∀ {π : List Nat} {t p : Tr} (u : Tr), sub t π = some p → hgt (setAt t π u) ≤ max (hgt t) (π.length + hgt u)
  | [], t, p, u, h => by
    show hgt u ≤ _
    simp only [List.length_nil]
    omega
  | k :: π, t, p, u, h => by
    obtain ⟨c, hc, h⟩ := sub_ne h
    have ih := hgt_set u h
    have hcm := hgt_kid (List.mem_of_getElem? hc)
    rw [setAt_cons hc, hgt]
    have : hgts ((kids t).set k (setAt c π u)) ≤ max (hgt t - 1) (π.length + hgt u) := hgts_le fun x hx => by
      rcases List.mem_or_eq_of_mem_set hx with h | rfl
      · have := hgt_kid h; omega
      · omega
    simp only [List.length_cons]
    have ht := hgt_eq t
    omega
theorem sub_lev : ∀ {π : List Nat} {t p : Tr}, sub t π = some p → π.length + hgt p ≤ hgt t
  | [], t, p, h => by cases h; simp
  | k :: π, t, p, h => by
    obtain ⟨c, hc, h⟩ := sub_ne h
    have := sub_lev h
    have := hgt_kid (List.mem_of_getElem? hc)
    simp only [List.length_cons]
    omega
theorem set_ne {π : List Nat} {t p u : Tr} (h : sub t π = some p) (ne : u ≠ p) : setAt t π u ≠ t := fun e => by
  have := sub_set u h
  rw [e, h] at this
  exact ne (Option.some.inj this).symm
/-! a patch at its place -/
theorem nd_kid {t c : Tr} {k : Nat} (nd : ((pre t).map mrk).Nodup) (hc : (kids t)[k]? = some c) : ((pre c).map mrk).Nodup := by
  obtain ⟨a, b, e, _, ep, _⟩ := pres_at hc
  rw [pre_eq, List.map_cons, List.nodup_cons, ep, List.map_append, List.map_append] at nd
  exact (List.nodup_append.mp (List.nodup_append.mp nd.2).2.1).1
theorem afts_at {p : Pt} {ks a b : List Tr} {c : Tr} (e : ks = a ++ c :: b) (nd : ((pres ks).map mrk).Nodup) (hm : pmk p ∈ (pre c).map mrk) : afts p ks = a ++ (if keeps p c then aft p c :: b else b) := by
  subst e
  have ep : pres (a ++ c :: b) = pres a ++ (pre c ++ pres b) := by rw [pres_app]; rfl
  rw [ep, List.map_append, List.map_append, List.nodup_append] at nd
  have nb := (List.nodup_append.mp nd.2.1)
  have ha : pmk p ∉ (pres a).map mrk := fun h => nd.2.2 _ h _ (List.mem_append_left _ hm) rfl
  have hb : pmk p ∉ (pres b).map mrk := fun h => nb.2.2 _ hm _ h rfl
  rw [afts_app, afts_off p a ha, afts, afts_off p b hb]
theorem aft_kid {p : Pt} {t c : Tr} {k : Nat} (nd : ((pre t).map mrk).Nodup) (hc : (kids t)[k]? = some c) (hm : pmk p ∈ (pre c).map mrk) (hd : keeps p c = true) (hv : ∀ s ∈ kids t, (∃ i, p = .move (mrk s) i) → False) :
    aft p t = .node (mrk t) (lbl t) ((kids t).set k (aft p c)) := by
  obtain ⟨a, b, e, _, ep, es⟩ := pres_at hc
  rw [pre_eq, List.map_cons, List.nodup_cons] at nd
  have h0 : mrk t ≠ pmk p := fun e2 => nd.1 (by
    rw [ep, List.map_append, List.map_append, e2]
    exact List.mem_append_right _ (List.mem_append_left _ hm))
  rw [aft_eq, afts_at e nd.2 hm, if_pos hd, es]
  have e1 : lbP p (mrk t) (lbl t) = lbl t := by
    cases p <;> simp only [lbP]
    exact if_neg h0
  have e2 : ksP p (mrk t) (a ++ aft p c :: b) = a ++ aft p c :: b := by
    cases hp : p with
    | drop m => rfl
    | say m l => rfl
    | put m i s => subst hp; exact if_neg h0
    | move m i =>
      subst hp
      refine mvT_none fun s hs e3 => ?_
      rcases List.mem_append.mp hs with hs | hs
      · exact hv s (by rw [e]; exact List.mem_append_left _ hs) ⟨i, by rw [e3]⟩
      · rcases List.mem_cons.mp hs with rfl | hs
        · rw [aft_mrk] at e3
          exact hv c (by rw [e]; simp) ⟨i, by rw [e3]⟩
        · exact hv s (by rw [e]; simp [hs]) ⟨i, by rw [e3]⟩
  rw [e1, e2]
/-- the node of the mark itself: put, say -/
theorem aft_node {p : Pt} (hp : (∃ m i s, p = .put m i s) ∨ ∃ m l, p = .say m l) : ∀ {π : List Nat} {t q : Tr}, ((pre t).map mrk).Nodup → sub t π = some q → mrk q = pmk p → aft p t = setAt t π (.node (mrk q) (lbP p (mrk q) (lbl q)) (ksP p (mrk q) (kids q)))
  | [], t, q, nd, h, e => by
    cases h
    rw [aft_eq]
    show _ = Tr.node _ _ _
    rw [pre_eq, List.map_cons, List.nodup_cons] at nd
    rw [afts_off p (kids t) (by rw [← e]; exact nd.1)]
  | k :: π, t, q, nd, h, e => by
    obtain ⟨c, hc, h⟩ := sub_ne h
    have hk : keeps p c = true := by
      rcases hp with ⟨m, i, s, rfl⟩ | ⟨m, l, rfl⟩ <;> rfl
    rw [aft_kid nd hc (by rw [← e]; exact List.mem_map_of_mem (sub_mem h)) hk (fun s _ ⟨i, e2⟩ => by
      rcases hp with ⟨m, j, u, rfl⟩ | ⟨m, l, rfl⟩ <;> cases e2), setAt_cons hc, aft_node hp (nd_kid nd hc) h e]
def chP (p : Pt) (ks : List Tr) (k : Nat) (c : Tr) : List Tr := match p with
  | .move _ i => insT (ks.eraseIdx k) i c
  | _ => ks.eraseIdx k
/-- a child of a node: drop, move -/
theorem aft_child {p : Pt} (hp : (∃ m, p = .drop m) ∨ ∃ m i, p = .move m i) : ∀ {π : List Nat} {t q c : Tr} {k : Nat}, ((pre t).map mrk).Nodup → sub t π = some q → (kids q)[k]? = some c → mrk c = pmk p →
    aft p t = setAt t π (.node (mrk q) (lbl q) (chP p (kids q) k c))
  | [], t, q, c, k, nd, h, hk, e => by
    cases h
    obtain ⟨a, b, ea, al, ep, es⟩ := pres_at hk
    have nd2 := nd
    rw [pre_eq, List.map_cons, List.nodup_cons] at nd2
    have hm : pmk p ∈ (pre c).map mrk := by rw [← e]; exact List.mem_map_of_mem (self_pre c)
    have ee : (a ++ c :: b).eraseIdx k = a ++ b := by
      rw [List.eraseIdx_append_of_length_le (by omega), al, Nat.sub_self]
      rfl
    rw [aft_eq, afts_at ea nd2.2 hm]
    show _ = Tr.node _ _ _
    rcases hp with ⟨m, rfl⟩ | ⟨m, i, rfl⟩
    · have hd : keeps (.drop m) c = false := decide_eq_false (fun h => h e)
      rw [hd, ea]
      show _ = Tr.node _ _ ((a ++ c :: b).eraseIdx k)
      rw [ee]
      rfl
    · have hd : keeps (.move m i) c = true := rfl
      have ndc := nd_kid nd hk
      have ec : aft (.move m i) c = c := by
        rw [aft_eq]
        rw [pre_eq, List.map_cons, List.nodup_cons] at ndc
        rw [afts_off _ (kids c) (by rw [← e]; exact ndc.1)]
        show Tr.node (mrk c) (lbl c) (mvT m i (kids c)) = c
        rw [mvT_none fun s hs e3 => ndc.1 (by rw [e, ← show mrk s = pmk (.move m i) from e3]; exact List.mem_map_of_mem (mem_pres.mpr ⟨s, hs, self_pre s⟩))]
        exact (tr_eta c).symm
      rw [hd, if_pos rfl, ec, ← ea]
      show Tr.node (mrk t) (lbl t) (mvT m i (kids t)) = _
      rw [mvT_at (m := m) hk e fun j s hj hs e3 => ?_]
      · rfl
      have := nd2.2
      rw [ep, List.map_append, List.map_append, List.nodup_append] at this
      refine this.2.2 (mrk s) (List.mem_map_of_mem (mem_pres.mpr ⟨s, ?_, self_pre s⟩)) (mrk c) (List.mem_append_left _ (List.mem_map_of_mem (self_pre c))) (e3.trans e.symm)
      rw [ea, List.getElem?_append_left (by omega)] at hs
      exact List.mem_of_getElem? hs
  | k' :: π, t, q, c, k, nd, h, hk, e => by
    obtain ⟨c', hc, h⟩ := sub_ne h
    have cq : c ∈ pre q := by
      rw [pre_eq]
      exact List.mem_cons_of_mem _ (mem_pres.mpr ⟨c, List.mem_of_getElem? hk, self_pre c⟩)
    have cc : c ∈ pre c' := pre_trans c' (sub_mem h) cq
    have ndc := nd_kid nd hc
    obtain ⟨a, b, ea, al, ep, es⟩ := pres_at hc
    have strict : mrk c' ≠ mrk c := fun e2 => by
      have : c' = c := mrk_inj ndc (self_pre c') cc e2
      have l1 := sub_lev h
      have l2 := hgt_kid (List.mem_of_getElem? hk)
      rw [this] at l1
      omega
    have hm : pmk p ∈ (pre c').map mrk := by rw [← e]; exact List.mem_map_of_mem cc
    have kd : keeps p c' = true := by
      rcases hp with ⟨m, rfl⟩ | ⟨m, i, rfl⟩
      · exact decide_eq_true fun e2 => strict (e2.trans e.symm)
      · rfl
    rw [aft_kid nd hc hm kd (fun s hs ⟨i, e2⟩ => ?_), setAt_cons hc, aft_child hp ndc h hk e]
    have em : mrk s = mrk c := by rw [e, e2]; rfl
    have nd2 := nd
    rw [pre_eq, List.map_cons, List.nodup_cons] at nd2
    have sp : s ∈ pres (kids t) := mem_pres.mpr ⟨s, hs, self_pre s⟩
    have cp : c ∈ pres (kids t) := mem_pres.mpr ⟨c', List.mem_of_getElem? hc, cc⟩
    have es2 : s = c := mrk_inj nd2.2 sp cp em
    subst es2
    -- a child of t that stands within another child
    have nd3 := nd2.2
    rw [ep, List.map_append, List.map_append, List.nodup_append] at nd3
    have nb := List.nodup_append.mp nd3.2.1
    rw [ea] at hs
    rcases List.mem_append.mp hs with h1 | h1
    · exact nd3.2.2 _ (List.mem_map_of_mem (mem_pres.mpr ⟨s, h1, self_pre s⟩)) _ (List.mem_append_left _ (List.mem_map_of_mem cc)) rfl
    · rcases List.mem_cons.mp h1 with rfl | h1
      · exact strict rfl
      · exact nb.2.2 _ (List.mem_map_of_mem cc) _ (List.mem_map_of_mem (mem_pres.mpr ⟨s, h1, self_pre s⟩)) rfl

/-! ### the flat list tells the tree -/
def Low (d : Nat) (r : List Fr3) : Prop := ∀ x s, r = x :: s → x.2.2 < d
theorem fls_low (d : Nat) (ts : List Tr) {r : List Fr3} (h : Low d r) : Low (d + 1) (fls d ts ++ r) := by
  intro x s e
  cases ts with
  | nil => simp only [fls, List.nil_append] at e; have := h x s e; omega
  | cons t ts =>
    simp only [fls, fl_eq, List.cons_append, List.append_assoc] at e
    have := (List.cons.inj e).1
    rw [← this]
    show d < d + 1
    omega
mutual
theorem fl_inj' (d : Nat) : ∀ (t t' : Tr) (r r' : List Fr3), fl d t ++ r = fl d t' ++ r' → Low (d + 1) r → Low (d + 1) r' → t = t' ∧ r = r'
  | .node m l ks, .node m' l' ks', r, r', e, h, h' => by
    simp only [fl, List.cons_append] at e
    obtain ⟨e1, e2⟩ := List.cons.inj e
    obtain ⟨h1, h2⟩ := fls_inj' (d + 1) ks ks' r r' e2 h h'
    have e3 := (Prod.mk.inj e1).1
    have e4 := (Prod.mk.inj (Prod.mk.inj e1).2).1
    exact ⟨by rw [e3, e4, h1], h2⟩
theorem fls_inj' (d : Nat) : ∀ (ts ts' : List Tr) (r r' : List Fr3), fls d ts ++ r = fls d ts' ++ r' → Low d r → Low d r' → ts = ts' ∧ r = r'
  | [], [], r, r', e, _, _ => ⟨rfl, by simpa [fls] using e⟩
  | [], t' :: ts', r, r', e, h, _ => by
    simp only [fls, fl_eq, List.nil_append, List.cons_append, List.append_assoc] at e
    exact absurd (h _ _ e) (Nat.lt_irrefl d)
  | t :: ts, [], r, r', e, _, h' => by
    simp only [fls, fl_eq, List.nil_append, List.cons_append, List.append_assoc] at e
    exact absurd (h' _ _ e.symm) (Nat.lt_irrefl d)
  | t :: ts, t' :: ts', r, r', e, h, h' => by
    simp only [fls, List.append_assoc] at e
    obtain ⟨h1, h2⟩ := fl_inj' d t t' _ _ e (fls_low d ts h) (fls_low d ts' h')
    obtain ⟨h3, h4⟩ := fls_inj' d ts ts' r r' h2 h h'
    exact ⟨by rw [h1, h3], h4⟩
end
theorem fl_inj {t t' : Tr} (h : fl 0 t = fl 0 t') : t = t' := (fl_inj' 0 t t' [] [] (by rw [List.append_nil, List.append_nil]; exact h) (fun _ _ e => nomatch e) (fun _ _ e => nomatch e)).1

end
end K19
set_option Elab.async false
set_option linter.all false
set_option maxRecDepth 100000
set_option maxHeartbeats 4000000
namespace K19
open PySem PySem.Spec PyProof.Rows L2 XL
section
variable {P : Program} {w : World} {K : PySem.W.Frag} {mg : Str → Option Value} {base : Heap}
/-! ### flat lists and places in a tree -/
theorem fls_app (d : Nat) : ∀ xs ys, fls d (xs ++ ys) = fls d xs ++ fls d ys
  | [], ys => by simp only [List.nil_append, fls]
  | s :: r, ys => by simp only [List.cons_append, fls, fls_app d r ys, List.append_assoc]
theorem fls_cons (d : Nat) (s : Tr) (r : List Tr) : fls d (s :: r) = fl d s ++ fls d r := by simp only [fls]
mutual
theorem fl_dep {x : Fr3} (d : Nat) : ∀ t, x ∈ fl d t → d ≤ x.2.2
  | .node m l ks, h => by
    simp only [fl, List.mem_cons] at h
    rcases h with rfl | h
    · exact Nat.le_refl _
    · have := fls_dep (d + 1) ks h
      omega
theorem fls_dep {x : Fr3} (d : Nat) : ∀ ts, x ∈ fls d ts → d ≤ x.2.2
  | [], h => by simp [fls] at h
  | t :: r, h => by
    simp only [fls, List.mem_append] at h
    rcases h with h | h
    · exact fl_dep d t h
    · exact fls_dep d r h
end
theorem fl_len (d : Nat) (t : Tr) : (fl d t).length = (pre t).length := by
  have := congrArg List.length (fl_pre d t)
  rw [List.length_map, List.length_map] at this
  exact this
theorem fls_len (d : Nat) (t : List Tr) : (fls d t).length = (pres t).length := by
  have := congrArg List.length (fls_pre d t)
  rw [List.length_map, List.length_map] at this
  exact this
def lft (d : Nat) : Tr → List Nat → List Fr3
  | _, [] => []
  | t, k :: π => match (kids t)[k]? with
    | none => []
    | some c => (mrk t, lbl t, d) :: (fls (d + 1) ((kids t).take k) ++ lft (d + 1) c π)
def rgt (d : Nat) : Tr → List Nat → List Fr3
  | _, [] => []
  | t, k :: π => match (kids t)[k]? with
    | none => []
    | some c => rgt (d + 1) c π ++ fls (d + 1) ((kids t).drop (k + 1))
theorem lft_cons {d k : Nat} {t c : Tr} {π : List Nat} (h : (kids t)[k]? = some c) : lft d t (k :: π) = (mrk t, lbl t, d) :: (fls (d + 1) ((kids t).take k) ++ lft (d + 1) c π) := by
  rw [lft, h]
theorem rgt_cons {d k : Nat} {t c : Tr} {π : List Nat} (h : (kids t)[k]? = some c) : rgt d t (k :: π) = rgt (d + 1) c π ++ fls (d + 1) ((kids t).drop (k + 1)) := by
  rw [rgt, h]
theorem fl_setAt : ∀ {π : List Nat} {t q : Tr} (d : Nat) (u : Tr), sub t π = some q → fl d (setAt t π u) = lft d t π ++ (fl (d + π.length) u ++ rgt d t π)
  | [], t, q, d, u, h => by simp [lft, rgt, setAt]
  | k :: π, t, q, d, u, h => by
    obtain ⟨c, hc, h⟩ := sub_ne h
    rw [setAt_cons hc, lft_cons hc, rgt_cons hc, fl_eq]
    show (mrk t, lbl t, d) :: fls (d + 1) ((kids t).set k (setAt c π u)) = _
    have hk := (List.getElem?_eq_some_iff.mp hc).1
    rw [List.set_eq_take_append_cons_drop, if_pos hk, fls_app, fls_cons, fl_setAt (d + 1) u h]
    simp only [List.cons_append, List.append_assoc, List.length_cons]
    rw [show d + 1 + π.length = d + (π.length + 1) by omega]
theorem fl_split {π : List Nat} {t q : Tr} (d : Nat) (h : sub t π = some q) : fl d t = lft d t π ++ (fl (d + π.length) q ++ rgt d t π) := by
  have := fl_setAt d q h
  rw [set_sub h] at this
  exact this
theorem rgt_head : ∀ {π : List Nat} {t q : Tr} {d : Nat}, sub t π = some q → ∀ x r, rgt d t π = x :: r → x.2.2 ≤ d + π.length
  | [], t, q, d, h, x, r, e => by simp [rgt] at e
  | k :: π, t, q, d, h, x, r, e => by
    obtain ⟨c, hc, h⟩ := sub_ne h
    rw [rgt_cons hc] at e
    simp only [List.length_cons]
    cases e2 : rgt (d + 1) c π with
    | cons y s =>
      rw [e2] at e
      have := rgt_head h y s e2
      rw [List.cons_append] at e
      injection e with e3 _
      rw [← e3]
      omega
    | nil =>
      rw [e2, List.nil_append] at e
      cases e3 : (kids t).drop (k + 1) with
      | nil => rw [e3] at e; simp [fls] at e
      | cons s ss =>
        rw [e3, fls_cons, fl_eq, List.cons_append] at e
        injection e with e4 _
        rw [← e4]
        show d + 1 ≤ _
        omega
theorem sub_snc : ∀ {π : List Nat} {t q : Tr} (j : Nat), sub t π = some q → sub t (π ++ [j]) = (kids q)[j]?
  | [], t, q, j, h => by
    cases h
    show sub t [j] = _
    rw [sub]
    cases (kids t)[j]? <;> rfl
  | k :: π, t, q, j, h => by
    obtain ⟨c, hc, h⟩ := sub_ne h
    rw [List.cons_append, sub_cons hc]
    exact sub_snc j h
theorem lft_snoc : ∀ {π : List Nat} {t q c : Tr} {d j : Nat}, sub t π = some q → (kids q)[j]? = some c → lft d t (π ++ [j]) = lft d t π ++ (mrk q, lbl q, d + π.length) :: fls (d + π.length + 1) ((kids q).take j)
  | [], t, q, c, d, j, h, hc => by
    cases h
    show lft d t [j] = _
    rw [lft_cons hc]
    simp [lft]
  | k :: π, t, q, c, d, j, h, hc => by
    obtain ⟨c', hc', h⟩ := sub_ne h
    rw [List.cons_append, lft_cons hc', lft_cons hc', lft_snoc h hc]
    simp only [List.cons_append, List.append_assoc, List.length_cons]
    rw [show d + 1 + π.length = d + (π.length + 1) by omega]
theorem rgt_snoc : ∀ {π : List Nat} {t q c : Tr} {d j : Nat}, sub t π = some q → (kids q)[j]? = some c → rgt d t (π ++ [j]) = fls (d + π.length + 1) ((kids q).drop (j + 1)) ++ rgt d t π
  | [], t, q, c, d, j, h, hc => by
    cases h
    show rgt d t [j] = _
    rw [rgt_cons hc]
    simp [rgt]
  | k :: π, t, q, c, d, j, h, hc => by
    obtain ⟨c', hc', h⟩ := sub_ne h
    rw [List.cons_append, rgt_cons hc', rgt_cons hc', rgt_snoc h hc]
    simp only [List.append_assoc, List.length_cons]
    rw [show d + 1 + π.length = d + (π.length + 1) by omega]
mutual
theorem at_pos (d : Nat) : ∀ (t : Tr) (k : Nat), k < (fl d t).length → ∃ π q, sub t π = some q ∧ (lft d t π).length = k
  | .node m l ks, 0, _ => ⟨[], _, rfl, rfl⟩
  | .node m l ks, k + 1, h => by
    simp only [fl, List.length_cons] at h
    obtain ⟨j, c, π, q, hc, hq, e⟩ := at_poss (d + 1) ks k (by omega)
    have hc' : (kids (.node m l ks))[j]? = some c := hc
    refine ⟨j :: π, q, by rw [sub_cons hc']; exact hq, ?_⟩
    rw [lft_cons hc', List.length_cons, List.length_append]
    exact congrArg (· + 1) e
theorem at_poss (d : Nat) : ∀ (ts : List Tr) (k : Nat), k < (fls d ts).length → ∃ (j : Nat) (c : Tr) (π : List Nat) (q : Tr), ts[j]? = some c ∧ sub c π = some q ∧ (fls d (ts.take j)).length + (lft d c π).length = k
  | [], k, h => by simp [fls] at h
  | t :: r, k, h => by
    rw [fls_cons, List.length_append] at h
    by_cases hk : k < (fl d t).length
    · obtain ⟨π, q, h1, h2⟩ := at_pos d t k hk
      exact ⟨0, t, π, q, rfl, h1, by simp [fls, h2]⟩
    · obtain ⟨j, c, π, q, h1, h2, h3⟩ := at_poss d r (k - (fl d t).length) (by omega)
      refine ⟨j + 1, c, π, q, h1, h2, ?_⟩
      rw [List.take_succ_cons, fls_cons, List.length_append]
      omega
end
/-! the law's places -/
def dep (fs : List Fr3) (j : Nat) : Nat := (fs[j]?.map fun x => x.2.2).getD 0
structure IsEnd (fs : List Fr3) (k e : Nat) : Prop where
  lt : k < e
  le : e ≤ fs.length
  dp : ∀ j, k < j → j < e → dep fs k < dep fs j
  en : e < fs.length → dep fs e ≤ dep fs k
theorem dep_at {A B : List Fr3} {x : Fr3} {j : Nat} (h : j = A.length) : dep (A ++ x :: B) j = x.2.2 := by
  unfold dep
  subst h
  rw [List.getElem?_append_right (Nat.le_refl _), Nat.sub_self]
  rfl
theorem dep_get {fs : List Fr3} {j : Nat} {x : Fr3} (h : fs[j]? = some x) : dep fs j = x.2.2 := by
  unfold dep
  rw [h]
  rfl
theorem end_at {fs : List Fr3} {t q : Tr} {π : List Nat} {e : Nat} (ef : fl 0 t = fs) (h : sub t π = some q) (he : IsEnd fs (lft 0 t π).length e) : e = (lft 0 t π).length + (pre q).length := by
  have es := fl_split 0 h
  rw [ef] at es
  have hd : dep fs (lft 0 t π).length = π.length := by
    rw [es, fl_eq, List.cons_append, dep_at rfl, Nat.zero_add]
  have lq := fl_len (0 + π.length) q
  have tot := congrArg List.length es
  rw [List.length_append, List.length_append, lq] at tot
  have hin : ∀ j, (lft 0 t π).length < j → j < (lft 0 t π).length + (pre q).length → π.length < dep fs j := fun j h1 h2 => by
    obtain ⟨i, rfl⟩ : ∃ i, j = (lft 0 t π).length + (i + 1) := ⟨j - (lft 0 t π).length - 1, by omega⟩
    have lk := fls_len (0 + π.length + 1) (kids q)
    have pq := congrArg List.length (pre_eq q)
    rw [List.length_cons] at pq
    have hi : i < (fls (0 + π.length + 1) (kids q)).length := by omega
    have hg : fs[(lft 0 t π).length + (i + 1)]? = some ((fls (0 + π.length + 1) (kids q))[i]) := by
      rw [es, List.getElem?_append_right (by omega), show (lft 0 t π).length + (i + 1) - (lft 0 t π).length = i + 1 by omega, fl_eq, List.cons_append, List.getElem?_cons_succ, List.getElem?_append_left hi]
      exact List.getElem?_eq_getElem hi
    rw [dep_get hg]
    have := fls_dep _ _ (List.getElem_mem hi)
    omega
  have p1 : 1 ≤ (pre q).length := by rw [pre_eq]; simp
  rcases Nat.lt_trichotomy e ((lft 0 t π).length + (pre q).length) with c | c | c
  · have h1 := he.en (by omega)
    have h2 := hin e he.lt c
    omega
  · exact c
  · have h1 := he.dp _ (by omega) c
    cases er : rgt 0 t π with
    | nil =>
      have h2 := he.le
      rw [er, List.length_nil] at tot
      omega
    | cons x r =>
      have h2 := rgt_head h x r er
      have h3 : dep fs ((lft 0 t π).length + (pre q).length) = x.2.2 := by
        rw [es, er, ← List.append_assoc]
        exact dep_at (by rw [List.length_append, lq])
      omega

end
end K19
set_option Elab.async false
set_option linter.all false
set_option maxRecDepth 100000
set_option maxHeartbeats 4000000
namespace K19
open PySem PySem.Spec PyProof.Rows L2 XL
section
variable {P : Program} {w : World} {K : PySem.W.Frag} {mg : Str → Option Value} {base : Heap}
/-! ### places of the children -/
structure IsOver (fs : List Fr3) (k a : Nat) : Prop where
  lt : ∀ j, j < k → dep fs j + 1 = dep fs k → a < k ∧ dep fs a + 1 = dep fs k ∧ j ≤ a
theorem get_mid {A B C : List Fr3} {i n : Nat} {x : Fr3} (hx : B[i]? = some x) (hn : n = A.length + i) : (A ++ (B ++ C))[n]? = some x := by
  have il := (List.getElem?_eq_some_iff.mp hx).1
  rw [hn, List.getElem?_append_right (by omega), show A.length + i - A.length = i by omega, List.getElem?_append_left il]
  exact hx
theorem over_at {fs : List Fr3} {t q c : Tr} {π : List Nat} {j a : Nat} (ef : fl 0 t = fs) (h : sub t π = some q) (hc : (kids q)[j]? = some c) (ho : IsOver fs (lft 0 t (π ++ [j])).length a) : a = (lft 0 t π).length := by
  have h2 := (sub_snc j h).trans hc
  have es := fl_split 0 h2
  rw [ef] at es
  have lk := lft_snoc (d := 0) h hc
  have hd : dep fs (lft 0 t (π ++ [j])).length = π.length + 1 := by
    rw [es, fl_eq, List.cons_append, dep_at rfl, List.length_append]
    simp
  have ll := congrArg List.length lk
  rw [List.length_append, List.length_cons] at ll
  have ha : dep fs (lft 0 t π).length = π.length := by
    rw [es, lk, List.append_assoc, List.cons_append, dep_at rfl, Nat.zero_add]
  obtain ⟨h3, h4, h5⟩ := ho.lt (lft 0 t π).length (by omega) (by rw [ha, hd])
  rcases Nat.lt_or_eq_of_le h5 with c1 | c1
  · exfalso
    obtain ⟨i, rfl⟩ : ∃ i, a = (lft 0 t π).length + (i + 1) := ⟨a - (lft 0 t π).length - 1, by omega⟩
    have hi : i < (fls (0 + π.length + 1) ((kids q).take j)).length := by omega
    have hg : fs[(lft 0 t π).length + (i + 1)]? = some ((fls (0 + π.length + 1) ((kids q).take j))[i]) := by
      rw [es, lk, List.append_assoc, List.cons_append]
      refine (List.getElem?_append_right (by omega)).trans ?_
      rw [show (lft 0 t π).length + (i + 1) - (lft 0 t π).length = i + 1 by omega, List.getElem?_cons_succ, List.getElem?_append_left hi]
      exact List.getElem?_eq_getElem hi
    have hd2 := dep_get hg
    have := fls_dep _ _ (List.getElem_mem hi)
    omega
  · exact c1.symm
def kpos (b : Nat) : List Tr → List Nat
  | [] => []
  | s :: r => b :: kpos (b + (pre s).length) r
theorem kpos_len (b : Nat) : ∀ ks : List Tr, (kpos b ks).length = ks.length := by
  intro ks
  induction ks generalizing b with
  | nil => rfl
  | cons s r ih => simp only [kpos, List.length_cons, ih]
theorem kpos_get : ∀ (ks : List Tr) (b i : Nat), i < ks.length → (kpos b ks)[i]? = some (b + (pres (ks.take i)).length)
  | [], _, _, h => by simp at h
  | s :: r, b, 0, _ => by simp [kpos, pres]
  | s :: r, b, i + 1, h => by
    rw [kpos, List.getElem?_cons_succ, kpos_get r _ i (by simpa using h), List.take_succ_cons]
    simp only [pres, List.length_append]
    congr 1
    omega
theorem filt_fls {fs : List Fr3} (D : Nat) : ∀ (ks : List Tr) (A B : List Fr3), fs = A ++ (fls D ks ++ B) → (List.range' A.length (pres ks).length).filter (fun j => decide (dep fs j = D)) = kpos A.length ks
  | [], A, B, e => by simp [pres, kpos]
  | s :: r, A, B, e => by
    have e1 : fs = (A ++ fl D s) ++ (fls D r ++ B) := by rw [e, fls_cons]; simp only [List.append_assoc]
    have ih := filt_fls D r (A ++ fl D s) B e1
    have ls := fl_len D s
    rw [List.length_append, ls] at ih
    have er : (pres (s :: r)).length = (pre s).length + (pres r).length := by simp only [pres, List.length_append]
    have rg : List.range' A.length ((pre s).length + (pres r).length) = List.range' A.length (pre s).length ++ List.range' (A.length + (pre s).length) (pres r).length := by
      have := List.range'_append (s := A.length) (m := (pre s).length) (n := (pres r).length) (step := 1)
      rw [Nat.one_mul] at this
      exact this.symm
    rw [er, rg, List.filter_append, ih, kpos]
    have ps : (pre s).length = (pres (kids s)).length + 1 := by rw [pre_eq, List.length_cons]
    have h0 : dep fs A.length = D := by rw [e, fls_cons, fl_eq, List.cons_append, List.cons_append, dep_at rfl]
    have hn : (List.range' (A.length + 1) (pres (kids s)).length).filter (fun j => decide (dep fs j = D)) = [] := by
      rw [List.filter_eq_nil_iff]
      intro j hj
      rw [List.mem_range'_1] at hj
      obtain ⟨i, rfl⟩ : ∃ i, j = A.length + (i + 1) := ⟨j - A.length - 1, by omega⟩
      have lk := fls_len (D + 1) (kids s)
      have hi : i < (fls (D + 1) (kids s)).length := by omega
      have hg : fs[A.length + (i + 1)]? = some ((fls (D + 1) (kids s))[i]) := by
        rw [e1, List.append_assoc, fl_eq, List.cons_append]
        refine (List.getElem?_append_right (by omega)).trans ?_
        rw [show A.length + (i + 1) - A.length = i + 1 by omega, List.getElem?_cons_succ, List.getElem?_append_left hi]
        exact List.getElem?_eq_getElem hi
      have := fls_dep _ _ (List.getElem_mem hi)
      rw [dep_get hg]
      simp
      omega
    rw [ps, List.range'_succ, List.filter_cons, if_pos (decide_eq_true h0), hn]
    rfl
/-- the places of the children -/
def bnF (fs : List Fr3) (k e : Nat) : List Nat := (List.range' (k + 1) (e - (k + 1))).filter fun j => decide (dep fs j = dep fs k + 1)
theorem bn_at {fs : List Fr3} {t q : Tr} {π : List Nat} {e : Nat} (ef : fl 0 t = fs) (h : sub t π = some q) (he : e = (lft 0 t π).length + (pre q).length) : bnF fs (lft 0 t π).length e = kpos ((lft 0 t π).length + 1) (kids q) := by
  have es := fl_split 0 h
  rw [ef] at es
  have hd : dep fs (lft 0 t π).length = π.length := by rw [es, fl_eq, List.cons_append, dep_at rfl, Nat.zero_add]
  have pq : (pre q).length = (pres (kids q)).length + 1 := by rw [pre_eq, List.length_cons]
  have e2 : fs = (lft 0 t π ++ [(mrk q, lbl q, 0 + π.length)]) ++ (fls (0 + π.length + 1) (kids q) ++ rgt 0 t π) := by
    rw [es, fl_eq]
    simp only [List.append_assoc, List.cons_append, List.nil_append]
  have z := filt_fls _ _ _ _ e2
  rw [List.length_append, List.length_singleton] at z
  unfold bnF
  rw [← z, hd, he, pq, show (lft 0 t π).length + ((pres (kids q)).length + 1) - ((lft 0 t π).length + 1) = (pres (kids q)).length by omega, Nat.zero_add]
/-! ### the list behind a change -/
theorem erase_eq {α : Type} (l : List α) (j : Nat) : l.eraseIdx j = l.take j ++ l.drop (j + 1) := List.eraseIdx_eq_take_drop_succ l j
theorem drop_fl {t q c : Tr} {π : List Nat} {j : Nat} (h : sub t π = some q) (hc : (kids q)[j]? = some c) :
    (fl 0 t).take (lft 0 t (π ++ [j])).length ++ (fl 0 t).drop ((lft 0 t (π ++ [j])).length + (pre c).length) = fl 0 (setAt t π (.node (mrk q) (lbl q) ((kids q).eraseIdx j))) := by
  have h2 := (sub_snc j h).trans hc
  have lc := fl_len (0 + (π ++ [j]).length) c
  rw [fl_split 0 h2, List.take_left, ← List.append_assoc, List.drop_left' (by rw [List.length_append, lc]), fl_setAt 0 _ h, lft_snoc h hc, rgt_snoc h hc]
  show _ = lft 0 t π ++ (fl (0 + π.length) (.node (mrk q) (lbl q) ((kids q).eraseIdx j)) ++ rgt 0 t π)
  rw [fl, erase_eq, fls_app]
  simp only [List.append_assoc, List.cons_append]
theorem ins_fl {t q : Tr} {π : List Nat} {i : Nat} (s : Tr) (h : sub t π = some q) (hi : i ≤ (kids q).length) :
    (fl 0 t).take ((lft 0 t π).length + 1 + (pres ((kids q).take i)).length) ++ (fl (π.length + 1) s ++ (fl 0 t).drop ((lft 0 t π).length + 1 + (pres ((kids q).take i)).length)) = fl 0 (setAt t π (.node (mrk q) (lbl q) (insT (kids q) i s))) := by
  have ek : kids q = (kids q).take i ++ (kids q).drop i := (List.take_append_drop i _).symm
  have lk := fls_len (0 + π.length + 1) ((kids q).take i)
  have e1 : fl 0 t = (lft 0 t π ++ (mrk q, lbl q, 0 + π.length) :: fls (0 + π.length + 1) ((kids q).take i)) ++ (fls (0 + π.length + 1) ((kids q).drop i) ++ rgt 0 t π) := by
    have e2 := fls_app (0 + π.length + 1) ((kids q).take i) ((kids q).drop i)
    rw [← ek] at e2
    rw [fl_split 0 h, fl_eq, e2]
    simp only [List.append_assoc, List.cons_append]
  have ll : (lft 0 t π ++ (mrk q, lbl q, 0 + π.length) :: fls (0 + π.length + 1) ((kids q).take i)).length = (lft 0 t π).length + 1 + (pres ((kids q).take i)).length := by
    rw [List.length_append, List.length_cons, lk]
    omega
  rw [e1, List.take_left' ll, List.drop_left' ll, fl_setAt 0 _ h]
  unfold insT
  rw [fl, fls_app, fls_cons, Nat.zero_add]
  simp only [List.append_assoc, List.cons_append]
theorem say_fl {t q : Tr} {π : List Nat} (l : Str) (h : sub t π = some q) :
    (fl 0 t).take (lft 0 t π).length ++ ((mrk q, l, π.length) :: (fl 0 t).drop ((lft 0 t π).length + 1)) = fl 0 (setAt t π (.node (mrk q) l (kids q))) := by
  have e1 : fl 0 t = lft 0 t π ++ (mrk q, lbl q, 0 + π.length) :: (fls (0 + π.length + 1) (kids q) ++ rgt 0 t π) := by
    rw [fl_split 0 h, fl_eq]
    simp only [List.cons_append]
  have e2 : (fl 0 t).drop ((lft 0 t π).length + 1) = fls (0 + π.length + 1) (kids q) ++ rgt 0 t π := by
    rw [e1, show lft 0 t π ++ (mrk q, lbl q, 0 + π.length) :: (fls (0 + π.length + 1) (kids q) ++ rgt 0 t π) = (lft 0 t π ++ [(mrk q, lbl q, 0 + π.length)]) ++ (fls (0 + π.length + 1) (kids q) ++ rgt 0 t π) by simp]
    exact List.drop_left' (by simp)
  rw [e2, fl_setAt 0 _ h, fl]
  rw [e1, List.take_left, Nat.zero_add]
  simp only [List.cons_append]
mutual
theorem fl_low (d n : Nat) : ∀ t, (fl d t).map (fun x => (x.1, x.2.1, x.2.2 + n)) = fl (d + n) t
  | .node m l ks => by
    simp only [fl, List.map_cons, fls_low2 (d + 1) n ks]
    rw [show d + 1 + n = d + n + 1 by omega]
theorem fls_low2 (d n : Nat) : ∀ ts, (fls d ts).map (fun x => (x.1, x.2.1, x.2.2 + n)) = fls (d + n) ts
  | [] => by simp only [fls, List.map_nil]
  | t :: r => by simp only [fls, List.map_append, fl_low d n t, fls_low2 d n r]
end

end
end K19
set_option Elab.async false
set_option linter.all false
set_option maxRecDepth 100000
set_option maxHeartbeats 4000000
namespace K19
open PySem PySem.Spec PyProof.Rows L2 XL
section
variable {P : Program} {w : World} {K : PySem.W.Frag} {mg : Str → Option Value} {base : Heap}
/-! ### the law's places in a flat list -/
def FlD (G : Hp) (D : Addr) (fs : List Fr3) : Prop := ∃ us, G D = some (.lst us) ∧ Paired (FlAt G) us fs
theorem FlD.same {G G' : Hp} (e : Same G G') {D : Addr} {fs : List Fr3} (h : FlD G D fs) : FlD G' D fs := let ⟨us, h1, h2⟩ := h; ⟨us, e _ _ h1, prd_imp (fun _ _ => FlAt.same e) h2⟩
/-- row j -/
theorem fld_at {K : PySem.W.Frag} {G : Hp} {us : List V} {fs : List Fr3} (h : Paired (FlAt G) us fs) {j : Nat} (hj : j < fs.length) : ∃ a m l, us[j]? = some (.ref a) ∧ G a = some (.tup [.str m, .str l, .int (dep fs j : Nat)]) ∧ fs[j]? = some (m, l, dep fs j) := by
  have ul := prd_len h
  have hu := List.getElem?_eq_getElem (show j < us.length by omega)
  obtain ⟨x, hx, a, e, ha⟩ := prd_get h hu
  rw [e] at hu
  refine ⟨a, x.1, x.2.1, hu, ?_, ?_⟩
  · rw [dep_get hx]
    exact ha
  · rw [dep_get hx]
    exact hx
theorem end_uniq {fs : List Fr3} {k e e' : Nat} (h : IsEnd fs k e) (h' : IsEnd fs k e') : e = e' := by
  rcases Nat.lt_trichotomy e e' with c | c | c
  · have h1 := h.en (by have := h'.le; omega)
    have h2 := h'.dp e h.lt c
    omega
  · exact c
  · have h1 := h'.en (by have := h.le; omega)
    have h2 := h.dp e' h'.lt c
    omega
def spEnd : Sp := fun vs H Q _ => ∃ (G : Hp) (D : Addr) (fs : List Fr3) (k : Nat), vs = [.ref D, .int (k : Nat)] ∧ Same G H ∧ FlD G D fs ∧ fs.length ≤ 400 ∧ k < fs.length ∧ ∀ e : Nat, IsEnd fs k e → Q (.int (e : Nat)) H
theorem ok_end (T : Top K mg w) {k : Nat} : FnOk P w K mg base CX0 (k + 1) T.a_end T.d_end ["_law_flat_here", "_law_k"] spEnd := by
  refine T.F_end.ok sc_end (fun vs H Q E h => ?_) (fun cdv A outer s H vs Q E hr h => ?_)
  · obtain ⟨G, D, fs, n, rfl, _⟩ := h
    rfl
  · obtain ⟨G, D, fs, n, rfl, S, ⟨us, hD, hus⟩, fl4, hn, q⟩ := h
    refine ⟨_, (pss_cons (ps_for PassesOwn.never rfl (pi_range2 (by rfl) T.m_range (pa_cons (pe_op op_addY (xv 1) pe_int) (pa_cons (pe_callB (cr_lenK K) (by rfl) T.m_len (by decide +kernel) (pa_cons (xv 0) pa_nil)) pa_nil))) (pg_name (i := 2) sc_end.nd rfl (.inl rfl))
      (pss_one (xs_if (xt_cmp op_leY (pe_ix (ix_k K) (pe_ix (ix_k K) (xv 0) (xv 2) (fun _ _ => rfl)) pe_int (fun _ _ => rfl)) (pe_ix (ix_k K) (pe_ix (ix_k K) (xv 0) (xv 1) (fun _ _ => rfl)) pe_int (fun _ _ => rfl)) (nomark _))
      (pss_one (ps_ret (xv 2)))
      pss_nil)))
      (pss_one (ps_ret (pe_callB (cr_lenK K) (by rfl) T.m_len (by decide +kernel) (pa_cons (xv 0) pa_nil))))), ?_⟩
    have ul := prd_len hus
    have hL := SqL.of (K := K) (S _ _ hD)
    obtain ⟨an, mn, ln, hun, han, _⟩ := fld_at (K := K) hus hn
    refine ⟨_, .inl hL, _, _, rfl, ⟨by omega, by omega, by omega, by omega⟩, for_range (lo := (n : Int) + 1) (n := ((us.length : Int) - ((n : Int) + 1)).toNat) (fun i σ H' => ∃ (y2 : Option V), σ = [some (.ref D), some (.int (n : Nat)), y2] ∧ (∀ j, n < j → j < n + 1 + i → dep fs n < dep fs j) ∧ H' = H)
      ⟨_, rfl, fun j h1 h2 => by omega, rfl⟩ (fun i σ H' hi h => ?_) (fun σ H' h => ?_)⟩
    · obtain ⟨y2, rfl, hd, rfl⟩ := h
      have hi : i < ((us.length : Int) - ((n : Int) + 1)).toNat := hi
      have ej : (n : Int) + 1 + (i : Nat) = ((n + 1 + i : Nat) : Int) := by omega
      obtain ⟨aj, mj, lj, huj, haj, _⟩ := fld_at (K := K) hus (show n + 1 + i < fs.length by omega)
      have huj0 := (congrArg (atI us) ej).trans (atI_nat huj)
      refine ⟨_, _, .inl hL, huj0, _, _, .inr (SqT.of (S _ _ haj)), atI_nat (j := 2) rfl, _, _, .inl hL, atI_nat hun, _, _, .inr (SqT.of (S _ _ han)), atI_nat (j := 2) rfl, fun e => ?_, fun e => ?_⟩
      · have e : ((dep fs (n + 1 + i) : Nat) : Int) ≤ (dep fs n : Nat) := of_decide_eq_true e
        have := q (n + 1 + i) ⟨by omega, by omega, hd, fun _ => by omega⟩
        rw [← ej] at this
        exact this
      · have e : ¬ ((dep fs (n + 1 + i) : Nat) : Int) ≤ (dep fs n : Nat) := of_decide_eq_false e
        refine ⟨_, rfl, fun j h1 h2 => ?_, rfl⟩
        by_cases c : j = n + 1 + i
        · subst c; omega
        · exact hd j h1 (by omega)
    · obtain ⟨y2, rfl, hd, rfl⟩ := h
      refine ⟨_, .inl hL, ?_⟩
      rw [ul]
      exact q fs.length ⟨hn, Nat.le_refl _, fun j h1 h2 => hd j h1 (by omega), fun h => absurd h (Nat.lt_irrefl _)⟩
def spOver : Sp := fun vs H Q _ => ∃ (G : Hp) (D : Addr) (fs : List Fr3) (k : Nat), vs = [.ref D, .int (k : Nat)] ∧ Same G H ∧ FlD G D fs ∧ fs.length ≤ 400 ∧ k < fs.length ∧ ∀ a : Nat, IsOver fs k a → a ≤ k → Q (.int (a : Nat)) H
theorem ok_over (T : Top K mg w) {k : Nat} : FnOk P w K mg base CX0 (k + 1) T.a_over T.d_over ["_law_flat_here", "_law_k"] spOver := by
  refine T.F_over.ok sc_over (fun vs H Q E h => ?_) (fun cdv A outer s H vs Q E hr h => ?_)
  · obtain ⟨G, D, fs, n, rfl, _⟩ := h
    rfl
  · obtain ⟨G, D, fs, n, rfl, S, ⟨us, hD, hus⟩, fl4, hn, q⟩ := h
    refine ⟨_, (pss_cons (ps_set (i := 2) sc_over.nd rfl (.inl rfl) pe_int)
      (pss_cons (ps_for PassesOwn.never rfl (pi_range1 (by rfl) T.m_range (pa_cons (xv 1) pa_nil)) (pg_name (i := 3) sc_over.nd rfl (.inl rfl))
      (pss_one (xs_if (xt_cmp (op_eqLK K hr.u190) (pe_ix (ix_k K) (pe_ix (ix_k K) (xv 0) (xv 3) (fun _ _ => rfl)) pe_int (fun _ _ => rfl)) (pe_op op_subY (pe_ix (ix_k K) (pe_ix (ix_k K) (xv 0) (xv 1) (fun _ _ => rfl)) pe_int (fun _ _ => rfl)) pe_int) (nomark _))
      (pss_one (ps_set (i := 2) sc_over.nd rfl (.inl rfl) (xv 3)))
      pss_nil)))
      (pss_one (ps_ret (xv 2))))), ?_⟩
    have ul := prd_len hus
    have hL := SqL.of (K := K) (S _ _ hD)
    obtain ⟨an, mn, ln, hun, han, _⟩ := fld_at (K := K) hus hn
    refine ⟨_, rfl, by omega, by omega, for_range (lo := 0) (n := n) (fun i σ H' => ∃ (y3 : Option V) (a : Nat), σ = [some (.ref D), some (.int (n : Nat)), some (.int (a : Nat)), y3] ∧ a ≤ i ∧ (∀ j, j < i → dep fs j + 1 = dep fs n → a < i ∧ dep fs a + 1 = dep fs n ∧ j ≤ a) ∧ H' = H)
      ⟨_, 0, rfl, Nat.le_refl _, fun j h1 => by omega, rfl⟩ (fun i σ H' hi h => ?_) (fun σ H' h => ?_)⟩
    · obtain ⟨y3, a, rfl, ai, hd, rfl⟩ := h
      have ej : (0 : Int) + (i : Nat) = ((i : Nat) : Int) := by omega
      obtain ⟨aj, mj, lj, huj, haj, _⟩ := fld_at (K := K) hus (show i < fs.length by omega)
      have huj0 := (congrArg (atI us) ej).trans (atI_nat huj)
      refine ⟨_, _, .inl hL, huj0, _, _, .inr (SqT.of (S _ _ haj)), atI_nat (j := 2) rfl, _, _, .inl hL, atI_nat hun, _, _, .inr (SqT.of (S _ _ han)), atI_nat (j := 2) rfl, fun e => ?_, fun e => ?_⟩
      · have e : ((dep fs i : Nat) : Int) = (dep fs n : Nat) - 1 := of_decide_eq_true e
        refine ⟨some (.int (0 + (i : Nat))), i, ?_, by omega, fun j h1 h2 => ⟨by omega, by omega, by omega⟩, rfl⟩
        show [some (V.ref D), some (V.int (n : Nat)), some (V.int (0 + (i : Nat))), some (V.int (0 + (i : Nat)))] = [some (V.ref D), some (V.int (n : Nat)), some (V.int (i : Nat)), some (V.int (0 + (i : Nat)))]
        rw [ej]
      · have e : ¬ ((dep fs i : Nat) : Int) = (dep fs n : Nat) - 1 := of_decide_eq_false e
        refine ⟨_, a, rfl, by omega, fun j h1 h2 => ?_, rfl⟩
        have c : j ≠ i := fun c => by subst c; omega
        obtain ⟨h3, h4, h5⟩ := hd j (by omega) h2
        exact ⟨by omega, h4, h5⟩
    · obtain ⟨y3, a, rfl, ai, hd, rfl⟩ := h
      exact q a ⟨fun j h1 h2 => hd j h1 h2⟩ ai
def spBn : Sp := fun vs H Q _ => ∃ (G : Hp) (M : List (Addr × HO)) (D : Addr) (fs : List Fr3) (k : Nat), vs = [.ref D, .int (k : Nat)] ∧ Sep G M H ∧ FlD G D fs ∧ fs.length ≤ 400 ∧ k < fs.length ∧
  ∀ (e : Nat) (L : Addr) (G' H' : Hp), IsEnd fs k e → Same G G' → G' L = some (.lst ((bnF fs k e).map fun j => V.int (j : Nat))) → Sep G' M H' → Q (.ref L) H'
theorem ok_beneath (T : Top K mg w) {k : Nat} (G_end : FnOk P w K mg base CX0 k T.a_end T.d_end ["_law_flat_here", "_law_k"] spEnd) : FnOk P w K mg base CX0 (k + 1) T.a_beneath T.d_beneath ["_law_flat_here", "_law_k"] spBn := by
  refine T.F_beneath.ok sc_beneath (fun vs H Q E h => ?_) (fun cdv A outer s H vs Q E hr h => ?_)
  · obtain ⟨G, M, D, fs, n, rfl, _⟩ := h
    rfl
  · obtain ⟨G, M, D, fs, n, rfl, S, hD0, fl4, hn, q⟩ := h
    refine ⟨_, (pss_one (ps_ret (pe_lc (own := [("_law_j", 2)]) (by rfl) sc_beneath.nd (pi_range2 (by rfl) T.m_range (pa_cons (pe_op op_addY (xv 1) pe_int) (pa_cons (pe_call G_end (hr.mono (by omega)) (by rfl) T.g_end T.F_end.kp T.b_end .nil pass0 (pa_cons (xv 0) (pa_cons (xv 1) pa_nil))) pa_nil))) (blkOk_by (N := ["_law_flat_here", "_law_k", "_law_j"]) (sc := defScope s_beneath) (by decide +kernel)) (fun _ _ _ _ _ => (pg_name (i := 2) sc_beneath.nd rfl (.inl rfl))) (fun _ _ _ _ _ => (pts_one (xt_cmp (op_eqLK K hr.u190) (pe_ix (ix_k K) (pe_ix (ix_k K) (xv 0) (xv 2) (fun _ _ => rfl)) pe_int (fun _ _ => rfl)) (pe_op op_addY (pe_ix (ix_k K) (pe_ix (ix_k K) (xv 0) (xv 1) (fun _ _ => rfl)) pe_int (fun _ _ => rfl)) pe_int) (nomark _)))) (fun _ _ _ _ _ => (xv 2))))), ?_⟩
    obtain ⟨us, hD, hus⟩ := id hD0
    have ul := prd_len hus
    obtain ⟨an, mn, ln, hun, han, _⟩ := fld_at (K := K) hus hn
    refine ⟨G, D, fs, n, rfl, S.1, hD0, fl4, hn, fun e he => ?_⟩
    refine ⟨_, _, rfl, ⟨by omega, by have := he.le; omega, by omega, by have := he.le; omega⟩, fun L nL => lc_range (lo := (n : Int) + 1) (n := ((e : Int) - ((n : Int) + 1)).toNat) (fun i H' => Sep G ((L, .lst (((List.range' (n + 1) i).filter fun j => decide (dep fs j = dep fs n + 1)).map fun j => V.int (j : Nat))) :: M) H') (S.new nL) (fun i H' hi S1 => ⟨rfl, ?_⟩) (fun H' S1 => ?_)⟩
    · have hi : i < ((e : Int) - ((n : Int) + 1)).toNat := hi
      have hle := he.le
      have ej : (n : Int) + 1 + (i : Nat) = ((n + 1 + i : Nat) : Int) := by omega
      obtain ⟨aj, mj, lj, huj, haj, _⟩ := fld_at (K := K) hus (show n + 1 + i < fs.length by omega)
      have huj0 := (congrArg (atI us) ej).trans (atI_nat huj)
      have hL1 := SqL.of (K := K) (S1.st hD)
      have rs : List.range' (n + 1) (i + 1) = List.range' (n + 1) i ++ [n + 1 + i] := by
        have := List.range'_append (s := n + 1) (m := i) (n := 1) (step := 1)
        rw [Nat.one_mul] at this
        exact this.symm
      refine ⟨_, _, .inl hL1, huj0, _, _, .inr (SqT.of (S1.st haj)), atI_nat (j := 2) rfl, _, _, .inl hL1, atI_nat hun, _, _, .inr (SqT.of (S1.st han)), atI_nat (j := 2) rfl, ?_⟩
      rw [rs, List.filter_append, List.map_append]
      refine tst (fun e1 => ?_) (fun e1 => ?_)
      · have e1 : ((dep fs (n + 1 + i) : Nat) : Int) = (dep fs n : Nat) + 1 := of_decide_eq_true e1
        have h3 := List.length_filter_le (fun j => decide (dep fs j = dep fs n + 1)) (List.range' (n + 1) i)
        rw [List.length_range'] at h3
        refine ⟨_, S1.hd, by rw [List.length_map]; exact smallL (by omega), ?_⟩
        rw [show ([n + 1 + i].filter fun j => decide (dep fs j = dep fs n + 1)) = [n + 1 + i] by simp only [List.filter]; rw [decide_eq_true (by omega)], ej]
        exact S1.set
      · have e1 : ¬ ((dep fs (n + 1 + i) : Nat) : Int) = (dep fs n : Nat) + 1 := of_decide_eq_false e1
        rw [show ([n + 1 + i].filter fun j => decide (dep fs j = dep fs n + 1)) = [] by simp only [List.filter]; rw [decide_eq_false (by omega)], List.map_nil, List.append_nil]
        exact S1
    · have en : ((e : Int) - ((n : Int) + 1)).toNat = e - (n + 1) := by omega
      rw [en] at S1
      obtain ⟨G2, s2, S2, k2⟩ := Sep.keep S1
      exact q e L G2 H' he s2 k2 S2
def spSpot : Sp := fun vs H Q _ => ∃ (G : Hp) (M : List (Addr × HO)) (D : Addr) (fs : List Fr3) (k : Nat) (at_ : Nat), vs = [.ref D, .int (k : Nat), .int (at_ : Nat)] ∧ Sep G M H ∧ FlD G D fs ∧ fs.length ≤ 400 ∧ k < fs.length ∧
  ∀ (e : Nat) (G' H' : Hp), IsEnd fs k e → Same G G' → Sep G' M H' → Q (.int (((bnF fs k e)[at_]?).getD e : Nat)) H'
theorem ok_spot (T : Top K mg w) {k : Nat} (G_end : FnOk P w K mg base CX0 k T.a_end T.d_end ["_law_flat_here", "_law_k"] spEnd) (G_beneath : FnOk P w K mg base CX0 k T.a_beneath T.d_beneath ["_law_flat_here", "_law_k"] spBn) : FnOk P w K mg base CX0 (k + 1) T.a_spot T.d_spot ["_law_flat_here", "_law_k", "_law_at"] spSpot := by
  refine T.F_spot.ok sc_spot (fun vs H Q E h => ?_) (fun cdv A outer s H vs Q E hr h => ?_)
  · obtain ⟨G, M, D, fs, n, at_, rfl, _⟩ := h
    rfl
  · obtain ⟨G, M, D, fs, n, at_, rfl, S, hD, fl4, hn, q⟩ := h
    refine ⟨_, (pss_cons (ps_set (i := 3) sc_spot.nd rfl (.inl rfl) (pe_call G_beneath (hr.mono (by omega)) (by rfl) T.g_beneath T.F_beneath.kp T.b_beneath .nil pass0 (pa_cons (xv 0) (pa_cons (xv 1) pa_nil))))
      (pss_cons (xs_if (xt_cmp op_ltY (xv 2) (pe_callB (cr_lenK K) (by rfl) T.m_len (by decide +kernel) (pa_cons (xv 3) pa_nil)) (nomark _))
      (pss_one (ps_ret (pe_ix (ix_k K) (xv 3) (xv 2) (fun _ _ => rfl))))
      pss_nil)
      (pss_one (ps_ret (pe_call G_end (hr.mono (by omega)) (by rfl) T.g_end T.F_end.kp T.b_end .nil pass0 (pa_cons (xv 0) (pa_cons (xv 1) pa_nil))))))), ?_⟩
    refine ⟨G, M, D, fs, n, rfl, S, hD, fl4, hn, fun e L G1 H1 he s1 hL S1 => ?_⟩
    have hL1 := SqL.of (K := K) (S1.st hL)
    refine ⟨_, .inl hL1, fun e1 => ?_, fun e1 => ?_⟩
    · have e1 : ((at_ : Nat) : Int) < (((bnF fs n e).map fun j => V.int (j : Nat)).length : Nat) := of_decide_eq_true e1
      rw [List.length_map] at e1
      have hg : (bnF fs n e)[at_]? = some ((bnF fs n e)[at_]'(by omega)) := List.getElem?_eq_getElem (by omega)
      have := q e G1 H1 he s1 S1
      rw [hg] at this
      exact ⟨_, _, .inl hL1, atI_nat (by rw [List.getElem?_map, hg]; rfl), this⟩
    · have e1 : ¬ ((at_ : Nat) : Int) < (((bnF fs n e).map fun j => V.int (j : Nat)).length : Nat) := of_decide_eq_false e1
      rw [List.length_map] at e1
      have hg : (bnF fs n e)[at_]? = none := List.getElem?_eq_none (by omega)
      refine ⟨G1, D, fs, n, rfl, S1.1, hD.same s1, fl4, hn, fun e2 he2 => ?_⟩
      have := q e2 G1 H1 he2 s1 S1
      have hg2 : (bnF fs n e2)[at_]? = none := by rw [end_uniq he2 he]; exact hg
      rw [hg2] at this
      exact this

end
end K19
set_option Elab.async false
set_option linter.all false
set_option maxRecDepth 100000
set_option maxHeartbeats 4000000
namespace K19
open PySem PySem.Spec PyProof.Rows L2 XL
section
variable {P : Program} {w : World} {K : PySem.W.Frag} {mg : Str → Option Value} {base : Heap}
/-! ### nodes_of, from_below -/
theorem dpa_unsnoc {K : PySem.W.Frag} {G : Hp} {xs : List V} {x : V} {ds : List PyData} (h : DpAll K G (xs ++ [x]) ds) : ∃ ds' d, ds = ds' ++ [d] ∧ DpAll K G xs ds' ∧ Dp K G x d := by
  induction xs generalizing ds with
  | nil =>
    cases h with
    | cons h t =>
      cases t
      exact ⟨[], _, rfl, .nil, h⟩
  | cons a xs ih =>
    cases h with
    | cons h t =>
      obtain ⟨ds', d, rfl, h1, h2⟩ := ih t
      exact ⟨_ :: ds', d, rfl, .cons h h1, h2⟩
theorem dpa_rev {K : PySem.W.Frag} {G : Hp} : ∀ {xs : List V} {ds : List PyData}, DpAll K G xs ds → DpAll K G xs.reverse ds.reverse
  | _, _, .nil => .nil
  | _, _, .cons h t => by
    rw [List.reverse_cons, List.reverse_cons]
    exact dpa_app (dpa_rev t) (dpa_one h)
theorem map_snoc {ts : List Tr} {ds : List PyData} {d : PyData} (h : ts.map toD = ds ++ [d]) : ∃ ts' t, ts = ts' ++ [t] ∧ ts'.map toD = ds ∧ toD t = d := by
  rcases nil_or_snoc ts with rfl | ⟨ts', t, rfl⟩
  · simp at h
  · rw [List.map_append] at h
    obtain ⟨h1, h2⟩ := List.append_inj' h rfl
    exact ⟨ts', t, rfl, h1, by simpa using h2⟩
def spNodes (K : PySem.W.Frag) : Sp := fun vs H Q _ => ∃ (G : Hp) (M : List (Addr × HO)) (v : V) (t : Tr), vs = [v] ∧ Sep G M H ∧ Dp K G v (toD t) ∧ (pre t).length ≤ 1000 ∧
  ∀ (l : Addr) (us : List V) (G' H' : Hp), Same G G' → G' l = some (.lst us) → DpAll K G' us ((pre t).map toD) → Sep G' M H' → Q (.ref l) H'
theorem ok_nodes_of (T : Top K mg w) {k : Nat} : FnOk P w K mg base CX0 (k + 1) T.a_nodes_of T.d_nodes_of ["root"] (spNodes K) := by
  refine T.F_nodes_of.ok sc_nodes_of (fun vs H Q E h => ?_) (fun cdv A outer s H vs Q E hr h => ?_)
  · obtain ⟨G, M, v, t, rfl, _⟩ := h
    rfl
  · obtain ⟨G, M, v, t, rfl, S, hv, pl, q⟩ := h
    refine ⟨_, (pss_cons (ps_set (i := 1) sc_nodes_of.nd rfl (.inl rfl) (pe_lst pa_nil))
      (pss_cons (ps_set (i := 2) sc_nodes_of.nd rfl (.inl rfl) (pe_lst (pa_cons (xv 0) pa_nil)))
      (pss_cons (xs_while PassesOwn.never (xt_truK K (xv 2))
      (pss_cons (ps_set (i := 3) sc_nodes_of.nd rfl (.inl rfl) (pe_bm0 PySem.F.plainAttrs_list PySem.F.slot_list_pop PySem.F.type_list_pop mt_pop (xv 2)))
      (pss_cons (ps_expr (pe_bmK K PySem.F.plainAttrs_list PySem.F.slot_list_append PySem.F.type_list_append mt_append (xv 1) (pa_cons (xv 3) pa_nil)))
      (pss_one (ps_expr (pe_bmK K PySem.F.plainAttrs_list PySem.F.slot_list_extend PySem.F.type_list_extend (mt_extT K) (xv 2) (pa_cons (pe_revTK K (pe_ix (ix_k K) (xv 3) pe_int (fun _ _ => rfl)) (pe_str (pe_un un_neg pe_int) fun _ _ _ h => ⟨1, rfl, h⟩)) pa_nil)))))))
      (pss_one (ps_ret (xv 1)))))), ?_⟩
    refine ⟨sz, fun O nO => ?_⟩
    have S1 := S.new (o := .lst []) nO
    refine ⟨sz, fun W nW => ?_⟩
    have S2 := S1.new (o := .lst [v]) nW
    refine ⟨fun m σ H' => ∃ (y3 : Option V) (os ws : List V) (dn ts : List Tr) (G' : Hp), σ = [some v, some (.ref O), some (.ref W), y3] ∧ Same G G' ∧ m = (pres ts).length ∧ dn ++ pres ts = pre t ∧ DpAll K G' os (dn.map toD) ∧ DpAll K G' ws (ts.reverse.map toD) ∧ ts.length ≤ (pres ts).length ∧ Sep G' ((W, .lst ws) :: (O, .lst os) :: M) H',
      ⟨(pre t).length, _, [], [v], [], [t], G, rfl, Same.refl _, by rw [pres_one], by rw [pres_one]; rfl, .nil, dpa_one hv, by rw [pres_one, pre_eq]; simp, S2⟩, fun m σ H' h => ?_⟩
    obtain ⟨y3, os, ws, dn, ts, G1, rfl, s1, rfl, hall, hos, hws, htl, S3⟩ := h
    have al := congrArg List.length hall
    rw [List.length_append] at al
    have ol := dpa_len hos
    rw [List.length_map] at ol
    have wl := dpa_len hws
    rw [List.length_map, List.length_reverse] at wl
    rcases nil_or_snoc ws with ew | ⟨wp, w0, ew⟩
    · subst ew
      refine ⟨!([] : List V).isEmpty, .inl ⟨_, SqL.of S3.hd, rfl⟩, (fun e => nomatch e), fun _ => ?_⟩
      have e0 : ts = [] := List.length_eq_zero_iff.mp wl.symm
      subst e0
      have e1 : dn = pre t := by simpa [pres] using hall
      rw [e1] at hos
      have S4 := S3.drop
      exact q O os _ _ (s1.trans S4.frzS) upd_same (dpa_same S4.frzS hos) S4.frz
    · subst ew
      have ne : (!(wp ++ [w0]).isEmpty) = true := by simp
      refine ⟨!(wp ++ [w0]).isEmpty, .inl ⟨_, SqL.of S3.hd, rfl⟩, fun _ => ?_, fun e => absurd (ne.symm.trans e) (by decide)⟩
      obtain ⟨ds', d, eds, hwp, hw0⟩ := dpa_unsnoc hws
      obtain ⟨tr', t0, ert, emp, rfl⟩ := map_snoc eds
      obtain ⟨tr, ets, etr⟩ := rev_cons ert
      subst ets
      have S4 := S3.set (o' := .lst wp)
      refine ⟨.inl ⟨rfl, _, SqL.of S3.hd⟩, W, wp ++ [w0], w0, rfl, rfl, S3.hd, by simp, ?_⟩
      rw [List.dropLast_concat]
      have S5 := S4.sw.set (o' := .lst (os ++ [w0]))
      refine ⟨.inl ⟨rfl, _, SqL.of S4.sw.hd⟩, O, os, w0, rfl, rfl, S4.sw.hd, smallL (by omega), ?_⟩
      obtain ⟨a0, kv, kus, rfl, ha0, hkv, hkus⟩ := node_at hw0
      have kl := dpa_len hkus
      rw [List.length_map] at kl
      refine ⟨.inl ⟨rfl, _, SqL.of S5.sw.hd⟩, _, _, .inr (S5.t ha0), atI_nat (j := 2) rfl, kv, kus, rfl, S5.t hkv, fun p6 np6 => ?_⟩
      obtain ⟨G6, s6, S6, h6⟩ := Sep.mk (o := .tup kus.reverse) S5 np6
      have pe : pres (t0 :: tr) = t0 :: pres (kids t0 ++ tr) := by
        simp only [pres]
        rw [pre_eq, List.cons_append, pres_app]
      rw [pe] at hall htl al
      have kml := many_le (kids t0 ++ tr)
      rw [List.length_append] at kml
      rw [List.length_cons] at wl al htl
      rw [List.length_append, List.length_singleton] at wl
      refine ⟨W, p6, wp, kus.reverse, rfl, rfl, S6.sw.hd, SqT.of (S6.st h6), small (by rw [List.length_reverse]; omega), ?_⟩
      refine ⟨(pres (kids t0 ++ tr)).length, by rw [pe, List.length_cons]; omega, _, os ++ [.ref a0], wp ++ kus.reverse, dn ++ [t0], kids t0 ++ tr, G6, rfl, s1.trans s6, rfl, by rw [List.append_assoc]; exact hall, ?_, ?_, by rw [List.length_append]; exact kml, S6.sw.set⟩
      · rw [List.map_append]
        exact dpa_app (dpa_same s6 hos) (dpa_one (dp_same s6 hw0))
      · rw [List.reverse_append, List.map_append, etr, emp, List.map_reverse]
        exact dpa_app (dpa_same s6 hwp) (dpa_rev (dpa_same s6 hkus))

end
end K19
set_option Elab.async false
set_option linter.all false
set_option maxRecDepth 100000
set_option maxHeartbeats 4000000
namespace K19
open PySem PySem.Spec PyProof.Rows L2 XL
/-! ### who stands above -/
def alF (ps : List Tr) : List (Str × Option Str) := ps.flatMap fun p => (kids p).map fun c => (mrk c, some (mrk p))
def al (t : Tr) : List (Str × Option Str) := (mrk t, none) :: alF (pre t)
theorem alF_app (xs ys : List Tr) : alF (xs ++ ys) = alF xs ++ alF ys := by
  unfold alF
  rw [List.flatMap_append]
theorem alF_keys (ps : List Tr) : (alF ps).map (·.1) = ps.flatMap fun p => (kids p).map mrk := by
  unfold alF
  rw [List.map_flatMap]
  exact congrArg (fun g => List.flatMap g ps) (funext fun p => by rw [List.map_map]; rfl)
mutual
theorem cm_perm : ∀ t, (mrk t :: (alF (pre t)).map (·.1)).Perm ((pre t).map mrk)
  | .node m l ks => by
    have h := cms_perm ks
    simp only [pre, List.map_cons, mrk]
    refine List.Perm.cons _ ?_
    rw [alF_keys] at h ⊢
    rw [List.flatMap_cons]
    exact h
theorem cms_perm : ∀ ts, (ts.map mrk ++ (alF (pres ts)).map (·.1)).Perm ((pres ts).map mrk)
  | [] => by simp [pres, alF]
  | t :: r => by
    have h1 := cm_perm t
    have h2 := cms_perm r
    simp only [pres, alF_app, List.map_append, List.map_cons]
    refine List.Perm.trans ?_ (h1.append h2)
    rw [List.cons_append, List.cons_append]
    refine List.Perm.cons _ ?_
    rw [← List.append_assoc, ← List.append_assoc]
    exact List.Perm.append_right _ List.perm_append_comm
end
theorem al_perm (t : Tr) : ((al t).map (·.1)).Perm ((pre t).map mrk) := cm_perm t
theorem lgS {i : Int} (h0 : 0 ≤ i) (h1 : i ≤ 1000) : i.natAbs.log2 < 1920 := by
  by_cases h : i.natAbs = 0
  · rw [h]; decide
  · exact (Nat.log2_lt h).mpr (Nat.lt_of_lt_of_le (show i.natAbs < 2 ^ 11 by omega) (Nat.pow_le_pow_right (by decide) (by decide)))
def oV : Option Str → V
  | some m => .str m
  | none => .non
def alK (xs : List (Str × Option Str)) : List (Key × V) := xs.map fun x => (Sum.inr x.1, oV x.2)
theorem alK_keys (xs : List (Str × Option Str)) : (alK xs).map (·.1) = (xs.map (·.1)).map (fun m => (Sum.inr m : Key)) := by
  unfold alK
  rw [List.map_map, List.map_map]
  rfl
theorem valV_mem {k : Key} {v : V} : ∀ {kvs : List (Key × V)}, (kvs.map (·.1)).Nodup → (k, v) ∈ kvs → valV kvs k = some v
  | [], _, h => nomatch h
  | (k', v') :: r, nd, h => by
    rw [List.map_cons, List.nodup_cons] at nd
    rcases List.mem_cons.mp h with e | h
    · cases e
      exact valV_pos rfl
    · rw [valV_neg (fun e => nd.1 ?_)]
      · exact valV_mem nd.2 h
      · have := List.mem_map_of_mem (f := Prod.fst) h
        first | exact e ▸ this | exact e.symm ▸ this
theorem nd_inr {xs : List Str} (h : xs.Nodup) : (xs.map (fun m => (Sum.inr m : Key))).Nodup := by
  unfold List.Nodup
  rw [List.pairwise_map]
  exact h.imp fun ne e => ne (Sum.inr.inj e)
def tw (seen : List Str) : List Str → Option Str
  | [] => none
  | m :: r => if m ∈ seen then some m else tw (seen ++ [m]) r
theorem tw_app : ∀ (l seen r : List Str), tw seen (l ++ r) = match tw seen l with
    | some x => some x
    | none => tw (seen ++ l) r
  | [], seen, r => by simp [tw]
  | m :: l, seen, r => by
    rw [List.cons_append, tw, tw]
    by_cases h : m ∈ seen
    · rw [if_pos h, if_pos h]
    · rw [if_neg h, if_neg h, tw_app l, List.append_assoc]
      rfl
theorem tw_none : ∀ (l seen : List Str), seen.Nodup → (tw seen l = none ↔ (seen ++ l).Nodup)
  | [], seen, h => by simp [tw, h]
  | m :: l, seen, h => by
    rw [tw]
    by_cases hm : m ∈ seen
    · rw [if_pos hm]
      refine ⟨fun e => (nomatch e), fun e => ?_⟩
      rw [List.nodup_append] at e
      exact absurd rfl (e.2.2 m hm m List.mem_cons_self)
    · rw [if_neg hm]
      have h2 : (seen ++ [m]).Nodup := by
        rw [List.nodup_append]
        exact ⟨h, by simp, fun a ha b hb e => hm (by rw [List.mem_singleton.mp hb] at e; exact e ▸ ha)⟩
      rw [tw_none l _ h2, List.append_assoc]
      rfl
theorem tw_nd {l : List Str} : tw [] l = none ↔ l.Nodup := tw_none l [] List.nodup_nil
theorem tw_at {l : List Str} {i : Nat} {m : Str} (h : l[i]? = some m) (nd : (l.take i).Nodup) (hm : m ∈ l.take i) : tw [] l = some m := by
  have e := (take_pre h).1
  rw [e, tw_app, tw_nd.mpr nd]
  show tw ([] ++ l.take i) (m :: _) = _
  rw [List.nil_append, tw, if_pos hm]

section
variable {P : Program} {w : World} {K : PySem.W.Frag} {mg : Str → Option Value} {base : Heap}
/-! ### pages -/
structure PgAt (K : PySem.W.Frag) (C : Addr) (G : Hp) (p : Addr) (t : Tr) : Prop where
  ex : ∃ (dx N A O : Addr) (v : V) (us : List V) (kn : List (Key × V)), G p = some (.ins C dx [("tree", v), ("nodes", .ref N), ("above", .ref A), ("order", .ref O)]) ∧ Dp K G v (toD t) ∧ G N = some (.dK kn) ∧ G A = some (.dK (alK (al t))) ∧ G O = some (.lst (((pre t).map mrk).map V.str)) ∧
    DpAll K G us ((pre t).map toD) ∧ kn = (((pre t).map mrk).map (fun m => (Sum.inr m : Key))).zip us
theorem PgAt.same {K : PySem.W.Frag} {C : Addr} {G G' : Hp} {p : Addr} {t : Tr} (e : Same G G') (h : PgAt K C G p t) : PgAt K C G' p t := by
  obtain ⟨dx, N, A, O, v, us, kn, h1, h2, h3, h4, h5, h6, h7⟩ := h.ex
  exact ⟨dx, N, A, O, v, us, kn, e _ _ h1, dp_same e h2, e _ _ h3, e _ _ h4, e _ _ h5, dpa_same e h6, h7⟩
def dueP (K : PySem.W.Frag) (C Cw Cm : Addr) (G : Hp) (M : List (Addr × HO)) (x : Addr) (t : Tr) (Q : VK) (E : XK) : Prop :=
  (((pre t).map mrk).Nodup → (pre t).length ≤ 400 → ∀ (G' H' : Hp), Same G G' → PgAt K C G' x t → Sep G' M H' → Q .non H') ∧
  (∀ m, tw [] ((pre t).map mrk) = some m → ∀ (G' H' : Hp) (N : List (Addr × HO)) (dd : Addr), Same G G' → Sep G' (N ++ M) H' → H' dd = none → E (.ref Cw) (some dd) (upd H' dd (.xd [("mark", .str m)]))) ∧
  (((pre t).map mrk).Nodup → 400 < (pre t).length → ∀ (G' H' : Hp) (N : List (Addr × HO)) (dd : Addr), Same G G' → Sep G' (N ++ M) H' → H' dd = none → E (.ref Cm) (some dd) (upd H' dd (.xd [("count", .int ((pre t).length : Nat))])))
def spPage (K : PySem.W.Frag) (C Cw Cm : Addr) : Sp := fun vs H Q E => ∃ (G : Hp) (M : List (Addr × HO)) (x dx : Addr) (v : V) (t : Tr), vs = [.ref x, v] ∧ Sep G ((x, .ins C dx []) :: M) H ∧ Dp K G v (toD t) ∧ (pre t).length ≤ 1000 ∧ (∀ p ∈ pre t, Tx 1 60 (mrk p)) ∧ dueP K C Cw Cm G M x t Q E
theorem valV_none {kvs : List (Key × V)} {k : Key} (h : k ∉ kvs.map (·.1)) : valV kvs k = none := by
  induction kvs with
  | nil => rfl
  | cons p r ih =>
    rw [List.map_cons, List.mem_cons, not_or] at h
    rw [valV_neg (fun e => h.1 e.symm)]
    exact ih h.2
theorem valV_none_iff {kvs : List (Key × V)} {k : Key} (nd : (kvs.map (·.1)).Nodup) (h : k ∈ kvs.map (·.1)) : (valV kvs k).isSome = true := by
  obtain ⟨⟨k', v'⟩, h1, rfl⟩ := List.mem_map.mp h
  rw [valV_mem nd h1]
  rfl
theorem putK_new {kvs : List (Key × V)} {k : Key} {v : V} (h : valV kvs k = none) : putK kvs k v = kvs ++ [(k, v)] := by
  unfold putK
  rw [valV_any, h]
  rfl
theorem putK_len (kvs : List (Key × V)) (k : Key) (v : V) : (putK kvs k v).length ≤ kvs.length + 1 := by
  unfold putK
  split
  · rw [List.length_map]; omega
  · simp
mutual
theorem sub_pre {p : Tr} : ∀ t, p ∈ pre t → (pres (kids p)).length ≤ (pre t).length
  | .node m l ks, h => by
    simp only [pre, List.mem_cons, List.length_cons] at h ⊢
    rcases h with rfl | h
    · simp only [kids]; omega
    · have := sub_pres ks h
      omega
theorem sub_pres {p : Tr} : ∀ ts, p ∈ pres ts → (pres (kids p)).length ≤ (pres ts).length
  | [], h => by simp [pres] at h
  | t :: r, h => by
    simp only [pres, List.mem_append, List.length_append] at h ⊢
    rcases h with h | h
    · have := sub_pre t h; omega
    · have := sub_pres r h; omega
end
theorem sub_len {p t : Tr} (h : p ∈ pre t) : (pres (kids p)).length ≤ (pre t).length := sub_pre t h
theorem repr_short {z : Str} {n : Nat} (h : ∀ c ∈ z.cps.toList, c < 128) (l : z.length ≤ n) (hn : n ≤ 1000) : (reprText z).length ≤ 100000 := by
  have := PySem.StrLaws.reprText_len z fun c hc => Nat.lt_trans (h c hc) (by decide)
  omega
theorem Tx.rp {a b : Nat} {z : Str} (h : Tx a b z) (hb : b ≤ 1000) : RpV (.str z) := .inl ⟨_, rfl, repr_short h.ch h.hi hb⟩
theorem ok_Page_init (T : Top K mg w) (pf : PySem.XExc.PF P T.x_file) {k : Nat} (G_nodes_of : FnOk P w K mg base CX0 (k + 1) T.a_nodes_of T.d_nodes_of ["root"] (spNodes K)) : FnOk P w K mg base (L2.CX P w) (k + 2) T.a_Page_init T.d_Page_init ["self", "root"] (spPage K T.C_Page T.C_TwiceMarked T.C_TooMany) := by
  refine T.F_Page_init.okX sc_Page_init (fun vs H Q E h => ?_) (fun cdv A outer s H vs Q E hr h => ?_)
  · obtain ⟨G, M, x, dx, v, t, rfl, _⟩ := h
    rfl
  · obtain ⟨G, M, x, dx, v, t, rfl, S, hv, pl, tx, q, qw, qm⟩ := h
    refine ⟨_, (pss_cons (ps_set (i := 2) sc_Page_init.nd rfl (.inl rfl) pe_dnewK)
      (pss_cons (ps_set (i := 3) sc_Page_init.nd rfl (.inl rfl) (pe_disp (pps_cons (pe_ix (ix_k K) (xv 1) pe_int (fun _ _ => rfl)) pe_non pps_nil) (by rfl) (by rfl) (fun z => by cases z) (by decide)))
      (pss_cons (ps_set (i := 4) sc_Page_init.nd rfl (.inl rfl) (pe_lst pa_nil))
      (pss_cons (ps_for (passes_of rfl) rfl (pi_listK K (pe_call G_nodes_of (hr.mono (by omega)) (by rfl) T.g_nodes_of T.F_nodes_of.kp T.b_nodes_of .nil pass0 (pa_cons (xv 1) pa_nil))) (pg_name (i := 5) sc_Page_init.nd rfl (.inl rfl))
      (pss_cons (xs_if (pt_cmp (pc_din (hu_of hr) (pe_ix (ix_k K) (xv 5) pe_int (fun _ _ => rfl)) (xv 2)))
      (pss_one (ps_raiseX (k := 0) rfl (T.x_TwiceMarked P pf) (hr.mono (by omega)) (takes_of rfl rfl rfl rfl) (pa_cons (pe_ix (ix_k K) (xv 5) pe_int (fun _ _ => rfl)) pa_nil)))
      pss_nil)
      (pss_cons (ps_dput (hu_of hr) (xv 2) (pe_ix (ix_k K) (xv 5) pe_int (fun _ _ => rfl)) (xv 5) rfl)
      (pss_cons (ps_expr (pe_bmK K PySem.F.plainAttrs_list PySem.F.slot_list_append PySem.F.type_list_append mt_append (xv 4) (pa_cons (pe_ix (ix_k K) (xv 5) pe_int (fun _ _ => rfl)) pa_nil)))
      (pss_one (ps_for (passes_of rfl) rfl (pi_tupK K (pe_ix (ix_k K) (xv 5) pe_int (fun _ _ => rfl))) (pg_name (i := 6) sc_Page_init.nd rfl (.inl rfl))
      (pss_one (ps_dput (hu_of hr) (xv 3) (pe_ix (ix_k K) (xv 6) pe_int (fun _ _ => rfl)) (pe_ix (ix_k K) (xv 5) pe_int (fun _ _ => rfl)) rfl))))))))
      (pss_cons (xs_if (xt_cmp op_gtY (pe_callB (cr_lenK K) (by rfl) T.m_len (by decide +kernel) (pa_cons (xv 4) pa_nil)) (xe_globI (by rfl) T.v_MOST_NODES) (nomark _))
      (pss_one (ps_raiseX (k := 0) rfl (T.x_TooMany P pf) (hr.mono (by omega)) (takes_of rfl rfl rfl rfl) (pa_cons (pe_callB (cr_lenK K) (by rfl) T.m_len (by decide +kernel) (pa_cons (xv 4) pa_nil)) pa_nil)))
      pss_nil)
      (pss_cons (ps_fld (xv 0) (xv 1) rfl)
      (pss_cons (ps_fld (xv 0) (xv 2) rfl)
      (pss_cons (ps_fld (xv 0) (xv 3) rfl)
      (pss_one (ps_fld (xv 0) (xv 4) rfl)))))))))), ?_⟩
    obtain ⟨a0, kv0, kus0, rfl, ha0, hkv0, hkus0⟩ := node_at hv
    refine fun N nN => ?_
    have S1 := S.new (o := .dK []) nN
    refine fun A' nA => ?_
    have S2 := S1.new (o := .dK []) nA
    refine ⟨_, _, .inr (S2.t ha0), atI_nat (j := 0) rfl, S2.hd, [(Sum.inr (mrk t), V.non)], rfl, by simp, sz, fun O nO => ?_⟩
    have S3 := (S2.set (o' := .dK (mergeK [] [(Sum.inr (mrk t), V.non)]))).new (o := .lst []) nO
    refine ⟨G, _, _, t, rfl, S3, hv, by omega, fun D us G1 H1 s1 hD hus S4 => ?_⟩
    have ul := dpa_len hus
    rw [List.length_map] at ul
    refine ⟨D, rfl, ⟨us, SqL.of (S4.st hD)⟩, for_list (xs := us) (fun i σ H' => ∃ (y5 y6 : Option V) (ka : List (Key × V)), σ = [some (.ref x), some (.ref a0), some (.ref N), some (.ref A'), some (.ref O), y5, y6] ∧ ka.length ≤ 1 + 1000 * i ∧ (((pre t).take i).map mrk).Nodup ∧
      (((pre t).map mrk).Nodup → ka = alK ((mrk t, none) :: alF ((pre t).take i))) ∧
      Sep G1 ((O, .lst ((((pre t).take i).map mrk).map V.str)) :: (A', .dK ka) :: (N, .dK (((((pre t).take i).map mrk).map (fun m => (Sum.inr m : Key))).zip (us.take i))) :: (x, .ins T.C_Page dx []) :: M) H')
      ⟨_, _, _, rfl, (show (mergeK [] [(Sum.inr (mrk t), V.non)] : List (Key × V)).length ≤ 1 from Nat.le_refl _), List.nodup_nil, fun _ => rfl, S4⟩ (fun i σ H' _ h => ?_) (fun i u σ H' hu h => ?_) (fun σ H' h => ?_)⟩
    · obtain ⟨_, _, _, _, _, _, _, S'⟩ := h
      exact SqL.of (S'.st hD)
    · obtain ⟨y5, y6, ka, rfl, kal, ndi, kae, S5⟩ := h
      obtain ⟨d, hd, hud⟩ := dpa_get hus hu
      obtain ⟨p, hp, rfl⟩ := map_get hd
      obtain ⟨a, kv, kus, rfl, ha, hkv, hkus⟩ := node_at hud
      have il := (List.getElem?_eq_some_iff.mp hp).1
      have pm := List.mem_of_getElem? hp
      have kl := dpa_len hkus
      rw [List.length_map] at kl
      have kml := many_le (kids p)
      have kcl : (pres (kids p)).length ≤ (pre t).length := sub_len pm
      have tkl : ((pre t).take i).length = i := by rw [List.length_take]; omega
      have utl : (us.take i).length = i := by rw [List.length_take]; omega
      have keys : ((((((pre t).take i).map mrk).map (fun m => (Sum.inr m : Key))).zip (us.take i)).map (·.1)) = (((pre t).take i).map mrk).map (fun m => (Sum.inr m : Key)) := List.map_fst_zip (by rw [List.length_map, List.length_map, tkl, utl]; exact Nat.le_refl _)
      have hmi : ((pre t).map mrk)[i]? = some (mrk p) := by rw [List.getElem?_map, hp]; rfl
      have SN := S5.perm (List.perm_append_comm_assoc [_, _] [_] _)
      refine ⟨_, _, .inr (S5.t ha), atI_nat (j := 0) rfl, N, _, rfl, DGet.k (k := Sum.inr (mrk p)) SN.hd, _, rfl, ?_⟩
      by_cases hin : mrk p ∈ ((pre t).take i).map mrk
      · have et : tw [] ((pre t).map mrk) = some (mrk p) := tw_at hmi (by rw [← List.map_take]; exact ndi) (by rw [← List.map_take]; exact hin)
        refine ⟨fun _ => ?_, fun e => ?_⟩
        · refine ⟨_, _, .inr (S5.t ha), atI_nat (j := 0) rfl, _, rfl, (tx p pm).rp (by decide), fun dd ndd => ?_⟩
          exact qw _ et G1 _ [_, _, _, _] dd s1 S5 ndd
        · rw [valV_none_iff (by rw [keys]; exact nd_inr ndi) (by rw [keys]; exact List.mem_map_of_mem hin)] at e
          exact nomatch e
      have free : valV ((((((pre t).take i).map mrk).map (fun m => (Sum.inr m : Key))).zip (us.take i))) (Sum.inr (mrk p)) = none := valV_none (by
        rw [keys]
        intro hm
        obtain ⟨m, hm1, hm2⟩ := List.mem_map.mp hm
        cases hm2
        exact hin hm1)
      rw [free]
      refine ⟨ff, fun _ => ?_⟩
      refine ⟨_, _, .inr (S5.t ha), atI_nat (j := 0) rfl, N, _, rfl, DPut.k (k := Sum.inr (mrk p)) SN.hd (smallL (by rw [List.length_zip, utl]; omega)), ?_⟩
      rw [putK_new free]
      have S6 := SN.set (o' := .dK (((((pre t).take i).map mrk).map (fun m => (Sum.inr m : Key))).zip (us.take i) ++ [(Sum.inr (mrk p), V.ref a)]))
      refine ⟨.inl ⟨rfl, _, SqL.of S6.sw.hd⟩, _, _, .inr (S6.t ha), atI_nat (j := 0) rfl, O, _, _, rfl, rfl, S6.sw.hd, smallL (by rw [List.length_map, List.length_map, tkl]; omega), ?_⟩
      have S7 := S6.sw.set (o' := .lst ((((pre t).take i).map mrk).map V.str ++ [V.str (mrk p)]))
      have S8 := S7.perm (List.perm_append_comm_assoc [_, _] [_] _)
      refine ⟨_, _, .inr (S7.t ha), atI_nat (j := 2) rfl, kv, rfl, ⟨kus, S7.t hkv⟩, for_tup (xs := kus) (fun j σ H' => ∃ (y6 : Option V) (ka' : List (Key × V)), σ = [some (.ref x), some (.ref a0), some (.ref N), some (.ref A'), some (.ref O), some (.ref a), y6] ∧ ka'.length ≤ 1 + 1000 * i + j ∧
        (((pre t).map mrk).Nodup → ka' = alK ((mrk t, none) :: (alF ((pre t).take i) ++ ((kids p).take j).map fun c => (mrk c, some (mrk p))))) ∧
        Sep G1 ((A', .dK ka') :: (O, .lst ((((pre t).take i).map mrk).map V.str ++ [V.str (mrk p)])) :: (N, .dK (((((pre t).take i).map mrk).map (fun m => (Sum.inr m : Key))).zip (us.take i) ++ [(Sum.inr (mrk p), V.ref a)])) :: (x, .ins T.C_Page dx []) :: M) H')
        ⟨_, ka, rfl, by omega, fun nd => by rw [kae nd, List.take_zero, List.map_nil, List.append_nil], S8⟩ (fun j σ H' _ h => ?_) (fun j c σ H' hc h => ?_) (fun σ H' h => ?_)⟩
      · obtain ⟨_, _, _, _, _, S'⟩ := h
        exact S'.t hkv
      · obtain ⟨y6, ka', rfl, kal', kae', S9⟩ := h
        obtain ⟨d, hd, hcd⟩ := dpa_get hkus hc
        obtain ⟨pc, hpc, rfl⟩ := map_get hd
        obtain ⟨ac, kvc, kusc, rfl, hac, _, _⟩ := node_at hcd
        have jl := (List.getElem?_eq_some_iff.mp hpc).1
        refine ⟨_, _, .inr (S9.t ha), atI_nat (j := 0) rfl, _, _, .inr (S9.t hac), atI_nat (j := 0) rfl, A', _, rfl, DPut.k (k := Sum.inr (mrk pc)) S9.hd ?_, _, _, rfl, ?_, fun nd => ?_, S9.set⟩
        · have : 1000 * i ≤ 1000 * 1000 := Nat.mul_le_mul_left _ (by omega)
          rw [sizeLine_eq]
          omega
        · have := putK_len ka' (Sum.inr (mrk pc)) (.str (mrk p))
          omega
        · have nda := (al_perm t).nodup_iff.mpr nd
          have e1 : al t = (mrk t, none) :: (alF ((pre t).take i) ++ ((kids p).take j).map fun c => (mrk c, some (mrk p))) ++ (mrk pc, some (mrk p)) :: (((kids p).drop (j + 1)).map (fun c => (mrk c, some (mrk p))) ++ alF ((pre t).drop (i + 1))) := by
            unfold al
            conv => lhs; rw [(take_pre hp).1]
            rw [alF_app]
            have e2 : alF (p :: (pre t).drop (i + 1)) = ((kids p).map fun c => (mrk c, some (mrk p))) ++ alF ((pre t).drop (i + 1)) := by
              unfold alF
              rw [List.flatMap_cons]
            have e3 : ((kids p).map fun c => (mrk c, some (mrk p))) = ((kids p).take j).map (fun c => (mrk c, some (mrk p))) ++ (mrk pc, some (mrk p)) :: ((kids p).drop (j + 1)).map (fun c => (mrk c, some (mrk p))) := by
              conv => lhs; rw [(take_pre hpc).1]
              rw [List.map_append, List.map_cons]
            rw [e2, e3]
            simp only [List.cons_append, List.append_assoc]
          rw [kae' nd]
          have fr : valV (alK ((mrk t, none) :: (alF ((pre t).take i) ++ ((kids p).take j).map fun c => (mrk c, some (mrk p))))) (Sum.inr (mrk pc)) = none := valV_none (by
            rw [alK_keys]
            intro hm
            obtain ⟨m, hm1, hm2⟩ := List.mem_map.mp hm
            cases hm2
            rw [e1, List.map_append, List.map_cons, List.nodup_append] at nda
            exact nda.2.2 _ hm1 _ List.mem_cons_self rfl)
          rw [putK_new fr, take_snoc hpc, List.map_append, ← List.append_assoc, ← List.cons_append]
          unfold alK
          simp only [List.map_append, List.map_cons, List.map_nil, List.cons_append, List.append_assoc]
          rfl
      · obtain ⟨y6, ka', rfl, kal', kae', S9⟩ := h
        rw [kl, List.take_length] at kae'
        refine ⟨_, _, ka', rfl, by omega, ?_, fun nd => ?_, ?_⟩
        · rw [take_snoc hp, List.map_append, List.nodup_append]
          exact ⟨ndi, by simp, fun a ha b hb e => hin (by rw [show b = mrk p by simpa using hb] at e; exact e ▸ ha)⟩
        · rw [kae' nd, take_snoc hp, alF_app]
          congr 2
          unfold alF
          rw [List.flatMap_singleton]
        · rw [take_snoc hp, take_snoc hu, List.map_append, List.map_append, List.map_append, List.zip_append (by rw [List.length_map, List.length_map, tkl, utl])]
          exact S9.sw
    · obtain ⟨y5, y6, ka, rfl, kal, ndi, kae, S5⟩ := h
      rw [ul, List.take_length] at ndi kae
      rw [ul, List.take_length, List.take_of_length_le (by omega)] at S5
      have ln : (((pre t).map mrk).map V.str).length = (pre t).length := by rw [List.length_map, List.length_map]
      refine ⟨_, .inl (SqL.of S5.hd), fun e => ?_, fun e => ?_⟩
      · have e4 := of_decide_eq_true e
        rw [ln] at e4
        refine ⟨_, .inl (SqL.of S5.hd), _, rfl, ?_, fun dd ndd => ?_⟩
        · rw [ln]
          exact .inr ⟨_, rfl, lgS (by omega) (by omega)⟩
        · rw [ln]
          exact qm ndi (by omega) G1 _ [_, _, _, _] dd s1 S5 ndd
      have e4 : (pre t).length ≤ 400 := by
        have := of_decide_eq_false e
        rw [ln] at this
        omega
      have SX := S5.perm (List.perm_append_comm_assoc [_, _, _] [_] _)
      refine ⟨x, T.C_Page, dx, [], rfl, SX.hd, T.cl_Page, T.na_Page_tree, by decide, ?_⟩
      rw [putF_nil]
      have X1 := SX.set (o' := .ins T.C_Page dx [("tree", .ref a0)])
      refine ⟨x, T.C_Page, dx, _, rfl, X1.hd, T.cl_Page, T.na_Page_nodes, by simp, ?_⟩
      rw [putF_ne, putF_nil]
      have X2 := X1.set (o' := .ins T.C_Page dx [("tree", .ref a0), ("nodes", .ref N)])
      refine ⟨x, T.C_Page, dx, _, rfl, X2.hd, T.cl_Page, T.na_Page_above, by simp, ?_⟩
      rw [putF_ne, putF_ne, putF_nil]
      have X3 := X2.set (o' := .ins T.C_Page dx [("tree", .ref a0), ("nodes", .ref N), ("above", .ref A')])
      refine ⟨x, T.C_Page, dx, _, rfl, X3.hd, T.cl_Page, T.na_Page_order, by simp, ?_⟩
      rw [putF_ne, putF_ne, putF_ne, putF_nil]
      have X4 := X3.set (o' := .ins T.C_Page dx [("tree", .ref a0), ("nodes", .ref N), ("above", .ref A'), ("order", .ref O)])
      obtain ⟨Ga, sa, Sa, ea⟩ := Sep.keep X4
      obtain ⟨Gb, sb, Sb, eb⟩ := Sep.keep Sa
      obtain ⟨Gc, sc, Sc, ec⟩ := Sep.keep Sb
      obtain ⟨Gd, sd, Sd, ed⟩ := Sep.keep Sc
      have sAll := sa.trans (sb.trans (sc.trans sd))
      exact q ndi e4 Gd _ (s1.trans sAll) ⟨dx, N, A', O, _, us, _, sd _ _ (sc _ _ (sb _ _ ea)), dp_same (s1.trans sAll) hv, ed, by rw [← show ka = alK (al t) from kae ndi]; exact sd _ _ ec, sd _ _ (sc _ _ eb), dpa_same sAll hus, rfl⟩ Sd

end
end K19
set_option Elab.async false
set_option linter.all false
set_option maxRecDepth 100000
set_option maxHeartbeats 4000000
namespace K19
open PySem PySem.Spec PyProof.Rows L2 XL
section
variable {P : Program} {w : World} {K : PySem.W.Frag} {mg : Str → Option Value} {base : Heap}
def spTop (K : PySem.W.Frag) (C : Addr) : Sp := fun vs H Q _ => ∃ (G : Hp) (p : Addr) (t : Tr), vs = [.ref p] ∧ Same G H ∧ PgAt K C G p t ∧ ∀ v, Dp K G v (toD t) → Q v H
theorem ok_Page_top (T : Top K mg w) {k : Nat} : FnOk P w K mg base CX0 (k + 1) T.a_Page_top T.d_Page_top ["self"] (spTop K T.C_Page) := by
  refine T.F_Page_top.ok sc_Page_top (fun vs H Q E h => ?_) (fun cdv A outer s H vs Q E hr h => ?_)
  · obtain ⟨G, p, t, rfl, _⟩ := h
    rfl
  · obtain ⟨G, p, t, rfl, S, pg, q⟩ := h
    obtain ⟨dx, N, A', O, v, us, kn, h1, h2, _⟩ := pg.ex
    refine ⟨_, (pss_one (ps_ret (pe_fldK K (xv 0)))), ?_⟩
    exact ⟨p, T.C_Page, dx, _, _, rfl, S _ _ h1, T.cl_Page, T.na_Page_tree, lk_eq, q v h2⟩
def spPgEq (K : PySem.W.Frag) (C : Addr) : Sp := fun vs H Q _ => ∃ (G : Hp) (x y : Addr) (s t : Tr), vs = [.ref x, .ref y] ∧ Same G H ∧ PgAt K C G x s ∧ PgAt K C G y t ∧ TrOk s ∧ TrOk t ∧ Q (.bl (PyData.eqv (toD s) (toD t))) H
theorem ok_Page_eq (T : Top K mg w) {k : Nat} : FnOk P w K mg base CX0 (k + 1) T.a_Page_eq T.d_Page_eq ["self", "other"] (spPgEq K T.C_Page) := by
  refine T.F_Page_eq.ok sc_Page_eq (fun vs H Q E h => ?_) (fun cdv A outer s H vs Q E hr h => ?_)
  · obtain ⟨G, x, y, s, t, rfl, _⟩ := h
    rfl
  · obtain ⟨G, x, y, s, t, rfl, S, ps, pt, oks, okt, q⟩ := h
    obtain ⟨dx, N, A', O, v, us, kn, h1, h2, _⟩ := ps.ex
    obtain ⟨dy, N2, A2, O2, v2, us2, kn2, g1, g2, _⟩ := pt.ex
    refine ⟨_, (pss_one (ps_ret (xe_and (pe_callB (call_isK K) (by rfl) T.m_isinstance (by decide +kernel) (pa_cons (xv 1) (pa_cons (pe_glob (v := .ref T.C_Page) (by rfl) T.g_Page rfl) pa_nil))) (pe_one (pe_cmpR (op_eqLK K hr.u190) (pe_fldK K (xv 0)) (pe_fldK K (xv 1)) (nomark _)))))), ?_⟩
    refine ⟨_, _, _, _, true, rfl, .own _, .base (.ins (S _ _ g1) T.cl_Page T.ty_Page.1 T.ty_Page.2.1 T.ty_Page.2.2.1 T.ty_Page.2.2.2.1), T.ty_Page.2.2.2.2, fun _ => ?_, tt⟩
    refine ⟨x, T.C_Page, dx, _, _, rfl, S _ _ h1, T.cl_Page, T.na_Page_tree, lk_eq, y, T.C_Page, dy, _, _, rfl, S _ _ g1, T.cl_Page, T.na_Page_tree, lk_eq, ?_⟩
    obtain ⟨a, _, _, rfl, _⟩ := node_at h2
    obtain ⟨b, _, _, rfl, _⟩ := node_at g2
    exact ⟨toD s, toD t, dp_same S h2, dp_same S g2, ok_lay oks, ok_lay okt, by have := ok_dep oks; omega, q⟩

end
end K19
set_option Elab.async false
set_option linter.all false
set_option maxRecDepth 100000
set_option maxHeartbeats 4000000
namespace K19
open PySem PySem.Spec PyProof.Rows L2 XL
section
variable {P : Program} {w : World} {K : PySem.W.Frag} {mg : Str → Option Value} {base : Heap}
/-! ### the law's patch of a tree -/
def rsD : Pt → List PyData
  | .drop _ => []
  | .put _ i t => [.int (i : Nat), toD t]
  | .move _ i => [.int (i : Nat)]
  | .say _ l => [.str l]
def ptD (p : Pt) : PyData := .tuple (.str (wd p) :: .str (pmk p) :: rsD p)
theorem pt_at {K : PySem.W.Frag} {G : Hp} {v : V} {p : Pt} (h : Dp K G v (ptD p)) : ∃ a ws, v = .ref a ∧ SqT K G a (.str (wd p) :: .str (pmk p) :: ws) ∧ DpAll K G ws (rsD p) := by
  obtain ⟨a, xs, rfl, h1, h2⟩ := dp_tup h
  obtain ⟨x1, r1, rfl, h3, h4⟩ := dpa_cons h2
  obtain ⟨x2, r2, rfl, h5, h6⟩ := dpa_cons h4
  rw [dp_str h3, dp_str h5] at h1
  exact ⟨a, r2, rfl, h1, h6⟩
theorem dp_int {K : PySem.W.Frag} {G : Hp} {v : V} {i : Int} (h : Dp K G v (.int i)) : v = .int i := by
  cases h
  rfl
theorem keeps_eq (p : Pt) (s : Tr) : keeps p s = (!decide (wd p = "drop") || !decide (mrk s = pmk p)) := by
  cases p with
  | drop m =>
    have e : decide (wd (.drop m) = "drop") = true := decide_eq_true rfl
    rw [e]
    show decide (mrk s ≠ m) = _
    rw [decide_not]
    rfl
  | put m i t =>
    have e : decide (wd (.put m i t) = "drop") = false := (show decide (("put" : Str) = "drop") = false by decide +kernel)
    rw [e]; rfl
  | move m i =>
    have e : decide (wd (.move m i) = "drop") = false := (show decide (("move" : Str) = "drop") = false by decide +kernel)
    rw [e]; rfl
  | say m l =>
    have e : decide (wd (.say m l) = "drop") = false := (show decide (("say" : Str) = "drop") = false by decide +kernel)
    rw [e]; rfl
def insV (xs : List V) (i : Nat) (v : V) : List V := xs.take i ++ [v] ++ xs.drop i
theorem dpa_ins {K : PySem.W.Frag} {G : Hp} {xs : List V} {ts : List Tr} {v : V} {t : Tr} (h : DpAll K G xs (ts.map toD)) (hv : Dp K G v (toD t)) (i : Nat) : DpAll K G (insV xs i v) ((insT ts i t).map toD) := by
  unfold insV insT
  rw [List.map_append, List.map_cons, List.map_take, List.map_drop, List.append_assoc]
  exact dpa_app (dpa_take i h) (.cons hv (dpa_drop i h))
theorem dpa_erase {K : PySem.W.Frag} {G : Hp} : ∀ {xs : List V} {ds : List PyData} (k : Nat), DpAll K G xs ds → DpAll K G (xs.eraseIdx k) (ds.eraseIdx k)
  | _, _, _, .nil => by simp only [List.eraseIdx_nil]; exact .nil
  | _, _, 0, .cons _ h => h
  | _, _, k + 1, .cons h1 h2 => .cons h1 (dpa_erase k h2)
theorem map_erase {α β : Type} (f : α → β) : ∀ (l : List α) (j : Nat), (l.map f).eraseIdx j = (l.eraseIdx j).map f
  | [], j => by simp
  | a :: r, 0 => by simp
  | a :: r, j + 1 => by
    have ih := map_erase f r j
    simp [ih]

/-! ### trees that are changed -/
theorem mls_perm {ts us : List Tr} (h : ts.Perm us) : (mls ts).Perm (mls us) := by
  induction h with
  | nil => exact List.Perm.refl _
  | cons x _ ih => rw [mls_cons, mls_cons]; exact List.Perm.append_left _ ih
  | swap x y l => rw [mls_cons, mls_cons, mls_cons, mls_cons]; exact List.perm_append_comm_assoc _ _ _
  | trans _ _ h1 h2 => exact h1.trans h2
theorem ml_nd {t : Tr} : ((pre t).map mrk).Nodup ↔ ((ml t).map (·.1)).Nodup := by rw [ml_mrk]
theorem ml_len (t : Tr) : (ml t).length = (pre t).length := by
  unfold ml
  rw [List.length_map]
theorem ml_tx {t : Tr} {A : Str → Str → Prop} (h : ∀ x ∈ ml t, A x.1 x.2) : ∀ p ∈ pre t, A (mrk p) (lbl p) := fun p hp => h _ (List.mem_map_of_mem hp)
theorem ml_tx2 {t : Tr} {A : Str → Str → Prop} (h : ∀ p ∈ pre t, A (mrk p) (lbl p)) : ∀ x ∈ ml t, A x.1 x.2 := fun x hx => by
  obtain ⟨p, hp, rfl⟩ := List.mem_map.mp hx
  exact h p hp
theorem ins_perm (ks : List Tr) (i : Nat) (t : Tr) : (insT ks i t).Perm (t :: ks) := by
  unfold insT
  have := List.perm_middle (a := t) (l₁ := ks.take i) (l₂ := ks.drop i)
  rw [List.take_append_drop] at this
  exact this
theorem erase_perm {α : Type} : ∀ {xs : List α} {i : Nat} {x : α}, xs[i]? = some x → xs.Perm (x :: xs.eraseIdx i)
  | [], _, _, h => by simp at h
  | y :: r, 0, x, h => by
    simp at h
    subst h
    exact List.Perm.refl _
  | y :: r, i + 1, x, h => by
    rw [List.getElem?_cons_succ] at h
    exact (List.Perm.cons y (erase_perm h)).trans (List.Perm.swap _ _ _)
theorem nd_sep {α : Type} {xs : List α} (nd : xs.Nodup) {i j : Nat} {x : α} (hi : xs[i]? = some x) (hj : xs[j]? = some x) : i = j :=
  (List.getElem?_inj (List.getElem?_eq_some_iff.mp hi).1 nd).mp (hi.trans hj.symm)
/-- brothers have unlike marks -/
theorem kids_nd {t q : Tr} (nd : ((pre t).map mrk).Nodup) (hq : q ∈ pre t) : ((kids q).map mrk).Nodup := by
  obtain ⟨π, hπ⟩ := pre_sub t hq
  have go : ∀ {π : List Nat} {t q : Tr}, ((pre t).map mrk).Nodup → sub t π = some q → ((pre q).map mrk).Nodup := by
    intro π
    induction π with
    | nil => intro t q nd h; cases h; exact nd
    | cons k π ih =>
      intro t q nd h
      obtain ⟨c, hc, h⟩ := sub_ne h
      exact ih (nd_kid nd hc) h
  have ndq := go nd hπ
  rw [pre_eq, List.map_cons, List.nodup_cons] at ndq
  have sl : ∀ ks : List Tr, (ks.map mrk).Sublist ((pres ks).map mrk) := by
    intro ks
    induction ks with
    | nil => simp [pres]
    | cons k r ih =>
      simp only [pres, List.map_append, List.map_cons]
      rw [pre_eq, List.map_cons, List.cons_append]
      exact List.Sublist.cons₂ _ (ih.trans (List.sublist_append_right _ _))
  exact (sl (kids q)).nodup ndq.2
structure Chg (t t' : Tr) (R S : List (Str × Str)) (P : List (Str × Str)) : Prop where
  ne : t' ≠ t
  p1 : (ml t).Perm (R ++ P)
  p2 : (ml t').Perm (S ++ P)
  hg : hgt t' ≤ hgt t
theorem hgt_sub {t q u : Tr} {π : List Nat} (h : sub t π = some q) (hu : hgt u ≤ hgt q) : hgt (setAt t π u) ≤ hgt t := by
  have h1 := hgt_set u h
  have h2 := sub_lev h
  omega
theorem chg_say {t q : Tr} {l : Str} (nd : ((pre t).map mrk).Nodup) (hq : q ∈ pre t) (hl : l ≠ lbl q) : ∃ P, Chg t (aft (.say (mrk q) l) t) [(mrk q, lbl q)] [(mrk q, l)] P := by
  obtain ⟨π, hπ⟩ := pre_sub t hq
  have e := aft_node (p := .say (mrk q) l) (.inr ⟨_, _, rfl⟩) nd hπ rfl
  have e1 : lbP (.say (mrk q) l) (mrk q) (lbl q) = l := if_pos rfl
  have e2 : ksP (.say (mrk q) l) (mrk q) (kids q) = kids q := rfl
  rw [e1, e2] at e
  obtain ⟨R, h1, h2⟩ := ml_set hπ
  refine ⟨mls (kids q) ++ R, ?_, ?_, ?_, ?_⟩
  · rw [e]
    exact set_ne hπ fun h => hl (by rw [← h]; rfl)
  · rw [ml_eq q] at h1
    exact h1
  · rw [e]
    have := h2 (.node (mrk q) l (kids q))
    rw [ml_eq (.node (mrk q) l (kids q))] at this
    exact this
  · rw [e]
    exact hgt_sub hπ (by rw [hgt_eq, hgt_eq q]; exact Nat.le_refl _)
theorem chg_move {t q p : Tr} (nd : ((pre t).map mrk).Nodup) (hq : q ∈ pre t) (hk : (kids q)[1]? = some p) : ∃ P, Chg t (aft (.move (mrk p) 0) t) [] [] P := by
  obtain ⟨π, hπ⟩ := pre_sub t hq
  have e := aft_child (p := .move (mrk p) 0) (.inr ⟨_, _, rfl⟩) nd hπ hk rfl
  have e1 : chP (.move (mrk p) 0) (kids q) 1 p = p :: (kids q).eraseIdx 1 := rfl
  rw [e1] at e
  obtain ⟨R, h1, h2⟩ := ml_set hπ
  have pm := erase_perm hk
  refine ⟨ml q ++ R, ?_, h1, ?_, ?_⟩
  · rw [e]
    refine set_ne hπ fun h => ?_
    have hk0 : (kids q)[0]? = some p := by
      rw [← h]
      rfl
    have n2 := kids_nd nd hq
    have := nd_sep n2 (i := 0) (j := 1) (x := mrk p) (by rw [List.getElem?_map, hk0]; rfl) (by rw [List.getElem?_map, hk]; rfl)
    omega
  · rw [e]
    refine (h2 _).trans (List.Perm.append_right _ ?_)
    rw [ml_eq, ml_eq q]
    exact List.Perm.cons _ (mls_perm pm.symm)
  · rw [e]
    refine hgt_sub hπ ?_
    rw [hgt]
    have : hgts (p :: (kids q).eraseIdx 1) ≤ hgt q - 1 := hgts_le fun x hx => by
      have hx2 : x ∈ kids q := pm.mem_iff.mpr hx
      have := hgt_kid hx2
      omega
    have := hgt_eq q
    omega
theorem erase_ins {ks : List Tr} {i : Nat} {p : Tr} (hk : ks[i]? = some p) (s : Tr) : insT (ks.eraseIdx i) i s = ks.set i s := by
  have hi := (List.getElem?_eq_some_iff.mp hk).1
  unfold insT
  rw [List.set_eq_take_append_cons_drop, if_pos hi, List.eraseIdx_eq_take_drop_succ]
  congr 1
  · rw [List.take_append_of_le_length (by rw [List.length_take]; omega), List.take_take, Nat.min_self]
  · rw [List.drop_append_of_le_length (by rw [List.length_take]; omega), List.drop_take, Nat.sub_self, List.take_zero, List.nil_append]
theorem chg_other {t q p : Tr} {i : Nat} {s : Str} (nd : ((pre t).map mrk).Nodup) (hq : q ∈ pre t) (hk : (kids q)[i]? = some p) (hs : s ∉ (pre t).map mrk) :
    (((pre (aft (.drop (mrk p)) t)).map mrk).Nodup ∧ hgt (aft (.drop (mrk p)) t) ≤ hgt t ∧ (pre (aft (.drop (mrk p)) t)).length ≤ (pre t).length) ∧
    ∃ P, Chg t (aft (.put (mrk q) i (.node s (lbl p) (kids p))) (aft (.drop (mrk p)) t)) [(mrk p, lbl p)] [(s, lbl p)] P := by
  obtain ⟨π, hπ⟩ := pre_sub t hq
  have e := aft_child (p := .drop (mrk p)) (.inl ⟨_, rfl⟩) nd hπ hk rfl
  have e1 : chP (.drop (mrk p)) (kids q) i p = (kids q).eraseIdx i := rfl
  rw [e1] at e
  obtain ⟨R, h1, h2⟩ := ml_set hπ
  have pm := erase_perm hk
  have hu := h2 (.node (mrk q) (lbl q) ((kids q).eraseIdx i))
  rw [← e] at hu
  have hml : (ml t).Perm (ml p ++ (ml (.node (mrk q) (lbl q) ((kids q).eraseIdx i)) ++ R)) := by
    refine h1.trans ?_
    rw [← List.append_assoc]
    refine List.Perm.append_right _ ?_
    rw [ml_eq q, ml_eq (.node (mrk q) (lbl q) ((kids q).eraseIdx i))]
    show ((mrk q, lbl q) :: mls (kids q)).Perm (ml p ++ (mrk q, lbl q) :: mls ((kids q).eraseIdx i))
    refine (List.Perm.cons _ (mls_perm pm)).trans ?_
    rw [mls_cons]
    exact List.perm_middle.symm
  have hml2 := hml.trans (List.Perm.append_left (ml p) hu.symm)
  have nd2 : ((ml t).map (·.1)).Nodup := ml_nd.mp nd
  rw [(hml2.map (·.1)).nodup_iff, List.map_append, List.nodup_append] at nd2
  have ndb : ((pre (aft (.drop (mrk p)) t)).map mrk).Nodup := ml_nd.mpr nd2.2.1
  refine ⟨⟨ndb, ?_, ?_⟩, ?_⟩
  · rw [e]
    refine hgt_sub hπ ?_
    rw [hgt]
    have : hgts ((kids q).eraseIdx i) ≤ hgt q - 1 := hgts_le fun x hx => by
      have := hgt_kid (List.mem_of_mem_eraseIdx hx)
      omega
    have := hgt_eq q
    omega
  · have := hml2.length_eq
    rw [List.length_append, ml_len, ml_len, ml_len] at this
    omega
  · have hs1 : sub (aft (.drop (mrk p)) t) π = some (.node (mrk q) (lbl q) ((kids q).eraseIdx i)) := by rw [e]; exact sub_set _ hπ
    have e3 := aft_node (p := .put (mrk q) i (.node s (lbl p) (kids p))) (.inl ⟨_, _, _, rfl⟩) ndb hs1 rfl
    have e4 : ksP (.put (mrk q) i (.node s (lbl p) (kids p))) (mrk q) ((kids q).eraseIdx i) = (kids q).set i (.node s (lbl p) (kids p)) := by
      show (if mrk q = mrk q then _ else _) = _
      rw [if_pos rfl, erase_ins hk]
    have e5 : aft (.put (mrk q) i (.node s (lbl p) (kids p))) (aft (.drop (mrk p)) t) = setAt t π (.node (mrk q) (lbl q) ((kids q).set i (.node s (lbl p) (kids p)))) := by
      rw [e3]
      show setAt (aft (.drop (mrk p)) t) π (.node (mrk q) (lbl q) (ksP (.put (mrk q) i (.node s (lbl p) (kids p))) (mrk q) ((kids q).eraseIdx i))) = _
      rw [e4, e, set_set _ _ hπ]
    have hp2 := h2 (.node (mrk q) (lbl q) ((kids q).set i (.node s (lbl p) (kids p))))
    rw [← e5] at hp2
    have pm2 : ((kids q).set i (.node s (lbl p) (kids p))).Perm (.node s (lbl p) (kids p) :: (kids q).eraseIdx i) := by
      rw [← erase_ins hk]
      exact ins_perm _ _ _
    have hp3 : (ml (.node (mrk q) (lbl q) ((kids q).set i (.node s (lbl p) (kids p))))).Perm ((s, lbl p) :: (mls (kids p) ++ ml (.node (mrk q) (lbl q) ((kids q).eraseIdx i)))) := by
      rw [ml_eq, ml_eq (.node (mrk q) (lbl q) ((kids q).eraseIdx i))]
      show ((mrk q, lbl q) :: mls ((kids q).set i (.node s (lbl p) (kids p)))).Perm _
      refine (List.Perm.cons _ (mls_perm pm2)).trans ?_
      rw [mls_cons, ml_eq]
      exact (List.perm_middle (a := (mrk q, lbl q)) (l₁ := (s, lbl p) :: mls (kids p))).symm
    have pA : (ml t).Perm ([(mrk p, lbl p)] ++ (mls (kids p) ++ (ml (.node (mrk q) (lbl q) ((kids q).eraseIdx i)) ++ R))) := by
      rw [ml_eq p] at hml
      exact hml
    have pB : (ml (aft (.put (mrk q) i (.node s (lbl p) (kids p))) (aft (.drop (mrk p)) t))).Perm ([(s, lbl p)] ++ (mls (kids p) ++ (ml (.node (mrk q) (lbl q) ((kids q).eraseIdx i)) ++ R))) := by
      have := hp2.trans (List.Perm.append_right R hp3)
      rw [List.cons_append, List.append_assoc] at this
      exact this
    refine ⟨_, ?_, pA, pB, ?_⟩
    · intro h
      have := pB.map (·.1)
      rw [h, ml_mrk] at this
      exact hs (this.mem_iff.mpr (by simp))
    · rw [e5]
      refine hgt_sub hπ ?_
      rw [hgt]
      have : hgts ((kids q).set i (.node s (lbl p) (kids p))) ≤ hgt q - 1 := hgts_le fun x hx => by
        rcases List.mem_or_eq_of_mem_set hx with h | rfl
        · have := hgt_kid h; omega
        · have h3 := hgt_kid (List.mem_of_getElem? hk)
          rw [hgt]
          have := hgt_eq p
          omega
      have := hgt_eq q
      omega
/-- what stays of it -/
theorem chg_good {t t' : Tr} {R S P : List (Str × Str)} (c : Chg t t' R S P) (hl : S.length = R.length) (nd : ((pre t).map mrk).Nodup) (hn : ∀ x ∈ S, x ∈ R ∨ x.1 ∉ (pre t).map mrk ∨ ∃ y ∈ R, y.1 = x.1) (hS : (S.map (·.1)).Nodup) :
    ((pre t').map mrk).Nodup ∧ (pre t').length = (pre t).length ∧ ∀ A : Str → Str → Prop, (∀ p ∈ pre t, A (mrk p) (lbl p)) → (∀ x ∈ S, A x.1 x.2) → ∀ p ∈ pre t', A (mrk p) (lbl p) := by
  have nd1 := ml_nd.mp nd
  rw [(c.p1.map (·.1)).nodup_iff, List.map_append, List.nodup_append] at nd1
  refine ⟨?_, ?_, fun A h1 h2 => ml_tx fun x hx => ?_⟩
  · rw [ml_nd, (c.p2.map (·.1)).nodup_iff, List.map_append, List.nodup_append]
    refine ⟨hS, nd1.2.1, fun a ha b hb e => ?_⟩
    subst e
    obtain ⟨x, hx, rfl⟩ := List.mem_map.mp ha
    have inR : ∀ y ∈ R, y.1 = x.1 → False := fun y hy e => nd1.2.2 y.1 (List.mem_map_of_mem hy) x.1 hb e
    rcases hn x hx with h | h | ⟨y, hy, e⟩
    · exact inR x h rfl
    · refine h ?_
      rw [← ml_mrk, (c.p1.map (·.1)).mem_iff, List.map_append]
      exact List.mem_append_right _ hb
    · exact inR y hy e
  · have e1 := c.p1.length_eq
    have e2 := c.p2.length_eq
    rw [ml_len, List.length_append] at e1 e2
    omega
  · rcases List.mem_append.mp (c.p2.mem_iff.mp hx) with h | h
    · exact h2 x h
    · exact ml_tx2 (A := A) h1 x (c.p1.mem_iff.mpr (List.mem_append_right _ h))

def nv (n : Nat) : V := .int (n : Nat)
theorem nv_get {xs : List Nat} {i x : Nat} (h : xs[i]? = some x) : (xs.map nv)[i]? = some (.int (x : Nat)) := by
  rw [List.getElem?_map, h]
  rfl

end
end K19
set_option Elab.async false
set_option linter.all false
set_option maxRecDepth 100000
set_option maxHeartbeats 4000000
namespace K19
open PySem PySem.Spec PyProof.Rows L2 XL
section
variable {P : Program} {w : World} {K : PySem.W.Frag} {mg : Str → Option Value} {base : Heap}
/-! ### the program's patches: small parts -/
def spIsN : Sp := fun vs H Q _ => ∃ i lo hi : Int, vs = [.int i, .int lo, .int hi] ∧ Q (.bl (decide (lo ≤ i) && decide (i ≤ hi))) H
theorem ok_is_number (T : Top K mg w) {k : Nat} : FnOk P w K mg base CX0 (k + 1) T.a_is_number T.d_is_number ["thing", "low", "high"] spIsN := by
  refine T.F_is_number.ok sc_is_number (fun vs H Q E h => ?_) (fun cdv A outer s H vs Q E hr h => ?_)
  · obtain ⟨i, lo, hi, rfl, _⟩ := h
    rfl
  · obtain ⟨i, lo, hi, rfl, q⟩ := h
    refine ⟨_, (pss_one (ps_ret (xe_and (pe_callB (call_isK K) (by rfl) T.m_isinstance (by decide +kernel) (pa_cons (xv 0) (pa_cons (pe_bltn (v := .ty "int") (by rfl) T.m_int (by decide +kernel) rfl) pa_nil))) (xe_and (xe_not (pe_callB (call_isK K) (by rfl) T.m_isinstance (by decide +kernel) (pa_cons (xv 0) (pa_cons (pe_bltn (v := .ty "bool") (by rfl) T.m_bool (by decide +kernel) rfl) pa_nil)))) (pe_one (xe_chain op_leY op_leY (xv 1) (xv 0) (xv 2))))))), ?_⟩
    refine ⟨_, _, _, _, true, rfl, .ty _, .base (.int _), kit_ty (by decide +kernel), fun _ => ⟨_, _, _, _, false, rfl, .ty _, .base (.int _), kit_ty (by decide +kernel), ?_⟩, tt⟩
    refine ⟨fun _ => ⟨fun e => ?_, fun e => ?_⟩, tt⟩
    · rw [show decide (lo ≤ i) = true from e, Bool.true_and] at q
      exact q
    · rw [show decide (lo ≤ i) = false from e, Bool.false_and] at q
      exact q
def spAt : Sp := fun vs H Q _ => ∃ i n : Nat, vs = [.int (i : Nat), .int (n : Nat)] ∧ i ≤ n ∧ Q .non H
theorem ok_check_at (T : Top K mg w) {k : Nat} (G_is_number : FnOk P w K mg base CX0 k T.a_is_number T.d_is_number ["thing", "low", "high"] spIsN) : FnOk P w K mg base CX0 (k + 1) T.a_check_at T.d_check_at ["at", "count"] spAt := by
  refine T.F_check_at.ok sc_check_at (fun vs H Q E h => ?_) (fun cdv A outer s H vs Q E hr h => ?_)
  · obtain ⟨i, n, rfl, _⟩ := h
    rfl
  · obtain ⟨i, n, rfl, hi, q⟩ := h
    refine ⟨_, (pss_one (xs_if (pt_not (xt_truK K (pe_call G_is_number (hr.mono (by omega)) (by rfl) T.g_is_number T.F_is_number.kp T.b_is_number .nil pass0 (pa_cons (xv 0) (pa_cons pe_int (pa_cons (xv 1) pa_nil))))))
      (pss_one ps_never)
      pss_nil)), ?_⟩
    refine ⟨i, 0, n, rfl, ?_⟩
    rw [decide_eq_true (by omega), decide_eq_true (by omega)]
    exact ⟨ff, fun _ => q⟩
def spChk (K : PySem.W.Frag) : Sp := fun vs H Q _ => ∃ (u : V) (p : Pt), vs = [u] ∧ Dp K H u (ptD p) ∧ Q .non H
def wlen : Pt → Nat
  | .drop _ => 2
  | .put _ _ _ => 4
  | .move _ _ => 3
  | .say _ _ => 3
theorem ok_check_patch (T : Top K mg w) {k : Nat} : FnOk P w K mg base CX0 (k + 1) T.a_check_patch T.d_check_patch ["patch"] (spChk K) := by
  refine T.F_check_patch.ok sc_check_patch (fun vs H Q E h => ?_) (fun cdv A outer s H vs Q E hr h => ?_)
  · obtain ⟨u, p, rfl, _⟩ := h
    rfl
  · obtain ⟨u, p, rfl, hu, q⟩ := h
    obtain ⟨a, ws, rfl, ha, hws⟩ := pt_at hu
    refine ⟨_, (pss_cons (xs_if (PW.pt (xw_or (pt_not (xt_truK K (pe_callB (call_isK K) (by rfl) T.m_isinstance (by decide +kernel) (pa_cons (xv 0) (pa_cons (pe_bltn (v := .ty "tuple") (by rfl) T.m_tuple (by decide +kernel) rfl) pa_nil))))) (xw_or (xt_cmp (op_eqLK K hr.u190) (pe_callB (cr_lenK K) (by rfl) T.m_len (by decide +kernel) (pa_cons (xv 0) pa_nil)) pe_int (nomark _)) (pw_or1 (xt_cmp (notin_seqK K) (pe_ix (ix_k K) (xv 0) pe_int (fun _ _ => rfl)) (pe_glob (v := .ref T.U_WORDS) (by rfl) T.g_WORDS rfl) (by rfl))))))
      (pss_one ps_never)
      pss_nil)
      (pss_one (xs_if (xt_cmp (op_neLK K hr.u190) (pe_callB (cr_lenK K) (by rfl) T.m_len (by decide +kernel) (pa_cons (xv 0) pa_nil)) (pe_ix (ix_k K) (pe_glob (v := .ref T.U_LENGTHS) (by rfl) T.g_LENGTHS rfl) (pe_bmK K PySem.F.plainAttrs_tuple PySem.F.slot_tuple_index PySem.F.type_tuple_index (mt_tindexK K hr.u65) (pe_glob (v := .ref T.U_WORDS) (by rfl) T.g_WORDS rfl) (pa_cons (pe_ix (ix_k K) (xv 0) pe_int (fun _ _ => rfl)) pa_nil)) (fun _ _ => rfl)) (nomark _))
      (pss_one ps_never)
      pss_nil))), ?_⟩
    have wl := dpa_len hws
    refine ⟨_, _, _, _, true, rfl, .ty _, sqT_ty ha, kit_ty (by decide +kernel), ff, fun _ => ?_⟩
    refine ⟨_, .inr ha, fun e => ?_, fun _ => ?_⟩
    · have := of_decide_eq_true e
      simp only [List.length_cons] at this
      omega
    have sqW := T.sq_WORDS H
    refine ⟨_, _, .inr ha, atI_nat (j := 0) rfl, T.U_WORDS, _, rfl, .inr sqW, rfl, by decide, ?_⟩
    have win : inV (.str (wd p)) [V.str "drop", .str "put", .str "move", .str "say"] = true := by
      cases p with
      | drop m => show inV (.str "drop") [V.str "drop", .str "put", .str "move", .str "say"] = true; decide +kernel
      | put m i t => show inV (.str "put") [V.str "drop", .str "put", .str "move", .str "say"] = true; decide +kernel
      | move m i => show inV (.str "move") [V.str "drop", .str "put", .str "move", .str "say"] = true; decide +kernel
      | say m l => show inV (.str "say") [V.str "drop", .str "put", .str "move", .str "say"] = true; decide +kernel
    rw [win]
    refine ⟨ff, fun _ => ?_⟩
    have ws4 : DpAll K H [V.str "drop", .str "put", .str "move", .str "say"] [.str "drop", .str "put", .str "move", .str "say"] := .cons (.str _) (.cons (.str _) (.cons (.str _) (.cons (.str _) .nil)))
    refine ⟨_, .inr ha, .inr (.inl ⟨rfl, T.wt_WORDS⟩), _, _, .inr ha, atI_nat (j := 0) rfl, ?_⟩
    have sqL := T.sq_LENGTHS H
    cases p with
    | drop m =>
      refine ⟨T.U_WORDS, .str "drop", .str "drop", _, 0, .str "drop", rfl, rfl, .tup sqW ws4, .str _, by decide +kernel, by decide +kernel, rfl, by decide +kernel, fun m z h => by omega, ?_⟩
      refine ⟨_, _, .inr sqL, atI_nat (j := 0) rfl, ?_⟩
      have e2 : ((V.str (wd (.drop m)) :: V.str (pmk (.drop m)) :: ws).length : Int) = 2 := by simp only [List.length_cons, wl, rsD, List.length_nil]; rfl
      rw [e2]
      exact ⟨fun e => absurd e (by decide), fun _ => q⟩
    | put m i t =>
      refine ⟨T.U_WORDS, .str "put", .str "put", _, 1, .str "put", rfl, rfl, .tup sqW ws4, .str _, by decide +kernel, by decide +kernel, rfl, by decide +kernel, fun m z h hz => ?_, ?_⟩
      · obtain rfl : m = 0 := by omega
        cases hz
        decide +kernel
      refine ⟨_, _, .inr sqL, atI_nat (j := 1) rfl, ?_⟩
      have e2 : ((V.str (wd (.put m i t)) :: V.str (pmk (.put m i t)) :: ws).length : Int) = 4 := by simp only [List.length_cons, wl, rsD, List.length_nil]; rfl
      rw [e2]
      exact ⟨fun e => absurd e (by decide), fun _ => q⟩
    | move m i =>
      refine ⟨T.U_WORDS, .str "move", .str "move", _, 2, .str "move", rfl, rfl, .tup sqW ws4, .str _, by decide +kernel, by decide +kernel, rfl, by decide +kernel, fun m z h hz => ?_, ?_⟩
      · match m, h, hz with
        | 0, _, hz => cases hz; decide +kernel
        | 1, _, hz => cases hz; decide +kernel
      refine ⟨_, _, .inr sqL, atI_nat (j := 2) rfl, ?_⟩
      have e2 : ((V.str (wd (.move m i)) :: V.str (pmk (.move m i)) :: ws).length : Int) = 3 := by simp only [List.length_cons, wl, rsD, List.length_nil]; rfl
      rw [e2]
      exact ⟨fun e => absurd e (by decide), fun _ => q⟩
    | say m l =>
      refine ⟨T.U_WORDS, .str "say", .str "say", _, 3, .str "say", rfl, rfl, .tup sqW ws4, .str _, by decide +kernel, by decide +kernel, rfl, by decide +kernel, fun m z h hz => ?_, ?_⟩
      · match m, h, hz with
        | 0, _, hz => cases hz; decide +kernel
        | 1, _, hz => cases hz; decide +kernel
        | 2, _, hz => cases hz; decide +kernel
      refine ⟨_, _, .inr sqL, atI_nat (j := 3) rfl, ?_⟩
      have e2 : ((V.str (wd (.say m l)) :: V.str (pmk (.say m l)) :: ws).length : Int) = 3 := by simp only [List.length_cons, wl, rsD, List.length_nil]; rfl
      rw [e2]
      exact ⟨fun e => absurd e (by decide), fun _ => q⟩
mutual
theorem hgt_pre : ∀ t, hgt t ≤ (pre t).length
  | .node m l ks => by
    have := hgts_pre ks
    simp only [hgt, pre, List.length_cons]; omega
theorem hgts_pre : ∀ ts, hgts ts ≤ (pres ts).length
  | [] => by simp [hgts]
  | t :: r => by
    have h1 := hgt_pre t
    have h2 := hgts_pre r
    simp only [hgts, pres, List.length_append]; omega
end
/-! paths -/
theorem sub_snoc : ∀ {π : List Nat} {t q c : Tr} {k : Nat}, sub t π = some q → (kids q)[k]? = some c → sub t (π ++ [k]) = some c
  | [], t, q, c, k, h, hk => by
    cases h
    rw [List.nil_append, sub_cons hk]
    rfl
  | j :: π, t, q, c, k, h, hk => by
    obtain ⟨d, hd, h⟩ := sub_ne h
    rw [List.cons_append, sub_cons hd]
    exact sub_snoc h hk
theorem sub_unsnoc : ∀ {π : List Nat} {t c : Tr} {k : Nat}, sub t (π ++ [k]) = some c → ∃ q, sub t π = some q ∧ (kids q)[k]? = some c
  | [], t, c, k, h => by
    rw [List.nil_append] at h
    obtain ⟨d, hd, h⟩ := sub_ne h
    cases h
    exact ⟨t, rfl, hd⟩
  | j :: π, t, c, k, h => by
    rw [List.cons_append] at h
    obtain ⟨d, hd, h⟩ := sub_ne h
    obtain ⟨q, h1, h2⟩ := sub_unsnoc h
    exact ⟨q, by rw [sub_cons hd]; exact h1, h2⟩
def WtAt (K : PySem.W.Frag) (t : Tr) (G : Hp) (v : V) (r : List Nat × Tr) : Prop := ∃ a v1 pa, v = .ref a ∧ G a = some (.tup [v1, .ref pa]) ∧ Dp K G v1 (toD r.2) ∧ SqT K G pa (r.1.map nv) ∧ sub t r.1 = some r.2
theorem WtAt.same {K : PySem.W.Frag} {t : Tr} {G G' : Hp} {v : V} {r : List Nat × Tr} (e : Same G G') (h : WtAt K t G v r) : WtAt K t G' v r := by
  obtain ⟨a, v1, pa, h1, h2, h3, h4, h5⟩ := h
  exact ⟨a, v1, pa, h1, e _ _ h2, dp_same e h3, same_t e h4, h5⟩
def szs (rs : List (List Nat × Tr)) : Nat := (rs.map fun r => (pre r.2).length).sum
theorem szs_app (xs ys : List (List Nat × Tr)) : szs (xs ++ ys) = szs xs + szs ys := by
  unfold szs
  rw [List.map_append, List.sum_append]
theorem szs_kids (π : List Nat) : ∀ (ks : List Tr) (f : Nat → List Nat), szs ((List.range ks.length).filterMap fun k => (ks[k]?).map fun c => (f k, c)) = (pres ks).length := by
  intro ks f
  have go : ∀ (n : Nat), n ≤ ks.length → szs ((List.range n).filterMap fun k => (ks[k]?).map fun c => (f k, c)) = (pres (ks.take n)).length := by
    intro n
    induction n with
    | zero => intro _; simp [szs, pres]
    | succ n ih =>
      intro h
      have hk : ks[n]? = some ks[n] := List.getElem?_eq_getElem (by omega)
      rw [List.range_succ, List.filterMap_append, szs_app, ih (by omega), take_snoc hk, pres_app, List.length_append, pres_one]
      congr 1
      simp [szs, hk]
  have := go ks.length (Nat.le_refl _)
  rw [List.take_length] at this
  exact this
def spPath (K : PySem.W.Frag) : Sp := fun vs H Q _ => ∃ (G : Hp) (M : List (Addr × HO)) (v : V) (m : Str) (t : Tr), vs = [v, .str m] ∧ Sep G M H ∧ Dp K G v (toD t) ∧ (pre t).length ≤ 1000 ∧ m ∈ (pre t).map mrk ∧
  ∀ (pa : Addr) (π : List Nat) (q : Tr) (G' H' : Hp), Same G G' → SqT K G' pa (π.map nv) → sub t π = some q → mrk q = m → Sep G' M H' → Q (.ref pa) H'
theorem ok_path_to (T : Top K mg w) {k : Nat} : FnOk P w K mg base CX0 (k + 1) T.a_path_to T.d_path_to ["root", "mark"] (spPath K) := by
  refine T.F_path_to.ok sc_path_to (fun vs H Q E h => ?_) (fun cdv A outer s H vs Q E hr h => ?_)
  · obtain ⟨G, M, v, m, t, rfl, _⟩ := h
    rfl
  · obtain ⟨G, M, v, m, t, rfl, S, hv, pl, hm, q⟩ := h
    refine ⟨_, (pss_cons (ps_set (i := 2) sc_path_to.nd rfl (.inl rfl) (pe_lst (pa_cons (pe_tup (pa_cons (xv 0) (pa_cons (pe_tup pa_nil) pa_nil))) pa_nil)))
      (pss_cons (xs_while PassesOwn.never (xt_truK K (xv 2))
      (pss_cons (ps_asg (pe_bm0 PySem.F.plainAttrs_list PySem.F.slot_list_pop PySem.F.type_list_pop mt_pop (xv 2)) (pg_tupK K 2 (pgs_cons (pg_name (i := 3) sc_path_to.nd rfl (.inl rfl)) (pgs_cons (pg_name (i := 4) sc_path_to.nd rfl (.inl rfl)) pgs_nil))))
      (pss_cons (xs_if (xt_cmp (op_eqLK K hr.u190) (pe_ix (ix_k K) (xv 3) pe_int (fun _ _ => rfl)) (xv 1) (nomark _))
      (pss_one (ps_ret (xv 4)))
      pss_nil)
      (pss_one (ps_for PassesOwn.never rfl (pi_range1 (by rfl) T.m_range (pa_cons (pe_callB (cr_lenK K) (by rfl) T.m_len (by decide +kernel) (pa_cons (pe_ix (ix_k K) (xv 3) pe_int (fun _ _ => rfl)) pa_nil)) pa_nil)) (pg_name (i := 5) sc_path_to.nd rfl (.inl rfl))
      (pss_one (ps_expr (pe_bmK K PySem.F.plainAttrs_list PySem.F.slot_list_append PySem.F.type_list_append mt_append (xv 2) (pa_cons (pe_tup (pa_cons (pe_ix (ix_k K) (pe_ix (ix_k K) (xv 3) pe_int (fun _ _ => rfl)) (xv 5) (fun _ _ => rfl)) (pa_cons (pe_op (op_catAK K) (xv 4) (pe_tup (pa_cons (xv 5) pa_nil))) pa_nil))) pa_nil)))))))))
      (pss_one (ps_ret pe_non)))), ?_⟩
    refine ⟨sz, fun p0 np0 => ⟨sz, fun p1 np1 => ⟨sz, fun W nW => ?_⟩⟩⟩
    obtain ⟨G1, s1, S1, h1⟩ := Sep.mk (o := .tup []) S np0
    obtain ⟨G2, s2, S2, h2⟩ := Sep.mk (o := .tup [v, .ref p0]) S1 np1
    have S3 := S2.new (o := .lst [.ref p1]) nW
    refine ⟨fun n σ H' => ∃ (y3 y4 y5 : Option V) (ws : List V) (rs : List (List Nat × Tr)) (G' : Hp), σ = [some v, some (.str m), some (.ref W), y3, y4, y5] ∧ Same G2 G' ∧ n = szs rs ∧ n ≤ 1000 ∧ Paired (WtAt K t G') ws rs ∧ (∃ r ∈ rs, m ∈ (pre r.2).map mrk) ∧ Sep G' ((W, .lst ws) :: M) H',
      ⟨_, _, _, _, [.ref p1], [([], t)], G2, rfl, Same.refl _, rfl, by simpa [szs] using pl, .cons ⟨p1, v, p0, rfl, h2, dp_same (s1.trans s2) hv, SqT.of (s2 _ _ h1), rfl⟩ .nil, ⟨_, List.mem_singleton.mpr rfl, hm⟩, S3⟩, fun n σ H' h => ?_⟩
    obtain ⟨y3, y4, y5, ws, rs, G4, rfl, s4, rfl, n1, hws, ⟨r1, hr1, hr2⟩, S4⟩ := h
    have wl := prd_len hws
    rcases nil_or_snoc ws with ew | ⟨wp, w0, ew⟩
    · subst ew
      have : rs = [] := List.length_eq_zero_iff.mp wl.symm
      rw [this] at hr1
      exact nomatch hr1
    · subst ew
      have ne : (!(wp ++ [w0]).isEmpty) = true := by simp
      refine ⟨!(wp ++ [w0]).isEmpty, .inl ⟨_, SqL.of S4.hd, rfl⟩, fun _ => ?_, fun e => absurd (ne.symm.trans e) (by decide)⟩
      obtain ⟨rp, ⟨π, c⟩, rfl, hwp, a, v1, pa, rfl, ha, hv1, hpa, hsub⟩ := prd_unsnoc hws
      replace hv1 : Dp K G4 v1 (toD c) := hv1
      replace hpa : SqT K G4 pa (π.map nv) := hpa
      replace hsub : sub t π = some c := hsub
      have S5 := S4.set (o' := .lst wp)
      refine ⟨.inl ⟨rfl, _, SqL.of S4.hd⟩, W, wp ++ [.ref a], .ref a, rfl, rfl, S4.hd, by simp, ?_⟩
      rw [List.dropLast_concat]
      refine ⟨a, _, rfl, SqT.of (S5.st ha), rfl, _, _, rfl, _, _, rfl, rfl, ?_⟩
      obtain ⟨a0, kv, kus, rfl, ha0, hkv, hkus⟩ := node_at hv1
      have kl := dpa_len hkus
      rw [List.length_map] at kl
      have ez : szs (rp ++ [(π, c)]) = szs rp + (pre c).length := by
        rw [szs_app]
        simp [szs]
      have ec := congrArg List.length (pre_eq c)
      rw [List.length_cons] at ec
      have km := many_le (kids c)
      refine ⟨_, _, .inr (S5.t ha0), atI_nat (j := 0) rfl, fun e => ?_, fun e => ?_⟩
      · exact q pa π c G4 _ (s1.trans (s2.trans s4)) hpa hsub (of_decide_eq_true e) S5.drop
      have ne2 : mrk c ≠ m := of_decide_eq_false e
      refine ⟨_, _, .inr (S5.t ha0), atI_nat (j := 2) rfl, _, .inr (S5.t hkv), ?_⟩
      rw [kl]
      have wpl := prd_len hwp
      have wps : wp.length ≤ szs rp := by
        rw [wpl]
        clear hwp wpl ez n1 hr1 hws wl
        induction rp with
        | nil => simp
        | cons x r ih =>
          have hx := congrArg List.length (pre_eq x.2)
          rw [List.length_cons] at hx
          have : szs (x :: r) = (pre x.2).length + szs r := by simp [szs]
          rw [this, List.length_cons]
          omega
      have fk : ∀ n, (List.range n).filterMap (fun k => ((kids c)[k]?).map fun d => (π ++ [k], d)) = (List.range n).filterMap fun k => ((kids c)[k]?).map fun d => (π ++ [k], d) := fun _ => rfl
      refine ⟨_, rfl, by omega, by omega, for_range (lo := 0) (n := ((kids c).length : Int).toNat) (fun i σ H' => ∃ (y5 : Option V) (vs : List V) (G' : Hp), σ = [some v, some (.str m), some (.ref W), some (.ref a0), some (.ref pa), y5] ∧ Same G4 G' ∧ vs.length = wp.length + i ∧ Paired (WtAt K t G') vs (rp ++ (List.range i).filterMap fun k => ((kids c)[k]?).map fun d => (π ++ [k], d)) ∧ Sep G' ((W, .lst vs) :: M) H') ⟨_, wp, G4, rfl, Same.refl _, rfl, by simpa using hwp, S5⟩ (fun i σ H' hi h => ?_) (fun σ H' h => ?_)⟩
      · obtain ⟨y5, vs, G6, rfl, s6, vl, hvs, S6⟩ := h
        have ei : (0 : Int) + (i : Nat) = ((i : Nat) : Int) := by omega
        rw [ei]
        have il : i < (kids c).length := by omega
        have hk : (kids c)[i]? = some (kids c)[i] := List.getElem?_eq_getElem il
        have hku : kus[i]? = some (kus[i]'(by omega)) := List.getElem?_eq_getElem (by omega)
        obtain ⟨d, hd, hdd⟩ := dpa_get hkus hku
        obtain ⟨c2, hc2, rfl⟩ := map_get hd
        rw [hk] at hc2
        cases hc2
        refine ⟨.inl ⟨rfl, _, SqL.of S6.hd⟩, _, _, .inr (S6.t (same_t s6 ha0)), atI_nat (j := 2) rfl, _, _, .inr (S6.t (same_t s6 hkv)), atI_nat hku, sz, fun p7 np7 => ?_⟩
        obtain ⟨G7, s7, S7, h7⟩ := Sep.mk (o := .tup [.int (i : Nat)]) S6 np7
        have plen : π.length ≤ 1000 := by
          have := sub_lev hsub
          have h2 : hgt t ≤ (pre t).length := hgt_pre t
          omega
        refine cat_ok S7 (same_t (s6.trans s7) hpa) (SqT.of h7) (small (by rw [List.length_map]; simp only [List.length_singleton]; omega)) fun cc G8 H8 s8 hcc S8 => ⟨sz, fun p9 np9 => ?_⟩
        obtain ⟨G9, s9, S9, h9⟩ := Sep.mk (o := .tup [kus[i]'(by omega), .ref cc]) S8 np9
        have s69 := s7.trans (s8.trans s9)
        refine ⟨W, vs, .ref p9, rfl, rfl, S9.hd, smallL (by omega), _, vs ++ [.ref p9], G9, rfl, s6.trans s69, by rw [List.length_append, vl]; rfl, ?_, S9.set⟩
        rw [List.range_succ, List.filterMap_append, ← List.append_assoc]
        have e1 : [i].filterMap (fun k => ((kids c)[k]?).map fun d => (π ++ [k], d)) = [(π ++ [i], (kids c)[i])] := by simp [hk]
        rw [e1]
        refine prd_app (prd_imp (fun _ _ => WtAt.same s69) hvs) (.cons ⟨p9, _, cc, rfl, h9, dp_same (s6.trans s69) hdd, ?_, sub_snoc hsub hk⟩ .nil)
        rw [List.map_append]
        exact same_t s9 hcc
      · obtain ⟨y5, vs, G6, rfl, s6, vl, hvs, S6⟩ := h
        have en : ((kids c).length : Int).toNat = (kids c).length := by omega
        rw [en] at hvs vl
        have e2 := szs_kids π (kids c) fun k => π ++ [k]
        refine ⟨szs rp + (pres (kids c)).length, by rw [ez]; omega, _, _, _, vs, _, G6, rfl, s4.trans s6, by rw [szs_app, e2], by omega, hvs, ?_, S6⟩
        rcases List.mem_append.mp hr1 with h | h
        · exact ⟨r1, List.mem_append_left _ h, hr2⟩
        · obtain rfl := List.mem_singleton.mp h
          replace hr2 : m ∈ (pre c).map mrk := hr2
          rw [pre_eq, List.map_cons, List.mem_cons] at hr2
          rcases hr2 with h | h
          · exact absurd h.symm ne2
          · obtain ⟨x, hx, rfl⟩ := List.mem_map.mp h
            obtain ⟨d, hd, hxd⟩ := mem_pres.mp hx
            obtain ⟨j, hj⟩ := List.getElem?_of_mem hd
            refine ⟨(π ++ [j], d), List.mem_append_right _ (List.mem_filterMap.mpr ⟨j, List.mem_range.mpr (List.getElem?_eq_some_iff.mp hj).1, by rw [hj]; rfl⟩), List.mem_map_of_mem hxd⟩
def spNodeOn (K : PySem.W.Frag) : Sp := fun vs H Q _ => ∃ (G : Hp) (v : V) (pa : Addr) (π : List Nat) (t q : Tr), vs = [v, .ref pa] ∧ Same G H ∧ Dp K G v (toD t) ∧ SqT K G pa (π.map nv) ∧ sub t π = some q ∧ ∀ u, Dp K G u (toD q) → Q u H
theorem ok_node_on (T : Top K mg w) {k : Nat} : FnOk P w K mg base CX0 (k + 1) T.a_node_on T.d_node_on ["root", "path"] (spNodeOn K) := by
  refine T.F_node_on.ok sc_node_on (fun vs H Q E h => ?_) (fun cdv A outer s H vs Q E hr h => ?_)
  · obtain ⟨G, v, pa, π, t, q, rfl, _⟩ := h
    rfl
  · obtain ⟨G, v, pa, π, t, qn, rfl, s0, hv, hpa, hs, q⟩ := h
    have hpaH := same_t s0 hpa
    refine ⟨_, (pss_cons (ps_set (i := 2) sc_node_on.nd rfl (.inl rfl) (xv 0))
      (pss_cons (ps_for PassesOwn.never rfl (pi_tupK K (xv 1)) (pg_name (i := 3) sc_node_on.nd rfl (.inl rfl))
      (pss_one (ps_set (i := 2) sc_node_on.nd rfl (.inl rfl) (pe_ix (ix_k K) (pe_ix (ix_k K) (xv 2) pe_int (fun _ _ => rfl)) (xv 3) (fun _ _ => rfl)))))
      (pss_one (ps_ret (xv 2))))), ?_⟩
    refine ⟨pa, rfl, ⟨_, hpaH⟩, for_tup (xs := π.map nv) (fun i σ H' => ∃ (u : V) (y3 : Option V) (c : Tr), σ = [some v, some (.ref pa), some u, y3] ∧ H' = H ∧ sub t (π.take i) = some c ∧ Dp K G u (toD c)) ⟨v, _, t, rfl, rfl, rfl, hv⟩ (fun i σ H' _ h => ?_) (fun i y σ H' hy h => ?_) (fun σ H' h => ?_)⟩
    · obtain ⟨_, _, _, _, rfl, _⟩ := h
      exact hpaH
    · obtain ⟨u, y3, c, rfl, rfl, hc, hu⟩ := h
      rw [List.getElem?_map] at hy
      obtain ⟨j, hj, rfl⟩ := Option.map_eq_some_iff.mp hy
      obtain ⟨a0, kv, kus, rfl, ha0, hkv, hkus⟩ := node_at hu
      have e1 := (take_pre hj).1
      rw [take_snoc hj]
      have hs2 := hs
      rw [e1] at hs2
      obtain ⟨d, hd⟩ : ∃ d, (kids c)[j]? = some d := by
        have : ∀ {π' : List Nat} {t c : Tr}, sub t π' = some c → ∀ {ρ : List Nat} {x : Tr}, sub t (π' ++ j :: ρ) = some x → ∃ d, (kids c)[j]? = some d := by
          intro π'
          induction π' with
          | nil =>
            intro t c h ρ x h2
            cases h
            obtain ⟨d, hd, _⟩ := sub_ne (show sub t (j :: ρ) = some x from h2)
            exact ⟨d, hd⟩
          | cons k π' ih =>
            intro t c h ρ x h2
            obtain ⟨d, hd, h⟩ := sub_ne h
            rw [List.cons_append, sub_cons hd] at h2
            exact ih h h2
        exact this hc hs2
      have jl := (List.getElem?_eq_some_iff.mp hd).1
      have kl := dpa_len hkus
      rw [List.length_map] at kl
      have hku : kus[j]? = some (kus[j]'(by omega)) := List.getElem?_eq_getElem (by omega)
      obtain ⟨d', hd', hdd⟩ := dpa_get hkus hku
      obtain ⟨c2, hc2, rfl⟩ := map_get hd'
      rw [hd] at hc2
      cases hc2
      exact ⟨_, _, .inr (same_t s0 ha0), atI_nat (j := 2) rfl, _, _, .inr (same_t s0 hkv), atI_nat hku, _, _, d, rfl, rfl, sub_snoc hc hd, hdd⟩
    · obtain ⟨u, y3, c, rfl, rfl, hc, hu⟩ := h
      rw [List.length_map, List.take_length, hs] at hc
      cases hc
      exact q u hu

end
end K19
set_option Elab.async false
set_option linter.all false
set_option maxRecDepth 100000
set_option maxHeartbeats 4000000
namespace K19
open PySem PySem.Spec PyProof.Rows L2 XL
theorem cutV_from (xs : List V) (k : Nat) (h : k ≤ xs.length) : cutV xs (some (k : Int)) none = xs.drop k := by
  unfold cutV
  rw [HT.sIx_nat, HT.sIx_none, Nat.min_eq_left h]
  exact List.take_of_length_le (by rw [List.length_drop]; exact Nat.le_refl _)

section
variable {P : Program} {w : World} {K : PySem.W.Frag} {mg : Str → Option Value} {base : Heap}
/-! ### a node put in at a path -/
theorem cutV_to (xs : List V) (k : Nat) (h : k ≤ xs.length) : cutV xs none (some (k : Int)) = xs.take k := by
  unfold cutV
  rw [HT.sIx_nat, HT.sIx_none, Nat.min_eq_left h, Nat.sub_zero, List.drop_zero]
theorem dpa_setK {K : PySem.W.Frag} {G : Hp} {xs : List V} {ts : List Tr} {v : V} {t : Tr} {k : Nat} (hk : k < ts.length) (h : DpAll K G xs (ts.map toD)) (hv : Dp K G v (toD t)) : DpAll K G (xs.take k ++ [v] ++ xs.drop (k + 1)) ((ts.set k t).map toD) := by
  rw [List.set_eq_take_append_cons_drop, if_pos hk, List.map_append, List.map_cons, List.map_take, List.map_drop, List.append_assoc]
  exact dpa_app (dpa_take k h) (.cons hv (dpa_drop (k + 1) h))
/-- the tree with the last part of the path put in -/
theorem set_step : ∀ {π : List Nat} {t q c u : Tr} {k : Nat}, sub t π = some q → (kids q)[k]? = some c → setAt t (π ++ [k]) u = setAt t π (.node (mrk q) (lbl q) ((kids q).set k u))
  | [], t, q, c, u, k, h, hk => by
    cases h
    rw [List.nil_append, setAt_cons hk]
    rfl
  | j :: π, t, q, c, u, k, h, hk => by
    obtain ⟨d, hd, h⟩ := sub_ne h
    rw [List.cons_append, setAt_cons hd, setAt_cons hd, set_step h hk]
theorem sub_pre2 : ∀ {π : List Nat} {t c : Tr}, sub t π = some c → ∀ i, ∃ d, sub t (π.take i) = some d
  | _, t, _, _, 0 => ⟨t, rfl⟩
  | [], t, c, h, i + 1 => ⟨c, by cases h; rfl⟩
  | k :: π, t, c, h, i + 1 => by
    obtain ⟨d, hd, h⟩ := sub_ne h
    obtain ⟨e, he⟩ := sub_pre2 h i
    exact ⟨e, by rw [List.take_succ_cons, sub_cons hd]; exact he⟩
theorem sub_next {π : List Nat} {t c d : Tr} {i k : Nat} (h : sub t π = some c) (hd : sub t (π.take i) = some d) (hk : π[i]? = some k) : ∃ e, (kids d)[k]? = some e ∧ sub t (π.take (i + 1)) = some e := by
  obtain ⟨e, he⟩ := sub_pre2 h (i + 1)
  rw [take_snoc hk] at he
  obtain ⟨q, h1, h2⟩ := sub_unsnoc he
  rw [hd] at h1
  cases h1
  exact ⟨e, h2, by rw [take_snoc hk]; exact he⟩
def spWith (K : PySem.W.Frag) : Sp := fun vs H Q _ => ∃ (G : Hp) (M : List (Addr × HO)) (v u : V) (pa : Addr) (π : List Nat) (t q s : Tr), vs = [v, .ref pa, u] ∧ Sep G M H ∧ Dp K G v (toD t) ∧ SqT K G pa (π.map nv) ∧ sub t π = some q ∧ Dp K G u (toD s) ∧ (pre t).length ≤ 1000 ∧
  ∀ (x : V) (G' H' : Hp), Same G G' → Dp K G' x (toD (setAt t π s)) → Sep G' M H' → Q x H'
theorem ok_with_node (T : Top K mg w) {k : Nat} : FnOk P w K mg base CX0 (k + 1) T.a_with_node T.d_with_node ["root", "path", "node"] (spWith K) := by
  refine T.F_with_node.ok sc_with_node (fun vs H Q E h => ?_) (fun cdv A outer s H vs Q E hr h => ?_)
  · obtain ⟨G, M, v, u, pa, π, t, q, s, rfl, _⟩ := h
    rfl
  · obtain ⟨G, M, v, u, pa, π, t, qn, sn, rfl, S, hv, hpa, hs, hu, pl, q⟩ := h
    refine ⟨_, (pss_cons (ps_set (i := 3) sc_with_node.nd rfl (.inl rfl) (pe_lst (pa_cons (xv 0) pa_nil)))
      (pss_cons (ps_for PassesOwn.never rfl (pi_tupK K (xv 1)) (pg_name (i := 4) sc_with_node.nd rfl (.inl rfl))
      (pss_one (ps_expr (pe_bmK K PySem.F.plainAttrs_list PySem.F.slot_list_append PySem.F.type_list_append mt_append (xv 3) (pa_cons (pe_ix (ix_k K) (pe_ix (ix_k K) (pe_ix (ix_k K) (xv 3) (pe_op op_subY (pe_callB (cr_lenK K) (by rfl) T.m_len (by decide +kernel) (pa_cons (xv 3) pa_nil)) pe_int) (fun _ _ => rfl)) pe_int (fun _ _ => rfl)) (xv 4) (fun _ _ => rfl)) pa_nil)))))
      (pss_cons (ps_set (i := 5) sc_with_node.nd rfl (.inl rfl) (xv 2))
      (pss_cons (ps_for PassesOwn.never rfl (pi_range3 (by rfl) T.m_range (pa_cons (pe_op op_subY (pe_callB (cr_lenK K) (by rfl) T.m_len (by decide +kernel) (pa_cons (xv 1) pa_nil)) pe_int) (pa_cons (pe_un un_neg pe_int) (pa_cons (pe_un un_neg pe_int) pa_nil)))) (pg_name (i := 6) sc_with_node.nd rfl (.inl rfl))
      (pss_cons (ps_set (i := 7) sc_with_node.nd rfl (.inl rfl) (pe_ix (ix_k K) (xv 3) (xv 6) (fun _ _ => rfl)))
      (pss_cons (ps_set (i := 4) sc_with_node.nd rfl (.inl rfl) (pe_ix (ix_k K) (xv 1) (xv 6) (fun _ _ => rfl)))
      (pss_one (ps_set (i := 5) sc_with_node.nd rfl (.inl rfl) (pe_tup (pa_cons (pe_ix (ix_k K) (xv 7) pe_int (fun _ _ => rfl)) (pa_cons (pe_ix (ix_k K) (xv 7) pe_int (fun _ _ => rfl)) (pa_cons (pe_op (op_catAK K) (pe_op (op_catAK K) (pe_slice (sl_tupAK K) (pe_ix (ix_k K) (xv 7) pe_int (fun _ _ => rfl)) po_none (po_some (xv 4))) (pe_tup (pa_cons (xv 5) pa_nil))) (pe_slice (sl_tupAK K) (pe_ix (ix_k K) (xv 7) pe_int (fun _ _ => rfl)) (po_some (pe_op op_addY (xv 4) pe_int)) po_none)) pa_nil)))))))))
      (pss_one (ps_ret (xv 5))))))), ?_⟩
    refine ⟨sz, fun L nL => ?_⟩
    have S1 := S.new (o := .lst [v]) nL
    have pln : π.length ≤ 1000 := by
      have := sub_lev hs
      have h2 : hgt t ≤ (pre t).length := hgt_pre t
      omega
    have mapl : (π.map nv).length = π.length := List.length_map _
    refine ⟨pa, rfl, ⟨_, S1.t hpa⟩, for_tup (xs := π.map nv) (fun i σ H' => ∃ (y4 : Option V) (ls : List V), σ = [some v, some (.ref pa), some u, some (.ref L), y4, none, none, none] ∧ ls.length = i + 1 ∧ (∀ j, j ≤ i → ∃ x d, ls[j]? = some x ∧ sub t (π.take j) = some d ∧ Dp K G x (toD d)) ∧ Sep G ((L, .lst ls) :: M) H') ⟨_, [v], rfl, rfl, fun j hj => ⟨v, t, by rw [show j = 0 by omega]; rfl, by rw [show j = 0 by omega]; rfl, hv⟩, S1⟩ (fun i σ H' _ h => ?_) (fun i y σ H' hy h => ?_) (fun σ H' h => ?_)⟩
    · obtain ⟨_, _, _, _, _, S'⟩ := h
      exact S'.t hpa
    · obtain ⟨y4, ls, rfl, ll, hls, S2⟩ := h
      rw [List.getElem?_map] at hy
      obtain ⟨j, hj, rfl⟩ := Option.map_eq_some_iff.mp hy
      obtain ⟨x, d, hx, hd, hxd⟩ := hls i (Nat.le_refl _)
      obtain ⟨e, he1, he2⟩ := sub_next hs hd hj
      obtain ⟨a0, kv, kus, rfl, ha0, hkv, hkus⟩ := node_at hxd
      have jl := (List.getElem?_eq_some_iff.mp he1).1
      have il := (List.getElem?_eq_some_iff.mp hj).1
      have kl := dpa_len hkus
      rw [List.length_map] at kl
      have hku : kus[j]? = some (kus[j]'(by omega)) := List.getElem?_eq_getElem (by omega)
      obtain ⟨d', hd', hdd⟩ := dpa_get hkus hku
      obtain ⟨c2, hc2, rfl⟩ := map_get hd'
      rw [he1] at hc2
      cases hc2
      have el : ((ls.length : Nat) : Int) - 1 = ((i : Nat) : Int) := by omega
      refine ⟨.inl ⟨rfl, _, SqL.of S2.hd⟩, _, .inl (SqL.of S2.hd), _, .ref a0, .inl (SqL.of S2.hd), by rw [el]; exact atI_nat hx, _, _, .inr (S2.t ha0), atI_nat (j := 2) rfl, _, _, .inr (S2.t hkv), atI_nat hku, L, ls, _, rfl, rfl, S2.hd, smallL (by omega), ?_⟩
      refine ⟨_, ls ++ [kus[j]'(by omega)], rfl, by rw [List.length_append, ll]; rfl, fun j' hj' => ?_, S2.set⟩
      by_cases ej : j' = i + 1
      · subst ej
        exact ⟨_, e, by rw [List.getElem?_append_right (by omega), ll, Nat.sub_self]; rfl, he2, hdd⟩
      · obtain ⟨x, d, h1, h2, h3⟩ := hls j' (by omega)
        exact ⟨x, d, by rw [List.getElem?_append_left (by omega)]; exact h1, h2, h3⟩
    · obtain ⟨y4, ls, rfl, ll, hls, S2⟩ := h
      rw [mapl] at ll hls
      refine ⟨_, .inr (S2.t hpa), ?_⟩
      rw [mapl]
      refine ⟨1, rfl, 1, rfl, _, _, _, π.length, rfl, ?_, for_rangeC (lo := (π.length : Int) - 1) (c := -1) (n := π.length) (fun i σ H' => ∃ (y4 y6 y7 : Option V) (x : V) (g : Tr) (G' : Hp), σ = [some v, some (.ref pa), some u, some (.ref L), y4, some x, y6, y7] ∧ Same G G' ∧ Dp K G' x (toD g) ∧ setAt t (π.take (π.length - i)) g = setAt t π sn ∧ Sep G' ((L, .lst ls) :: M) H') ⟨_, _, _, u, sn, G, rfl, Same.refl _, hu, by rw [Nat.sub_zero, List.take_length], S2⟩ (fun i σ H' hi h => ?_) (fun σ H' h => ?_)⟩
      · have := RgC.neg (i := (π.length : Int) - 1) (j := -1) (by omega) (by omega) (by omega) (by omega)
        have e : ((π.length : Int) - 1 - -1).toNat = π.length := by omega
        rw [e] at this
        exact this
      · obtain ⟨y4, y6, y7, x, g, G3, rfl, s3, hx, hg, S3⟩ := h
        have ek : (π.length : Int) - 1 + (i : Nat) * (-1) = ((π.length - 1 - i : Nat) : Int) := by omega
        rw [ek]
        generalize edd : π.length - 1 - i = dd at *
        have dl : dd < π.length := by omega
        have hπ : π[dd]? = some π[dd] := List.getElem?_eq_getElem dl
        obtain ⟨y, d, hy, hd, hyd⟩ := hls dd (by omega)
        obtain ⟨e, he1, he2⟩ := sub_next hs hd hπ
        obtain ⟨a0, kv, kus, rfl, ha0, hkv, hkus⟩ := node_at (dp_same s3 hyd)
        have jl := (List.getElem?_eq_some_iff.mp he1).1
        have kl := dpa_len hkus
        rw [List.length_map] at kl
        have e1 : π.length - i = dd + 1 := by omega
        have e2 : π.length - (i + 1) = dd := by omega
        rw [e1, take_snoc hπ, set_step hd he1] at hg
        have dmem : d ∈ pre t := sub_mem hd
        have kml := many_le (kids d)
        have ksl := sub_len dmem
        refine ⟨_, _, .inl (SqL.of S3.hd), atI_nat hy, _, _, .inr (S3.t (same_t s3 hpa)), atI_nat (nv_get hπ), _, _, .inr (S3.t ha0), atI_nat (j := 0) rfl, _, _, .inr (S3.t ha0), atI_nat (j := 1) rfl, _, _, .inr (S3.t ha0), atI_nat (j := 2) rfl, _, rfl, ?_⟩
        refine cutA_ok S3 hkv fun c4 G4 H4 s4 hc4 S4 => ⟨sz, fun p5 np5 => ?_⟩
        rw [cutV_to _ _ (by omega)] at hc4
        obtain ⟨G5, s5, S5, h5⟩ := Sep.mk (o := .tup [x]) S4 np5
        refine cat_ok S5 (same_t s5 hc4) (SqT.of h5) (small (by rw [List.length_take]; simp only [List.length_singleton]; omega)) fun c6 G6 H6 s6 hc6 S6 => ?_
        have s36 := s4.trans (s5.trans s6)
        refine ⟨_, _, .inr (S6.t (same_t s36 ha0)), atI_nat (j := 2) rfl, _, rfl, ?_⟩
        unfold tNoPart
        refine cutA_ok S6 (same_t s36 hkv) fun c7 G7 H7 s7 hc7 S7 => ?_
        have e3 : ((π[dd] : Nat) : Int) + 1 = ((π[dd] + 1 : Nat) : Int) := by omega
        rw [e3, cutV_from _ _ (by omega)] at hc7
        refine cat_ok S7 (same_t s7 hc6) hc7 (small (by rw [List.length_append, List.length_take, List.length_drop]; simp only [List.length_singleton]; omega)) fun c8 G8 H8 s8 hc8 S8 => ⟨sz, fun p9 np9 => ?_⟩
        obtain ⟨G9, s9, S9, h9⟩ := Sep.mk (o := .tup [.str (mrk d), .str (lbl d), .ref c8]) S8 np9
        have s39 := s36.trans (s7.trans (s8.trans s9))
        refine ⟨_, _, _, .ref p9, .node (mrk d) (lbl d) ((kids d).set π[dd] g), G9, rfl, s3.trans s39, ?_, by rw [e2]; exact hg, S9⟩
        simp only [toD, toDs_eq]
        exact .tup (SqT.of h9) (.cons (.str _) (.cons (.str _) (.cons (.tup (same_t s9 hc8) (dpa_setK jl (dpa_same s39 hkus) (dp_same s39 hx))) .nil)))
      · obtain ⟨y4, y6, y7, x, g, G3, rfl, s3, hx, hg, S3⟩ := h
        rw [Nat.sub_self, List.take_zero] at hg
        rw [show setAt t [] g = g from rfl] at hg
        rw [hg] at hx
        exact q x G3 _ s3 hx S3.drop
def spWithC (K : PySem.W.Frag) : Sp := fun vs H Q _ => ∃ (G : Hp) (M : List (Addr × HO)) (v : V) (pa ca : Addr) (us : List V) (π : List Nat) (t q : Tr) (ks : List Tr), vs = [v, .ref pa, .ref ca] ∧ Sep G M H ∧ Dp K G v (toD t) ∧ SqT K G pa (π.map nv) ∧ sub t π = some q ∧ SqT K G ca us ∧ DpAll K G us (ks.map toD) ∧ (pre t).length ≤ 1000 ∧
  ∀ (x : V) (G' H' : Hp), Same G G' → Dp K G' x (toD (setAt t π (.node (mrk q) (lbl q) ks))) → Sep G' M H' → Q x H'
theorem ok_with_children (T : Top K mg w) {k : Nat} (G_node_on : FnOk P w K mg base CX0 k T.a_node_on T.d_node_on ["root", "path"] (spNodeOn K)) (G_with_node : FnOk P w K mg base CX0 k T.a_with_node T.d_with_node ["root", "path", "node"] (spWith K)) : FnOk P w K mg base CX0 (k + 1) T.a_with_children T.d_with_children ["root", "path", "children"] (spWithC K) := by
  refine T.F_with_children.ok sc_with_children (fun vs H Q E h => ?_) (fun cdv A outer s H vs Q E hr h => ?_)
  · obtain ⟨G, M, v, pa, ca, us, π, t, q, ks, rfl, _⟩ := h
    rfl
  · obtain ⟨G, M, v, pa, ca, us, π, t, qn, ks, rfl, S, hv, hpa, hs, hca, hus, pl, q⟩ := h
    refine ⟨_, (pss_cons (ps_set (i := 3) sc_with_children.nd rfl (.inl rfl) (pe_call G_node_on (hr.mono (by omega)) (by rfl) T.g_node_on T.F_node_on.kp T.b_node_on .nil pass0 (pa_cons (xv 0) (pa_cons (xv 1) pa_nil))))
      (pss_one (ps_ret (pe_call G_with_node (hr.mono (by omega)) (by rfl) T.g_with_node T.F_with_node.kp T.b_with_node .nil pass0 (pa_cons (xv 0) (pa_cons (xv 1) (pa_cons (pe_tup (pa_cons (pe_ix (ix_k K) (xv 3) pe_int (fun _ _ => rfl)) (pa_cons (pe_ix (ix_k K) (xv 3) pe_int (fun _ _ => rfl)) (pa_cons (xv 2) pa_nil)))) pa_nil))))))), ?_⟩
    refine ⟨G, v, pa, π, t, qn, rfl, S.1, hv, hpa, hs, fun u hu => ?_⟩
    obtain ⟨a0, kv, kus, rfl, ha0, _, _⟩ := node_at hu
    refine ⟨_, _, .inr (S.t ha0), atI_nat (j := 0) rfl, _, _, .inr (S.t ha0), atI_nat (j := 1) rfl, sz, fun p np => ?_⟩
    obtain ⟨G1, s1, S1, h1⟩ := Sep.mk (o := .tup [.str (mrk qn), .str (lbl qn), .ref ca]) S np
    refine ⟨G1, M, v, .ref p, pa, π, t, qn, .node (mrk qn) (lbl qn) ks, rfl, S1, dp_same s1 hv, same_t s1 hpa, hs, ?_, pl, fun x G2 H2 s2 hx S2 => q x G2 H2 (s1.trans s2) hx S2⟩
    simp only [toD, toDs_eq]
    exact .tup (SqT.of h1) (.cons (.str _) (.cons (.str _) (.cons (.tup (same_t s1 hca) (dpa_same s1 hus)) .nil)))
/-! ### marks of a node that is put -/
def spOrd (K : PySem.W.Frag) : Sp := fun vs H Q _ => ∃ (G : Hp) (M : List (Addr × HO)) (v : V) (t : Tr), vs = [v] ∧ Sep G M H ∧ Dp K G v (toD t) ∧ (pre t).length ≤ 1000 ∧
  ∀ (l : Addr) (G' H' : Hp), Same G G' → G' l = some (.lst (((pre t).map mrk).map V.str)) → Sep G' M H' → Q (.ref l) H'
theorem ok_order_of (T : Top K mg w) {k : Nat} (G_nodes_of : FnOk P w K mg base CX0 k T.a_nodes_of T.d_nodes_of ["root"] (spNodes K)) : FnOk P w K mg base CX0 (k + 1) T.a_order_of T.d_order_of ["root"] (spOrd K) := by
  refine T.F_order_of.ok sc_order_of (fun vs H Q E h => ?_) (fun cdv A outer s H vs Q E hr h => ?_)
  · obtain ⟨G, M, v, t, rfl, _⟩ := h
    rfl
  · obtain ⟨G, M, v, t, rfl, S, hv, pl, q⟩ := h
    refine ⟨_, (pss_one (ps_ret (pe_lc (own := [("piece", 1)]) (by rfl) sc_order_of.nd (pi_listK K (pe_call G_nodes_of (hr.mono (by omega)) (by rfl) T.g_nodes_of T.F_nodes_of.kp T.b_nodes_of .nil pass0 (pa_cons (xv 0) pa_nil))) (blkOk_by (N := ["root", "piece"]) (sc := defScope s_order_of) (by decide +kernel)) (fun _ _ _ _ _ => (pg_name (i := 1) sc_order_of.nd rfl (.inl rfl))) (fun _ _ _ _ _ => pts_nil) (fun _ _ _ _ _ => (pe_ix (ix_k K) (xv 1) pe_int (fun _ _ => rfl)))))), ?_⟩
    refine ⟨G, M, v, t, rfl, S, hv, by omega, fun l us G1 H1 s1 hl hus S1 => ⟨l, rfl, ⟨_, SqL.of (S1.st hl)⟩, fun D nD => lc_at (xs := us) (fun i H' => Sep G1 ((D, .lst ((((pre t).map mrk).take i).map V.str)) :: M) H') (S1.new nD) (fun i H' p => SqL.of (p.st hl)) (fun _ => rfl) (fun i x H' hx p => ?_) (fun H' p => ?_)⟩⟩
    · obtain ⟨d, hd, hxd⟩ := dpa_get hus hx
      obtain ⟨c, hc, rfl⟩ := map_get hd
      obtain ⟨a0, kv, kus, rfl, ha0, hkv, hkus⟩ := node_at hxd
      have hm : ((pre t).map mrk)[i]? = some (mrk c) := by rw [List.getElem?_map, hc]; rfl
      have il := (List.getElem?_eq_some_iff.mp hm).1
      rw [List.length_map] at il
      refine ⟨_, _, .inr (p.t ha0), atI_nat (j := 0) rfl, _, p.hd, by rw [List.length_map, List.length_take, List.length_map]; exact smallL (by omega), ?_⟩
      rw [take_snoc hm, List.map_append]
      exact p.set
    · have ul := dpa_len hus
      rw [List.length_map] at ul
      rw [ul, List.take_of_length_le (by rw [List.length_map]; exact Nat.le_refl _)] at p
      exact q D _ _ (s1.trans p.frzS) upd_same p.frz
def spCkM (K : PySem.W.Frag) : Sp := fun vs H Q _ => ∃ (G : Hp) (M : List (Addr × HO)) (v u : V) (t s : Tr), vs = [v, u] ∧ Sep G M H ∧ Dp K G v (toD t) ∧ Dp K G u (toD s) ∧ ((pre t).map mrk ++ (pre s).map mrk).Nodup ∧ (pre t).length + (pre s).length ≤ 400 ∧
  ∀ (G' H' : Hp), Same G G' → Sep G' M H' → Q .non H'
theorem ok_check_marks (T : Top K mg w) {k : Nat} (G_order_of : FnOk P w K mg base CX0 k T.a_order_of T.d_order_of ["root"] (spOrd K)) : FnOk P w K mg base CX0 (k + 1) T.a_check_marks T.d_check_marks ["root", "node"] (spCkM K) := by
  refine T.F_check_marks.ok sc_check_marks (fun vs H Q E h => ?_) (fun cdv A outer s H vs Q E hr h => ?_)
  · obtain ⟨G, M, v, u, t, s, rfl, _⟩ := h
    rfl
  · obtain ⟨G, M, v, u, t, sn, rfl, S, hv, hu, nd, pl, q⟩ := h
    refine ⟨_, (pss_cons (ps_set (i := 2) sc_check_marks.nd rfl (.inl rfl) pe_dnewK)
      (pss_cons (ps_for PassesOwn.never rfl (pi_listK K (pe_call G_order_of (hr.mono (by omega)) (by rfl) T.g_order_of T.F_order_of.kp T.b_order_of .nil pass0 (pa_cons (xv 0) pa_nil))) (pg_name (i := 3) sc_check_marks.nd rfl (.inl rfl))
      (pss_one (ps_dput (hu_of hr) (xv 2) (xv 3) pe_bl rfl)))
      (pss_cons (ps_for PassesOwn.never rfl (pi_listK K (pe_call G_order_of (hr.mono (by omega)) (by rfl) T.g_order_of T.F_order_of.kp T.b_order_of .nil pass0 (pa_cons (xv 1) pa_nil))) (pg_name (i := 3) sc_check_marks.nd rfl (.inl rfl))
      (pss_cons (xs_if (pt_cmp (pc_din (hu_of hr) (xv 3) (xv 2)))
      (pss_one ps_never)
      pss_nil)
      (pss_one (ps_dput (hu_of hr) (xv 2) (xv 3) pe_bl rfl))))
      (pss_one (xs_if (xt_cmp op_gtY (pe_callB call_lenD (by rfl) T.m_len (by decide +kernel) (pa_cons (xv 2) pa_nil)) (xe_globI (by rfl) T.v_MOST_NODES) (nomark _))
      (pss_one ps_never)
      pss_nil))))), ?_⟩
    refine fun D nD => ?_
    have S1 := S.new (o := .dK []) nD
    refine ⟨G, _, v, t, rfl, S1, hv, by omega, fun l G1 H1 s1 hl S2 => ?_⟩
    have dk : ∀ {zs : List Str} {m : Str} {kvs : List (Key × V)}, kvs.map (·.1) = zs.map (fun m => (Sum.inr m : Key)) → m ∉ zs → valV kvs (Sum.inr m) = none := fun hk hm => valV_none (by
      rw [hk]
      intro hm2
      obtain ⟨m', hm1, hm3⟩ := List.mem_map.mp hm2
      cases hm3
      exact hm hm1)
    have dl : ∀ {zs : List Str} {kvs : List (Key × V)}, kvs.map (·.1) = zs.map (fun m => (Sum.inr m : Key)) → kvs.length = zs.length := fun hk => by
      have := congrArg List.length hk
      rw [List.length_map, List.length_map] at this
      exact this
    have nd1 := (List.nodup_append.mp nd)
    refine ⟨l, rfl, ⟨_, SqL.of (S2.st hl)⟩, for_list (xs := ((pre t).map mrk).map V.str) (fun i σ H' => ∃ (y3 : Option V) (kvs : List (Key × V)), σ = [some v, some u, some (.ref D), y3] ∧ kvs.map (·.1) = (((pre t).map mrk).take i).map (fun m => (Sum.inr m : Key)) ∧ Sep G1 ((D, .dK kvs) :: M) H') ⟨_, [], rfl, rfl, S2⟩ (fun i σ H' _ h => ?_) (fun i x σ H' hx h => ?_) (fun σ H' h => ?_)⟩
    · obtain ⟨_, _, _, _, S'⟩ := h
      exact SqL.of (S'.st hl)
    · obtain ⟨y3, kvs, rfl, hk, S3⟩ := h
      rw [List.getElem?_map] at hx
      obtain ⟨m, hm, rfl⟩ := Option.map_eq_some_iff.mp hx
      have il := (List.getElem?_eq_some_iff.mp hm).1
      rw [List.length_map] at il
      have kl := dl hk
      rw [List.length_take] at kl
      have hno : m ∉ ((pre t).map mrk).take i := by
        intro hin
        have e := (take_pre hm).1
        have n2 := nd1.1
        rw [e, List.nodup_append] at n2
        exact n2.2.2 m hin m List.mem_cons_self rfl
      refine ⟨D, _, rfl, DPut.k (k := Sum.inr m) S3.hd (smallL (by omega)), ?_⟩
      rw [putK_new (dk hk hno)]
      refine ⟨_, _, rfl, ?_, S3.set⟩
      rw [take_snoc hm, List.map_append, List.map_append, hk]
      rfl
    · obtain ⟨y3, kvs, rfl, hk, S3⟩ := h
      rw [List.length_map, List.take_length] at hk
      refine ⟨G1, _, u, sn, rfl, S3, dp_same s1 hu, by omega, fun l2 G4 H4 s4 hl2 S4 => ?_⟩
      refine ⟨l2, rfl, ⟨_, SqL.of (S4.st hl2)⟩, for_list (xs := ((pre sn).map mrk).map V.str) (fun i σ H' => ∃ (y3 : Option V) (kvs : List (Key × V)), σ = [some v, some u, some (.ref D), y3] ∧ kvs.map (·.1) = ((pre t).map mrk ++ ((pre sn).map mrk).take i).map (fun m => (Sum.inr m : Key)) ∧ Sep G4 ((D, .dK kvs) :: M) H') ⟨_, kvs, rfl, by rw [List.take_zero, List.append_nil]; exact hk, S4⟩ (fun i σ H' _ h => ?_) (fun i x σ H' hx h => ?_) (fun σ H' h => ?_)⟩
      · obtain ⟨_, _, _, _, S'⟩ := h
        exact SqL.of (S'.st hl2)
      · obtain ⟨y3, kvs, rfl, hk, S3⟩ := h
        rw [List.getElem?_map] at hx
        obtain ⟨m, hm, rfl⟩ := Option.map_eq_some_iff.mp hx
        have il := (List.getElem?_eq_some_iff.mp hm).1
        rw [List.length_map] at il
        have kl := dl hk
        rw [List.length_append, List.length_map, List.length_take] at kl
        have hno : m ∉ (pre t).map mrk ++ ((pre sn).map mrk).take i := by
          intro hin
          have e := (take_pre hm).1
          rcases List.mem_append.mp hin with h | h
          · exact nd1.2.2 m h m (List.mem_of_getElem? hm) rfl
          · have n2 := nd1.2.1
            rw [e, List.nodup_append] at n2
            exact n2.2.2 m h m List.mem_cons_self rfl
        refine ⟨D, _, rfl, DGet.k (k := Sum.inr m) S3.hd, _, rfl, ?_⟩
        rw [dk hk hno]
        refine ⟨ff, fun _ => ⟨D, _, rfl, DPut.k (k := Sum.inr m) S3.hd (smallL (by omega)), ?_⟩⟩
        rw [putK_new (dk hk hno)]
        refine ⟨_, _, rfl, ?_, S3.set⟩
        rw [take_snoc hm, ← List.append_assoc, List.map_append, List.map_append, hk]
        rfl
      · obtain ⟨y3, kvs, rfl, hk, S3⟩ := h
        rw [List.length_map, List.take_length] at hk
        have kl := dl hk
        rw [List.length_append, List.length_map, List.length_map] at kl
        refine ⟨D, kvs, rfl, S3.hd, fun e => ?_, fun _ => q G4 _ (s1.trans s4) S3.drop⟩
        have := of_decide_eq_true e
        omega

end
end K19
set_option Elab.async false
set_option linter.all false
set_option maxRecDepth 100000
set_option maxHeartbeats 4000000
namespace K19
open PySem PySem.Spec PyProof.Rows L2 XL
section
variable {P : Program} {w : World} {K : PySem.W.Frag} {mg : Str → Option Value} {base : Heap}
/-! ### one patch -/
theorem cutV_last (xs : List V) (y : V) : cutV (xs ++ [y]) none (some (-1)) = xs := by
  unfold cutV
  have e : HT.sIx (xs ++ [y]).length (xs ++ [y]).length (some (-1)) = xs.length := by
    unfold HT.sIx
    simp only [List.length_append, List.length_singleton]
    split <;> omega
  rw [e, HT.sIx_none, Nat.sub_zero, List.drop_zero, List.take_left']
  rfl
def Res (K : PySem.W.Frag) (G : Hp) (r : Addr) (t : Tr) (p : Pt) : Prop := ∃ x y, G r = some (.tup [x, y]) ∧ Dp K G x (toD t) ∧ Dp K G y (ptD p)
def spPut (K : PySem.W.Frag) : Sp := fun vs H Q _ => ∃ (G : Hp) (M : List (Addr × HO)) (v u : V) (pa : Addr) (π : List Nat) (t q s : Tr) (m : Str) (i : Nat), vs = [v, .ref pa, u] ∧ Sep G M H ∧ Dp K G v (toD t) ∧ SqT K G pa (π.map nv) ∧ sub t π = some q ∧ Dp K G u (ptD (.put m i s)) ∧ i ≤ (kids q).length ∧
  ((pre t).map mrk ++ (pre s).map mrk).Nodup ∧ (pre t).length + (pre s).length ≤ 400 ∧ ∀ (r : Addr) (G' H' : Hp), Same G G' → Res K G' r (setAt t π (.node (mrk q) (lbl q) (insT (kids q) i s))) (.drop (mrk s)) → Sep G' M H' → Q (.ref r) H'
theorem ok_with_put (T : Top K mg w) {k : Nat} (G_node_on : FnOk P w K mg base CX0 k T.a_node_on T.d_node_on ["root", "path"] (spNodeOn K)) (G_with_children : FnOk P w K mg base CX0 k T.a_with_children T.d_with_children ["root", "path", "children"] (spWithC K))
    (G_check_at : FnOk P w K mg base CX0 k T.a_check_at T.d_check_at ["at", "count"] spAt) (G_check_marks : FnOk P w K mg base CX0 k T.a_check_marks T.d_check_marks ["root", "node"] (spCkM K)) : FnOk P w K mg base CX0 (k + 1) T.a_with_put T.d_with_put ["root", "path", "patch"] (spPut K) := by
  refine T.F_with_put.ok sc_with_put (fun vs H Q E h => ?_) (fun cdv A outer s H vs Q E hr h => ?_)
  · obtain ⟨G, M, v, u, pa, π, t, q, s, m, i, rfl, _⟩ := h
    rfl
  · obtain ⟨G, M, v, u, pa, π, t, qn, sn, m, i, rfl, S, hv, hpa, hs, hu, hi, nd, pl, q⟩ := h
    refine ⟨_, (pss_cons (ps_set (i := 3) sc_with_put.nd rfl (.inl rfl) (pe_ix (ix_k K) (pe_call G_node_on (hr.mono (by omega)) (by rfl) T.g_node_on T.F_node_on.kp T.b_node_on .nil pass0 (pa_cons (xv 0) (pa_cons (xv 1) pa_nil))) pe_int (fun _ _ => rfl)))
      (pss_cons (ps_set (i := 4) sc_with_put.nd rfl (.inl rfl) (pe_ix (ix_k K) (xv 2) pe_int (fun _ _ => rfl)))
      (pss_cons (ps_expr (pe_call G_check_at (hr.mono (by omega)) (by rfl) T.g_check_at T.F_check_at.kp T.b_check_at .nil pass0 (pa_cons (xv 4) (pa_cons (pe_callB (cr_lenK K) (by rfl) T.m_len (by decide +kernel) (pa_cons (xv 3) pa_nil)) pa_nil))))
      (pss_cons (ps_expr (pe_call G_check_marks (hr.mono (by omega)) (by rfl) T.g_check_marks T.F_check_marks.kp T.b_check_marks .nil pass0 (pa_cons (xv 0) (pa_cons (pe_ix (ix_k K) (xv 2) pe_int (fun _ _ => rfl)) pa_nil))))
      (pss_one (ps_ret (pe_tup (pa_cons (pe_call G_with_children (hr.mono (by omega)) (by rfl) T.g_with_children T.F_with_children.kp T.b_with_children .nil pass0 (pa_cons (xv 0) (pa_cons (xv 1) (pa_cons (pe_op (op_catAK K) (pe_op (op_catAK K) (pe_slice (sl_tupAK K) (xv 3) po_none (po_some (xv 4))) (pe_tup (pa_cons (pe_ix (ix_k K) (xv 2) pe_int (fun _ _ => rfl)) pa_nil))) (pe_slice (sl_tupAK K) (xv 3) (po_some (xv 4)) po_none)) pa_nil)))) (pa_cons (pe_tup (pa_cons pe_str (pa_cons (pe_ix (ix_k K) (pe_ix (ix_k K) (xv 2) pe_int (fun _ _ => rfl)) pe_int (fun _ _ => rfl)) pa_nil))) pa_nil))))))))), ?_⟩
    refine ⟨G, v, pa, π, t, qn, rfl, S.1, hv, hpa, hs, fun w1 hw1 => ?_⟩
    obtain ⟨a0, kv, kus, rfl, ha0, hkv, hkus⟩ := node_at hw1
    obtain ⟨b, ws, rfl, hb, hws⟩ := pt_at hu
    obtain ⟨x1, r1, rfl, h3, h4⟩ := dpa_cons hws
    obtain ⟨x2, r2, rfl, h5, h6⟩ := dpa_cons h4
    obtain rfl := dp_int h3
    have hsn := h5
    obtain ⟨sa, skv, skus, rfl, hsa, _, _⟩ := id (node_at h5)
    have kl := dpa_len hkus
    rw [List.length_map] at kl
    have qm : qn ∈ pre t := sub_mem hs
    have kml := many_le (kids qn)
    have ksl := sub_len qm
    refine ⟨_, _, .inr (S.t ha0), atI_nat (j := 2) rfl, _, _, .inr (S.t hb), atI_nat (j := 2) rfl, _, .inr (S.t hkv), i, kus.length, rfl, by omega, ?_⟩
    refine ⟨_, _, .inr (S.t hb), atI_nat (j := 3) rfl, G, M, v, _, t, sn, rfl, S, hv, hsn, nd, pl, fun G1 H1 s1 S1 => ?_⟩
    refine ⟨_, rfl, cutA_ok S1 (same_t s1 hkv) fun c2 G2 H2 s2 hc2 S2 => ?_⟩
    rw [cutV_to _ _ (by omega)] at hc2
    have s02 := s1.trans s2
    refine ⟨_, _, .inr (S2.t (same_t s02 hb)), atI_nat (j := 3) rfl, sz, fun p3 np3 => ?_⟩
    obtain ⟨G3, s3, S3, h3⟩ := Sep.mk (o := .tup [.ref sa]) S2 np3
    refine cat_ok S3 (same_t s3 hc2) (SqT.of h3) (small (by rw [List.length_take]; simp only [List.length_singleton]; omega)) fun c4 G4 H4 s4 hc4 S4 => ⟨_, rfl, ?_⟩
    have s04 := s02.trans (s3.trans s4)
    unfold tNoPart
    refine cutA_ok S4 (same_t s04 hkv) fun c5 G5 H5 s5 hc5 S5 => ?_
    rw [cutV_from _ _ (by omega)] at hc5
    refine cat_ok S5 (same_t s5 hc4) hc5 (small (by rw [List.length_append, List.length_take, List.length_drop]; simp only [List.length_singleton]; omega)) fun c6 G6 H6 s6 hc6 S6 => ?_
    have s06 := s04.trans (s5.trans s6)
    have hus : DpAll K G6 (kus.take i ++ [.ref sa] ++ kus.drop i) ((insT (kids qn) i sn).map toD) := dpa_ins (dpa_same s06 hkus) (dp_same s06 hsn) i
    refine ⟨G6, M, v, pa, c6, _, π, t, qn, insT (kids qn) i sn, rfl, S6, dp_same s06 hv, same_t s06 hpa, hs, hc6, hus, by omega, fun x G7 H7 s7 hx S7 => ?_⟩
    have s07 := s06.trans s7
    refine ⟨_, _, .inr (S7.t (same_t s07 hb)), atI_nat (j := 3) rfl, _, _, .inr (S7.t (same_t s07 hsa)), atI_nat (j := 0) rfl, sz, fun p8 np8 => ⟨sz, fun p9 np9 => ?_⟩⟩
    obtain ⟨G8, s8, S8, h8⟩ := Sep.mk (o := .tup [.str "drop", .str (mrk sn)]) S7 np8
    obtain ⟨G9, s9, S9, h9⟩ := Sep.mk (o := .tup [x, .ref p8]) S8 np9
    exact q p9 G9 _ (s07.trans (s8.trans s9)) ⟨x, .ref p8, h9, dp_same (s8.trans s9) hx, .tup (SqT.of (s9 _ _ h8)) (.cons (.str _) (.cons (.str _) .nil))⟩ S9
def spSay (K : PySem.W.Frag) : Sp := fun vs H Q _ => ∃ (G : Hp) (M : List (Addr × HO)) (v u : V) (pa : Addr) (π : List Nat) (t q : Tr) (m l : Str), vs = [v, .ref pa, u] ∧ Sep G M H ∧ Dp K G v (toD t) ∧ SqT K G pa (π.map nv) ∧ sub t π = some q ∧ Dp K G u (ptD (.say m l)) ∧ (pre t).length ≤ 1000 ∧
  ∀ (r : Addr) (G' H' : Hp), Same G G' → Res K G' r (setAt t π (.node (mrk q) l (kids q))) (.say m (lbl q)) → Sep G' M H' → Q (.ref r) H'
theorem ok_with_say (T : Top K mg w) {k : Nat} (G_node_on : FnOk P w K mg base CX0 k T.a_node_on T.d_node_on ["root", "path"] (spNodeOn K)) (G_with_node : FnOk P w K mg base CX0 k T.a_with_node T.d_with_node ["root", "path", "node"] (spWith K)) : FnOk P w K mg base CX0 (k + 1) T.a_with_say T.d_with_say ["root", "path", "patch"] (spSay K) := by
  refine T.F_with_say.ok sc_with_say (fun vs H Q E h => ?_) (fun cdv A outer s H vs Q E hr h => ?_)
  · obtain ⟨G, M, v, u, pa, π, t, q, m, l, rfl, _⟩ := h
    rfl
  · obtain ⟨G, M, v, u, pa, π, t, qn, m, l, rfl, S, hv, hpa, hs, hu, pl, q⟩ := h
    refine ⟨_, (pss_cons (ps_set (i := 3) sc_with_say.nd rfl (.inl rfl) (pe_call G_node_on (hr.mono (by omega)) (by rfl) T.g_node_on T.F_node_on.kp T.b_node_on .nil pass0 (pa_cons (xv 0) (pa_cons (xv 1) pa_nil))))
      (pss_one (ps_ret (pe_tup (pa_cons (pe_call G_with_node (hr.mono (by omega)) (by rfl) T.g_with_node T.F_with_node.kp T.b_with_node .nil pass0 (pa_cons (xv 0) (pa_cons (xv 1) (pa_cons (pe_tup (pa_cons (pe_ix (ix_k K) (xv 3) pe_int (fun _ _ => rfl)) (pa_cons (pe_ix (ix_k K) (xv 2) pe_int (fun _ _ => rfl)) (pa_cons (pe_ix (ix_k K) (xv 3) pe_int (fun _ _ => rfl)) pa_nil)))) pa_nil)))) (pa_cons (pe_tup (pa_cons pe_str (pa_cons (pe_ix (ix_k K) (xv 2) pe_int (fun _ _ => rfl)) (pa_cons (pe_ix (ix_k K) (xv 3) pe_int (fun _ _ => rfl)) pa_nil)))) pa_nil)))))), ?_⟩
    refine ⟨G, v, pa, π, t, qn, rfl, S.1, hv, hpa, hs, fun w1 hw1 => ?_⟩
    obtain ⟨a0, kv, kus, rfl, ha0, hkv, hkus⟩ := node_at hw1
    obtain ⟨b, ws, rfl, hb, hws⟩ := pt_at hu
    obtain ⟨x1, r1, rfl, h3, h4⟩ := dpa_cons hws
    obtain rfl := dp_str h3
    refine ⟨_, _, .inr (S.t ha0), atI_nat (j := 0) rfl, _, _, .inr (S.t hb), atI_nat (j := 2) rfl, _, _, .inr (S.t ha0), atI_nat (j := 2) rfl, sz, fun p1 np1 => ?_⟩
    obtain ⟨G1, s1, S1, h1⟩ := Sep.mk (o := .tup [.str (mrk qn), .str l, .ref kv]) S np1
    have hn : Dp K G1 (.ref p1) (toD (.node (mrk qn) l (kids qn))) := by
      simp only [toD, toDs_eq]
      exact .tup (SqT.of h1) (.cons (.str _) (.cons (.str _) (.cons (.tup (same_t s1 hkv) (dpa_same s1 hkus)) .nil)))
    refine ⟨G1, M, v, .ref p1, pa, π, t, qn, .node (mrk qn) l (kids qn), rfl, S1, dp_same s1 hv, same_t s1 hpa, hs, hn, pl, fun x G7 H7 s7 hx S7 => ?_⟩
    have s07 := s1.trans s7
    refine ⟨_, _, .inr (S7.t (same_t s07 hb)), atI_nat (j := 1) rfl, _, _, .inr (S7.t (same_t s07 ha0)), atI_nat (j := 1) rfl, sz, fun p8 np8 => ⟨sz, fun p9 np9 => ?_⟩⟩
    obtain ⟨G8, s8, S8, h8⟩ := Sep.mk (o := .tup [.str "say", .str m, .str (lbl qn)]) S7 np8
    obtain ⟨G9, s9, S9, h9⟩ := Sep.mk (o := .tup [x, .ref p8]) S8 np9
    exact q p9 G9 _ (s07.trans (s8.trans s9)) ⟨x, .ref p8, h9, dp_same (s8.trans s9) hx, .tup (SqT.of (s9 _ _ h8)) (.cons (.str _) (.cons (.str _) (.cons (.str _) .nil)))⟩ S9
theorem take_drop_erase {α : Type} (xs : List α) (k : Nat) : xs.take k ++ xs.drop (k + 1) = xs.eraseIdx k := (List.eraseIdx_eq_take_drop_succ ..).symm
def spDrp (K : PySem.W.Frag) : Sp := fun vs H Q _ => ∃ (G : Hp) (M : List (Addr × HO)) (v : V) (pa : Addr) (ρ : List Nat) (k : Nat) (t q c : Tr), vs = [v, .ref pa] ∧ Sep G M H ∧ Dp K G v (toD t) ∧ SqT K G pa ((ρ ++ [k]).map nv) ∧ sub t ρ = some q ∧ (kids q)[k]? = some c ∧ (pre t).length ≤ 1000 ∧
  ∀ (r : Addr) (G' H' : Hp), Same G G' → Res K G' r (setAt t ρ (.node (mrk q) (lbl q) ((kids q).eraseIdx k))) (.put (mrk q) k c) → Sep G' M H' → Q (.ref r) H'
theorem ok_with_drop (T : Top K mg w) {k : Nat} (G_node_on : FnOk P w K mg base CX0 k T.a_node_on T.d_node_on ["root", "path"] (spNodeOn K)) (G_with_children : FnOk P w K mg base CX0 k T.a_with_children T.d_with_children ["root", "path", "children"] (spWithC K)) : FnOk P w K mg base CX0 (k + 1) T.a_with_drop T.d_with_drop ["root", "path"] (spDrp K) := by
  refine T.F_with_drop.ok sc_with_drop (fun vs H Q E h => ?_) (fun cdv A outer s H vs Q E hr h => ?_)
  · obtain ⟨G, M, v, pa, ρ, k, t, q, c, rfl, _⟩ := h
    rfl
  · obtain ⟨G, M, v, pa, ρ, kk, t, qn, cn, rfl, S, hv, hpa, hs, hk, pl, q⟩ := h
    refine ⟨_, (pss_cons (ps_set (i := 2) sc_with_drop.nd rfl (.inl rfl) (pe_call G_node_on (hr.mono (by omega)) (by rfl) T.g_node_on T.F_node_on.kp T.b_node_on .nil pass0 (pa_cons (xv 0) (pa_cons (pe_slice (sl_tupAK K) (xv 1) po_none (po_some (pe_un un_neg pe_int))) pa_nil))))
      (pss_cons (ps_set (i := 3) sc_with_drop.nd rfl (.inl rfl) (pe_ix (ix_k K) (xv 1) (pe_op op_subY (pe_callB (cr_lenK K) (by rfl) T.m_len (by decide +kernel) (pa_cons (xv 1) pa_nil)) pe_int) (fun _ _ => rfl)))
      (pss_cons (ps_set (i := 4) sc_with_drop.nd rfl (.inl rfl) (pe_tup (pa_cons pe_str (pa_cons (pe_ix (ix_k K) (xv 2) pe_int (fun _ _ => rfl)) (pa_cons (xv 3) (pa_cons (pe_ix (ix_k K) (pe_ix (ix_k K) (xv 2) pe_int (fun _ _ => rfl)) (xv 3) (fun _ _ => rfl)) pa_nil))))))
      (pss_one (ps_ret (pe_tup (pa_cons (pe_call G_with_children (hr.mono (by omega)) (by rfl) T.g_with_children T.F_with_children.kp T.b_with_children .nil pass0 (pa_cons (xv 0) (pa_cons (pe_slice (sl_tupAK K) (xv 1) po_none (po_some (pe_un un_neg pe_int))) (pa_cons (pe_op (op_catAK K) (pe_slice (sl_tupAK K) (pe_ix (ix_k K) (xv 2) pe_int (fun _ _ => rfl)) po_none (po_some (xv 3))) (pe_slice (sl_tupAK K) (pe_ix (ix_k K) (xv 2) pe_int (fun _ _ => rfl)) (po_some (pe_op op_addY (xv 3) pe_int)) po_none)) pa_nil)))) (pa_cons (xv 4) pa_nil)))))))), ?_⟩
    have em : (ρ ++ [kk]).map nv = ρ.map nv ++ [nv kk] := by rw [List.map_append]; rfl
    rw [em] at hpa
    have il := (List.getElem?_eq_some_iff.mp hk).1
    have qm : qn ∈ pre t := sub_mem hs
    have kml := many_le (kids qn)
    have ksl := sub_len qm
    refine ⟨1, rfl, _, rfl, cutA_ok S hpa fun c1 G1 H1 s1 hc1 S1 => ?_⟩
    rw [cutV_last] at hc1
    refine ⟨G1, v, c1, ρ, t, qn, rfl, S1.1, dp_same s1 hv, hc1, hs, fun w1 hw1 => ?_⟩
    obtain ⟨a0, kv, kus, rfl, ha0, hkv, hkus⟩ := node_at hw1
    have kl := dpa_len hkus
    rw [List.length_map] at kl
    have hku : kus[kk]? = some (kus[kk]'(by omega)) := List.getElem?_eq_getElem (by omega)
    obtain ⟨d', hd', hdd⟩ := dpa_get hkus hku
    obtain ⟨c2, hc2, rfl⟩ := map_get hd'
    rw [hk] at hc2
    cases hc2
    have el : (((ρ.map nv ++ [nv kk]).length : Nat) : Int) - 1 = ((ρ.length : Nat) : Int) := by rw [List.length_append, List.length_map, List.length_singleton]; omega
    have hat : (ρ.map nv ++ [nv kk])[ρ.length]? = some (.int (kk : Nat)) := by
      rw [List.getElem?_append_right (by rw [List.length_map]; exact Nat.le_refl _), List.length_map, Nat.sub_self]
      rfl
    refine ⟨_, .inr (S1.t (same_t s1 hpa)), _, _, .inr (S1.t (same_t s1 hpa)), by rw [el]; exact atI_nat hat, ?_⟩
    refine ⟨_, _, .inr (S1.t ha0), atI_nat (j := 0) rfl, _, _, .inr (S1.t ha0), atI_nat (j := 2) rfl, _, _, .inr (S1.t hkv), atI_nat hku, sz, fun p2 np2 => ?_⟩
    obtain ⟨G2, s2, S2, h2⟩ := Sep.mk (o := .tup [.str "put", .str (mrk qn), .int (kk : Nat), kus[kk]'(by omega)]) S1 np2
    have s02 := s1.trans s2
    refine ⟨1, rfl, _, rfl, cutA_ok S2 (same_t s02 hpa) fun c3 G3 H3 s3 hc3 S3 => ?_⟩
    rw [cutV_last] at hc3
    have s13 := s2.trans s3
    refine ⟨_, _, .inr (S3.t (same_t s13 ha0)), atI_nat (j := 2) rfl, _, rfl, cutA_ok S3 (same_t s13 hkv) fun c4 G4 H4 s4 hc4 S4 => ?_⟩
    rw [cutV_to _ _ (by omega)] at hc4
    have s14 := s13.trans s4
    refine ⟨_, _, .inr (S4.t (same_t s14 ha0)), atI_nat (j := 2) rfl, _, rfl, ?_⟩
    unfold tNoPart
    refine cutA_ok S4 (same_t s14 hkv) fun c5 G5 H5 s5 hc5 S5 => ?_
    have e3 : ((kk : Nat) : Int) + 1 = ((kk + 1 : Nat) : Int) := by omega
    rw [e3, cutV_from _ _ (by omega)] at hc5
    refine cat_ok S5 (same_t s5 hc4) hc5 (small (by rw [List.length_take, List.length_drop]; omega)) fun c6 G6 H6 s6 hc6 S6 => ?_
    rw [take_drop_erase] at hc6
    have s16 := s14.trans (s5.trans s6)
    have hus : DpAll K G6 (kus.eraseIdx kk) (((kids qn).eraseIdx kk).map toD) := by
      rw [← map_erase]
      exact dpa_erase kk (dpa_same s16 hkus)
    refine ⟨G6, M, v, c3, c6, _, ρ, t, qn, (kids qn).eraseIdx kk, rfl, S6, dp_same (s1.trans s16) hv, same_t (s4.trans (s5.trans s6)) hc3, hs, hc6, hus, pl, fun x G7 H7 s7 hx S7 => ⟨sz, fun p9 np9 => ?_⟩⟩
    obtain ⟨G9, s9, S9, h9⟩ := Sep.mk (o := .tup [x, .ref p2]) S7 np9
    have s29 := s3.trans (s4.trans (s5.trans (s6.trans (s7.trans s9))))
    exact q p9 G9 _ (s02.trans s29) ⟨x, .ref p2, h9, dp_same s9 hx, .tup (SqT.of (s29 _ _ h2)) (.cons (.str _) (.cons (.str _) (.cons (.int _) (.cons (dp_same (s2.trans s29) hdd) .nil))))⟩ S9
def spMov (K : PySem.W.Frag) : Sp := fun vs H Q _ => ∃ (G : Hp) (M : List (Addr × HO)) (v u : V) (pa : Addr) (ρ : List Nat) (k i : Nat) (m : Str) (t q c : Tr), vs = [v, .ref pa, u] ∧ Sep G M H ∧ Dp K G v (toD t) ∧ SqT K G pa ((ρ ++ [k]).map nv) ∧ sub t ρ = some q ∧ (kids q)[k]? = some c ∧ Dp K G u (ptD (.move m i)) ∧ i < (kids q).length ∧ (pre t).length ≤ 1000 ∧
  ∀ (r : Addr) (G' H' : Hp), Same G G' → Res K G' r (setAt t ρ (.node (mrk q) (lbl q) (insT ((kids q).eraseIdx k) i c))) (.move m k) → Sep G' M H' → Q (.ref r) H'
theorem ok_with_move (T : Top K mg w) {k : Nat} (G_node_on : FnOk P w K mg base CX0 k T.a_node_on T.d_node_on ["root", "path"] (spNodeOn K)) (G_with_children : FnOk P w K mg base CX0 k T.a_with_children T.d_with_children ["root", "path", "children"] (spWithC K)) (G_check_at : FnOk P w K mg base CX0 k T.a_check_at T.d_check_at ["at", "count"] spAt) :
    FnOk P w K mg base CX0 (k + 1) T.a_with_move T.d_with_move ["root", "path", "patch"] (spMov K) := by
  refine T.F_with_move.ok sc_with_move (fun vs H Q E h => ?_) (fun cdv A outer s H vs Q E hr h => ?_)
  · obtain ⟨G, M, v, u, pa, ρ, k, i, m, t, q, c, rfl, _⟩ := h
    rfl
  · obtain ⟨G, M, v, u, pa, ρ, kk, i, m, t, qn, cn, rfl, S, hv, hpa, hs, hk, hu, hi, pl, q⟩ := h
    refine ⟨_, (pss_cons (ps_set (i := 3) sc_with_move.nd rfl (.inl rfl) (pe_ix (ix_k K) (pe_call G_node_on (hr.mono (by omega)) (by rfl) T.g_node_on T.F_node_on.kp T.b_node_on .nil pass0 (pa_cons (xv 0) (pa_cons (pe_slice (sl_tupAK K) (xv 1) po_none (po_some (pe_un un_neg pe_int))) pa_nil))) pe_int (fun _ _ => rfl)))
      (pss_cons (ps_set (i := 4) sc_with_move.nd rfl (.inl rfl) (pe_ix (ix_k K) (xv 1) (pe_op op_subY (pe_callB (cr_lenK K) (by rfl) T.m_len (by decide +kernel) (pa_cons (xv 1) pa_nil)) pe_int) (fun _ _ => rfl)))
      (pss_cons (ps_set (i := 5) sc_with_move.nd rfl (.inl rfl) (pe_op (op_catAK K) (pe_slice (sl_tupAK K) (xv 3) po_none (po_some (xv 4))) (pe_slice (sl_tupAK K) (xv 3) (po_some (pe_op op_addY (xv 4) pe_int)) po_none)))
      (pss_cons (ps_set (i := 6) sc_with_move.nd rfl (.inl rfl) (pe_ix (ix_k K) (xv 2) pe_int (fun _ _ => rfl)))
      (pss_cons (ps_expr (pe_call G_check_at (hr.mono (by omega)) (by rfl) T.g_check_at T.F_check_at.kp T.b_check_at .nil pass0 (pa_cons (xv 6) (pa_cons (pe_callB (cr_lenK K) (by rfl) T.m_len (by decide +kernel) (pa_cons (xv 5) pa_nil)) pa_nil))))
      (pss_one (ps_ret (pe_tup (pa_cons (pe_call G_with_children (hr.mono (by omega)) (by rfl) T.g_with_children T.F_with_children.kp T.b_with_children .nil pass0 (pa_cons (xv 0) (pa_cons (pe_slice (sl_tupAK K) (xv 1) po_none (po_some (pe_un un_neg pe_int))) (pa_cons (pe_op (op_catAK K) (pe_op (op_catAK K) (pe_slice (sl_tupAK K) (xv 5) po_none (po_some (xv 6))) (pe_tup (pa_cons (pe_ix (ix_k K) (xv 3) (xv 4) (fun _ _ => rfl)) pa_nil))) (pe_slice (sl_tupAK K) (xv 5) (po_some (xv 6)) po_none)) pa_nil)))) (pa_cons (pe_tup (pa_cons pe_str (pa_cons (pe_ix (ix_k K) (xv 2) pe_int (fun _ _ => rfl)) (pa_cons (xv 4) pa_nil)))) pa_nil)))))))))), ?_⟩
    have em : (ρ ++ [kk]).map nv = ρ.map nv ++ [nv kk] := by rw [List.map_append]; rfl
    rw [em] at hpa
    have il := (List.getElem?_eq_some_iff.mp hk).1
    have qm : qn ∈ pre t := sub_mem hs
    have kml := many_le (kids qn)
    have ksl := sub_len qm
    obtain ⟨b, ws, rfl, hb, hws⟩ := pt_at hu
    obtain ⟨x1, r1, rfl, h3, h4⟩ := dpa_cons hws
    obtain rfl := dp_int h3
    refine ⟨1, rfl, _, rfl, cutA_ok S hpa fun c1 G1 H1 s1 hc1 S1 => ?_⟩
    rw [cutV_last] at hc1
    refine ⟨G1, v, c1, ρ, t, qn, rfl, S1.1, dp_same s1 hv, hc1, hs, fun w1 hw1 => ?_⟩
    obtain ⟨a0, kv, kus, rfl, ha0, hkv, hkus⟩ := node_at hw1
    have kl := dpa_len hkus
    rw [List.length_map] at kl
    have hku : kus[kk]? = some (kus[kk]'(by omega)) := List.getElem?_eq_getElem (by omega)
    obtain ⟨d', hd', hdd⟩ := dpa_get hkus hku
    obtain ⟨c2, hc2, rfl⟩ := map_get hd'
    rw [hk] at hc2
    cases hc2
    have el : (((ρ.map nv ++ [nv kk]).length : Nat) : Int) - 1 = ((ρ.length : Nat) : Int) := by rw [List.length_append, List.length_map, List.length_singleton]; omega
    have hat : (ρ.map nv ++ [nv kk])[ρ.length]? = some (.int (kk : Nat)) := by
      rw [List.getElem?_append_right (by rw [List.length_map]; exact Nat.le_refl _), List.length_map, Nat.sub_self]
      rfl
    refine ⟨_, _, .inr (S1.t ha0), atI_nat (j := 2) rfl, _, .inr (S1.t (same_t s1 hpa)), _, _, .inr (S1.t (same_t s1 hpa)), by rw [el]; exact atI_nat hat, ?_⟩
    refine ⟨_, rfl, cutA_ok S1 hkv fun c4 G4 H4 s4 hc4 S4 => ?_⟩
    rw [cutV_to _ _ (by omega)] at hc4
    refine ⟨_, rfl, ?_⟩
    unfold tNoPart
    refine cutA_ok S4 (same_t s4 hkv) fun c5 G5 H5 s5 hc5 S5 => ?_
    have e3 : ((kk : Nat) : Int) + 1 = ((kk + 1 : Nat) : Int) := by omega
    rw [e3, cutV_from _ _ (by omega)] at hc5
    refine cat_ok S5 (same_t s5 hc4) hc5 (small (by rw [List.length_take, List.length_drop]; omega)) fun c6 G6 H6 s6 hc6 S6 => ?_
    rw [take_drop_erase] at hc6
    have s16 := s4.trans (s5.trans s6)
    have s06 := s1.trans s16
    have ell : (kus.eraseIdx kk).length = (kids qn).length - 1 := by rw [List.length_eraseIdx_of_lt (by omega)]; omega
    refine ⟨_, _, .inr (S6.t (same_t s06 hb)), atI_nat (j := 2) rfl, _, .inr (S6.t hc6), i, (kus.eraseIdx kk).length, rfl, by omega, ?_⟩
    refine ⟨1, rfl, _, rfl, cutA_ok S6 (same_t s06 hpa) fun c7 G7 H7 s7 hc7 S7 => ?_⟩
    rw [cutV_last] at hc7
    refine ⟨_, rfl, cutA_ok S7 (same_t s7 hc6) fun c8 G8 H8 s8 hc8 S8 => ?_⟩
    rw [cutV_to _ _ (by omega)] at hc8
    have s18 := s16.trans (s7.trans s8)
    refine ⟨_, _, .inr (S8.t (same_t s18 hkv)), atI_nat hku, sz, fun p9 np9 => ?_⟩
    obtain ⟨G9, s9, S9, h9⟩ := Sep.mk (o := .tup [kus[kk]'(by omega)]) S8 np9
    refine cat_ok S9 (same_t s9 hc8) (SqT.of h9) (small (by rw [List.length_take]; simp only [List.length_singleton]; omega)) fun ca Ga Ha sa hca Sa => ⟨_, rfl, ?_⟩
    have s6a := s7.trans (s8.trans (s9.trans sa))
    try unfold tNoPart
    refine cutA_ok Sa (same_t s6a hc6) fun cb Gb Hb sb hcb Sb => ?_
    rw [cutV_from _ _ (by omega)] at hcb
    refine cat_ok Sb (same_t sb hca) hcb (small (by rw [List.length_append, List.length_take, List.length_drop]; simp only [List.length_singleton]; omega)) fun cc Gc Hc sc hcc Sc => ?_
    have s1c := s16.trans (s6a.trans (sb.trans sc))
    have hus : DpAll K Gc ((kus.eraseIdx kk).take i ++ [kus[kk]'(by omega)] ++ (kus.eraseIdx kk).drop i) ((insT ((kids qn).eraseIdx kk) i cn).map toD) := by
      refine dpa_ins ?_ (dp_same s1c hdd) i
      rw [← map_erase]
      exact dpa_erase kk (dpa_same s1c hkus)
    have s7c := s8.trans (s9.trans (sa.trans (sb.trans sc)))
    refine ⟨Gc, M, v, c7, cc, _, ρ, t, qn, insT ((kids qn).eraseIdx kk) i cn, rfl, Sc, dp_same (s1.trans s1c) hv, same_t s7c hc7, hs, hcc, hus, pl, fun x Gd Hd sd hx Sd => ?_⟩
    have s0d := s1.trans (s1c.trans sd)
    refine ⟨_, _, .inr (Sd.t (same_t s0d hb)), atI_nat (j := 1) rfl, sz, fun pe npe => ⟨sz, fun pf npf => ?_⟩⟩
    obtain ⟨Ge, se, Se, he⟩ := Sep.mk (o := .tup [.str "move", .str m, .int (kk : Nat)]) Sd npe
    obtain ⟨Gf, sf, Sf, hf⟩ := Sep.mk (o := .tup [x, .ref pe]) Se npf
    exact q pf Gf _ (s0d.trans (se.trans sf)) ⟨x, .ref pe, hf, dp_same (se.trans sf) hx, .tup (SqT.of (sf _ _ he)) (.cons (.str _) (.cons (.str _) (.cons (.int _) .nil)))⟩ Sf

end
end K19
set_option Elab.async false
set_option linter.all false
set_option maxRecDepth 100000
set_option maxHeartbeats 4000000
namespace K19
open PySem PySem.Spec PyProof.Rows L2 XL
/-! ### one path alone leads to a mark -/
theorem nd_two {ts : List Tr} {j k : Nat} {c d : Tr} {m : Str} (nd : ((pres ts).map mrk).Nodup) (hj : ts[j]? = some c) (hk : ts[k]? = some d) (hc : m ∈ (pre c).map mrk) (hd : m ∈ (pre d).map mrk) : j = k := by
  obtain ⟨a, b, e, al, ep, _⟩ := pres_at hj
  rw [ep, List.map_append, List.map_append, List.nodup_append] at nd
  have nb := List.nodup_append.mp nd.2.1
  rw [e] at hk
  by_cases h1 : k < a.length
  · rw [List.getElem?_append_left h1] at hk
    have : m ∈ (pres a).map mrk := by
      obtain ⟨x, hx, rfl⟩ := List.mem_map.mp hd
      exact List.mem_map_of_mem (mem_pres.mpr ⟨d, List.mem_of_getElem? hk, hx⟩)
    exact absurd rfl (nd.2.2 m this m (List.mem_append_left _ hc))
  · rw [List.getElem?_append_right (by omega)] at hk
    by_cases h2 : k - a.length = 0
    · omega
    · obtain ⟨n, en⟩ : ∃ n, k - a.length = n + 1 := ⟨k - a.length - 1, by omega⟩
      rw [en, List.getElem?_cons_succ] at hk
      have : m ∈ (pres b).map mrk := by
        obtain ⟨x, hx, rfl⟩ := List.mem_map.mp hd
        exact List.mem_map_of_mem (mem_pres.mpr ⟨d, List.mem_of_getElem? hk, hx⟩)
      exact absurd rfl (nb.2.2 m hc m this)
theorem path_uniq : ∀ {π π' : List Nat} {t c c' : Tr}, ((pre t).map mrk).Nodup → sub t π = some c → sub t π' = some c' → mrk c = mrk c' → π = π'
  | [], [], _, _, _, _, _, _, _ => rfl
  | [], k :: π', t, c, c', nd, h, h', e => by
    cases h
    obtain ⟨d, hd, h'⟩ := sub_ne h'
    rw [pre_eq, List.map_cons, List.nodup_cons] at nd
    refine absurd ?_ nd.1
    rw [e]
    exact List.mem_map_of_mem (mem_pres.mpr ⟨d, List.mem_of_getElem? hd, sub_mem h'⟩)
  | k :: π, [], t, c, c', nd, h, h', e => by
    cases h'
    obtain ⟨d, hd, h⟩ := sub_ne h
    rw [pre_eq, List.map_cons, List.nodup_cons] at nd
    refine absurd ?_ nd.1
    rw [← e]
    exact List.mem_map_of_mem (mem_pres.mpr ⟨d, List.mem_of_getElem? hd, sub_mem h⟩)
  | k :: π, k' :: π', t, c, c', nd, h, h', e => by
    obtain ⟨d, hd, h⟩ := sub_ne h
    obtain ⟨d', hd', h'⟩ := sub_ne h'
    have nd2 := nd
    rw [pre_eq, List.map_cons, List.nodup_cons] at nd2
    have ek : k = k' := nd_two nd2.2 hd hd' (List.mem_map_of_mem (sub_mem h)) (by rw [e]; exact List.mem_map_of_mem (sub_mem h'))
    subst ek
    rw [hd] at hd'
    cases hd'
    rw [path_uniq (nd_kid nd hd) h h' e]
/-! ### patches that fit, in a row -/
def Fits (p : Pt) (t : Tr) : Prop := match p with
  | .drop m => m ∈ (pre t).map mrk ∧ m ≠ mrk t
  | .put m i s => ∃ q ∈ pre t, mrk q = m ∧ i ≤ (kids q).length ∧ ((pre t).map mrk ++ (pre s).map mrk).Nodup ∧ (pre t).length + (pre s).length ≤ 400
  | .move m i => ∃ q ∈ pre t, ∃ c ∈ kids q, mrk c = m ∧ i < (kids q).length
  | .say m _ => m ∈ (pre t).map mrk
inductive Bk (t : Tr) : Pt → Pt → Prop where
  | drop {π : List Nat} {q c : Tr} {k : Nat} (h1 : sub t π = some q) (h2 : (kids q)[k]? = some c) : Bk t (.drop (mrk c)) (.put (mrk q) k c)
  | put (m : Str) (i : Nat) (s : Tr) : Bk t (.put m i s) (.drop (mrk s))
  | move {π : List Nat} {q c : Tr} {k : Nat} (i : Nat) (h1 : sub t π = some q) (h2 : (kids q)[k]? = some c) : Bk t (.move (mrk c) i) (.move (mrk c) k)
  | say {π : List Nat} {q : Tr} (l : Str) (h1 : sub t π = some q) : Bk t (.say (mrk q) l) (.say (mrk q) (lbl q))
def runs : List Pt → Tr → Tr
  | [], t => t
  | p :: r, t => runs r (aft p t)
inductive BkL : Tr → List Pt → List Pt → Prop where
  | nil (t : Tr) : BkL t [] []
  | cons {t : Tr} {p b : Pt} {r bs : List Pt} (h : Bk t p b) (h2 : BkL (aft p t) r bs) : BkL t (p :: r) (b :: bs)
theorem runs_app : ∀ (xs ys : List Pt) (t : Tr), runs (xs ++ ys) t = runs ys (runs xs t)
  | [], _, _ => rfl
  | p :: r, ys, t => runs_app r ys (aft p t)
theorem BkL.snoc {xs : List Pt} {p b : Pt} : ∀ {bs : List Pt} {t : Tr}, BkL t xs bs → Bk (runs xs t) p b → BkL t (xs ++ [p]) (bs ++ [b]) := by
  induction xs with
  | nil =>
    intro bs t h hb
    cases h
    exact .cons hb (.nil _)
  | cons x r ih =>
    intro bs t h hb
    cases h with
    | cons h1 h2 => exact .cons h1 (ih h2 hb)

section
variable {P : Program} {w : World} {K : PySem.W.Frag} {mg : Str → Option Value} {base : Heap}
/-! ### a row of patches -/
def spRA (K : PySem.W.Frag) : Sp := fun vs H Q _ => ∃ (G : Hp) (M : List (Addr × HO)) (v u : V) (t : Tr) (p : Pt), vs = [v, u] ∧ Sep G M H ∧ Dp K G v (toD t) ∧ Dp K G u (ptD p) ∧ ((pre t).map mrk).Nodup ∧ (pre t).length ≤ 1000 ∧ Fits p t ∧
  ∀ (r : Addr) (b : Pt) (G' H' : Hp), Same G G' → Res K G' r (aft p t) b → Bk t p b → Sep G' M H' → Q (.ref r) H'
theorem fits_in {p : Pt} {t : Tr} (h : Fits p t) : pmk p ∈ (pre t).map mrk := by
  cases p with
  | drop m => exact h.1
  | put m i s =>
    obtain ⟨q, h1, h2, _⟩ := h
    exact h2 ▸ List.mem_map_of_mem h1
  | move m i =>
    obtain ⟨q, h1, c, h2, h3, _⟩ := h
    refine h3 ▸ List.mem_map_of_mem (pre_trans t h1 (kid_pre h2))
  | say m l => exact h
theorem ok_root_after (T : Top K mg w) {k : Nat} (G_check_patch : FnOk P w K mg base CX0 k T.a_check_patch T.d_check_patch ["patch"] (spChk K)) (G_path_to : FnOk P w K mg base CX0 k T.a_path_to T.d_path_to ["root", "mark"] (spPath K))
    (G_with_put : FnOk P w K mg base CX0 k T.a_with_put T.d_with_put ["root", "path", "patch"] (spPut K)) (G_with_say : FnOk P w K mg base CX0 k T.a_with_say T.d_with_say ["root", "path", "patch"] (spSay K)) (G_with_drop : FnOk P w K mg base CX0 k T.a_with_drop T.d_with_drop ["root", "path"] (spDrp K)) (G_with_move : FnOk P w K mg base CX0 k T.a_with_move T.d_with_move ["root", "path", "patch"] (spMov K)) :
    FnOk P w K mg base CX0 (k + 1) T.a_root_after T.d_root_after ["root", "patch"] (spRA K) := by
  refine T.F_root_after.ok sc_root_after (fun vs H Q E h => ?_) (fun cdv A outer s H vs Q E hr h => ?_)
  · obtain ⟨G, M, v, u, t, p, rfl, _⟩ := h
    rfl
  · obtain ⟨G, M, v, u, t, p, rfl, S, hv, hu, nd, pl, ft, q⟩ := h
    refine ⟨_, (pss_cons (ps_expr (pe_call G_check_patch (hr.mono (by omega)) (by rfl) T.g_check_patch T.F_check_patch.kp T.b_check_patch .nil pass0 (pa_cons (xv 1) pa_nil)))
      (pss_cons (ps_set (i := 2) sc_root_after.nd rfl (.inl rfl) (pe_call G_path_to (hr.mono (by omega)) (by rfl) T.g_path_to T.F_path_to.kp T.b_path_to .nil pass0 (pa_cons (xv 0) (pa_cons (pe_ix (ix_k K) (xv 1) pe_int (fun _ _ => rfl)) pa_nil))))
      (pss_cons (xs_if (xt_cmp op_isN (xv 2) pe_non (nomark _))
      (pss_one ps_never)
      pss_nil)
      (pss_cons (xs_if (xt_cmp (op_eqLK K hr.u190) (pe_ix (ix_k K) (xv 1) pe_int (fun _ _ => rfl)) pe_str (nomark _))
      (pss_one (ps_ret (pe_call G_with_put (hr.mono (by omega)) (by rfl) T.g_with_put T.F_with_put.kp T.b_with_put .nil pass0 (pa_cons (xv 0) (pa_cons (xv 2) (pa_cons (xv 1) pa_nil))))))
      pss_nil)
      (pss_cons (xs_if (xt_cmp (op_eqLK K hr.u190) (pe_ix (ix_k K) (xv 1) pe_int (fun _ _ => rfl)) pe_str (nomark _))
      (pss_one (ps_ret (pe_call G_with_say (hr.mono (by omega)) (by rfl) T.g_with_say T.F_with_say.kp T.b_with_say .nil pass0 (pa_cons (xv 0) (pa_cons (xv 2) (pa_cons (xv 1) pa_nil))))))
      pss_nil)
      (pss_cons (xs_if (xt_cmp (op_eqLK K hr.u190) (pe_callB (cr_lenK K) (by rfl) T.m_len (by decide +kernel) (pa_cons (xv 2) pa_nil)) pe_int (nomark _))
      (pss_one ps_never)
      pss_nil)
      (pss_cons (xs_if (xt_cmp (op_eqLK K hr.u190) (pe_ix (ix_k K) (xv 1) pe_int (fun _ _ => rfl)) pe_str (nomark _))
      (pss_one (ps_ret (pe_call G_with_drop (hr.mono (by omega)) (by rfl) T.g_with_drop T.F_with_drop.kp T.b_with_drop .nil pass0 (pa_cons (xv 0) (pa_cons (xv 2) pa_nil)))))
      pss_nil)
      (pss_one (ps_ret (pe_call G_with_move (hr.mono (by omega)) (by rfl) T.g_with_move T.F_with_move.kp T.b_with_move .nil pass0 (pa_cons (xv 0) (pa_cons (xv 2) (pa_cons (xv 1) pa_nil))))))))))))), ?_⟩
    obtain ⟨b, ws, rfl, hb, hws⟩ := id (pt_at hu)
    refine ⟨_, p, rfl, dp_same S.1 hu, ?_⟩
    refine ⟨_, _, .inr (S.t hb), atI_nat (j := 1) rfl, G, M, v, pmk p, t, rfl, S, hv, pl, fits_in ft, fun pa π c G1 H1 s1 hpa hsub em S1 => ?_⟩
    refine ⟨rfl, fun e => absurd e (by simp), fun _ => ?_⟩
    have hb1 := same_t s1 hb
    have hv1 := dp_same s1 hv
    have hu1 := dp_same s1 hu
    refine ⟨_, _, .inr (S1.t hb1), atI_nat (j := 0) rfl, fun e1 => ?_, fun e1 => ⟨_, _, .inr (S1.t hb1), atI_nat (j := 0) rfl, fun e2 => ?_, fun e2 => ?_⟩⟩
    · have w1 : wd p = "put" := of_decide_eq_true e1
      cases p with
      | put m i s =>
        obtain ⟨q1, h1, h2, h3, h4, h5⟩ := ft
        obtain rfl : c = q1 := mrk_inj nd (sub_mem hsub) h1 (em.trans h2.symm)
        refine ⟨G1, M, v, .ref b, pa, π, t, c, s, m, i, rfl, S1, hv1, hpa, hsub, hu1, h3, h4, h5, fun r G2 H2 s2 hres S2 => ?_⟩
        have ea : aft (.put m i s) t = setAt t π (.node (mrk c) (lbl c) (insT (kids c) i s)) := by
          have := aft_node (p := .put m i s) (.inl ⟨_, _, _, rfl⟩) nd hsub h2
          rw [show lbP (.put m i s) (mrk c) (lbl c) = lbl c from rfl, show ksP (.put m i s) (mrk c) (kids c) = insT (kids c) i s from if_pos h2] at this
          exact this
        rw [← ea] at hres
        exact q r _ G2 H2 (s1.trans s2) hres (.put m i s) S2
      | drop m => exact absurd w1 (show ("drop" : Str) ≠ "put" by decide +kernel)
      | move m i => exact absurd w1 (show ("move" : Str) ≠ "put" by decide +kernel)
      | say m l => exact absurd w1 (show ("say" : Str) ≠ "put" by decide +kernel)
    · have w1 : wd p = "say" := of_decide_eq_true e2
      cases p with
      | say m l =>
        refine ⟨G1, M, v, .ref b, pa, π, t, c, m, l, rfl, S1, hv1, hpa, hsub, hu1, pl, fun r G2 H2 s2 hres S2 => ?_⟩
        have em2 : mrk c = m := em
        subst em2
        have ea : aft (.say (mrk c) l) t = setAt t π (.node (mrk c) l (kids c)) := by
          have := aft_node (p := .say (mrk c) l) (.inr ⟨_, _, rfl⟩) nd hsub rfl
          rw [show lbP (.say (mrk c) l) (mrk c) (lbl c) = l from if_pos rfl, show ksP (.say (mrk c) l) (mrk c) (kids c) = kids c from rfl] at this
          exact this
        rw [← ea] at hres
        exact q r _ G2 H2 (s1.trans s2) hres (.say l hsub) S2
      | drop m => exact absurd w1 (show ("drop" : Str) ≠ "say" by decide +kernel)
      | move m i => exact absurd w1 (show ("move" : Str) ≠ "say" by decide +kernel)
      | put m i s => exact absurd w1 (show ("put" : Str) ≠ "say" by decide +kernel)
    · have ml : (π.map nv).length = π.length := List.length_map _
      refine ⟨_, .inr (S1.t hpa), ?_⟩
      rw [ml]
      rcases nil_or_snoc π with eπ | ⟨ρ, kk, eπ⟩
      · exfalso
        rw [eπ] at hsub
        cases hsub
        cases p with
        | drop m => exact ft.2 em.symm
        | move m i =>
          obtain ⟨q1, h1, d, h2, h3, _⟩ := ft
          have hd : d ∈ pre q1 := kid_pre h2
          have hdt := pre_trans t h1 hd
          obtain rfl : t = d := mrk_inj nd (self_pre t) hdt (em.trans h3.symm)
          have l1 := hgt_kid h2
          have l2 := pre_hgt t h1
          omega
        | put m i s => exact of_decide_eq_false e1 rfl
        | say m l => exact of_decide_eq_false e2 rfl
      · subst eπ
        obtain ⟨q0, hq0, hk⟩ := sub_unsnoc hsub
        refine ⟨fun e => ?_, fun _ => ⟨_, _, .inr (S1.t hb1), atI_nat (j := 0) rfl, fun e3 => ?_, fun e3 => ?_⟩⟩
        · have := of_decide_eq_true e
          rw [List.length_append, List.length_singleton] at this
          omega
        · have w1 : wd p = "drop" := of_decide_eq_true e3
          cases p with
          | drop m =>
            have em2 : mrk c = m := em
            subst em2
            refine ⟨G1, M, v, pa, ρ, kk, t, q0, c, rfl, S1, hv1, hpa, hq0, hk, pl, fun r G2 H2 s2 hres S2 => ?_⟩
            have ea : aft (.drop (mrk c)) t = setAt t ρ (.node (mrk q0) (lbl q0) ((kids q0).eraseIdx kk)) := aft_child (p := .drop (mrk c)) (.inl ⟨_, rfl⟩) nd hq0 hk rfl
            rw [← ea] at hres
            exact q r _ G2 H2 (s1.trans s2) hres (.drop hq0 hk) S2
          | put m i s => exact absurd w1 (show ("put" : Str) ≠ "drop" by decide +kernel)
          | move m i => exact absurd w1 (show ("move" : Str) ≠ "drop" by decide +kernel)
          | say m l => exact absurd w1 (show ("say" : Str) ≠ "drop" by decide +kernel)
        · cases p with
          | move m i =>
            have em2 : mrk c = m := em
            subst em2
            obtain ⟨q1, h1, d, h2, h3, h4⟩ := ft
            obtain ⟨σ1, hσ⟩ := pre_sub t h1
            obtain ⟨j, hj⟩ := List.getElem?_of_mem h2
            have hd := sub_snoc hσ hj
            have eu := path_uniq nd hsub hd h3.symm
            obtain ⟨e5, _⟩ := List.append_inj' eu rfl
            rw [e5, hσ] at hq0
            cases hq0
            rw [← e5] at hσ
            refine ⟨G1, M, v, .ref b, pa, ρ, kk, i, mrk c, t, q0, c, rfl, S1, hv1, hpa, hσ, hk, hu1, h4, pl, fun r G2 H2 s2 hres S2 => ?_⟩
            have ea : aft (.move (mrk c) i) t = setAt t ρ (.node (mrk q0) (lbl q0) (insT ((kids q0).eraseIdx kk) i c)) := aft_child (p := .move (mrk c) i) (.inr ⟨_, _, rfl⟩) nd hσ hk rfl
            rw [← ea] at hres
            exact q r _ G2 H2 (s1.trans s2) hres (.move i hσ hk) S2
          | drop m => exact absurd rfl (of_decide_eq_false e3)
          | put m i s => exact absurd rfl (of_decide_eq_false e1)
          | say m l => exact absurd rfl (of_decide_eq_false e2)
/-- a good page -/
structure Gt (t : Tr) : Prop where
  nd : ((pre t).map mrk).Nodup
  ln : (pre t).length ≤ 400
  ok : TrOk t
def Chn : List Pt → Tr → Prop
  | [], t => Gt t
  | p :: r, t => Gt t ∧ Fits p t ∧ Chn r (aft p t)
theorem Chn.gt {ps : List Pt} {t : Tr} (h : Chn ps t) : Gt t := by
  cases ps with
  | nil => exact h
  | cons p r => exact h.1
theorem Chn.at {p : Pt} : ∀ {xs ys : List Pt} {t : Tr}, Chn (xs ++ p :: ys) t → Gt (runs xs t) ∧ Fits p (runs xs t) ∧ Chn ys (runs (xs ++ [p]) t)
  | [], ys, t, h => h
  | x :: xs, ys, t, h => Chn.at (xs := xs) (ys := ys) h.2.2
theorem Chn.fin : ∀ {ps : List Pt} {t : Tr}, Chn ps t → Gt (runs ps t)
  | [], _, h => h
  | p :: r, t, h => Chn.fin (ps := r) (t := aft p t) h.2.2
structure PtcAt (K : PySem.W.Frag) (C CP : Addr) (G : Hp) (x : Addr) (t : Tr) (ps : List Pt) : Prop where
  ex : ∃ (dx pg pe R U : Addr) (us bs : List V) (bk : List Pt), G x = some (.ins C dx [("first_page", .ref pg), ("last_page", .ref pe), ("rows", .ref R), ("undone", .ref U)]) ∧ PgAt K CP G pg t ∧ PgAt K CP G pe (runs ps t) ∧ G R = some (.lst us) ∧ DpAll K G us (ps.map ptD) ∧
    G U = some (.lst bs) ∧ DpAll K G bs (bk.reverse.map ptD) ∧ BkL t ps bk
theorem PtcAt.same {K : PySem.W.Frag} {C CP : Addr} {G G' : Hp} {x : Addr} {t : Tr} {ps : List Pt} (e : Same G G') (h : PtcAt K C CP G x t ps) : PtcAt K C CP G' x t ps := by
  obtain ⟨dx, pg, pe, R, U, us, bs, bk, h1, h2, h3, h4, h5, h6, h7, h8⟩ := h.ex
  exact ⟨dx, pg, pe, R, U, us, bs, bk, e _ _ h1, h2.same e, h3.same e, e _ _ h4, dpa_same e h5, e _ _ h6, dpa_same e h7, h8⟩
def spPtc (K : PySem.W.Frag) (C CP : Addr) : Sp := fun vs H Q _ => ∃ (G : Hp) (M : List (Addr × HO)) (x dx pg R : Addr) (us : List V) (t : Tr) (ps : List Pt), vs = [.ref x, .ref pg, .ref R] ∧ Sep G ((x, .ins C dx []) :: M) H ∧ PgAt K CP G pg t ∧ (∀ G' H', Same G G' → Sep G' M H' → H' R = some (.lst us)) ∧ DpAll K G us (ps.map ptD) ∧ Chn ps t ∧ ps.length ≤ 1000 ∧
  ∀ (G' H' : Hp), Same G G' → PtcAt K C CP G' x t ps → Sep G' M H' → Q .non H'
theorem ok_Patches_init (T : Top K mg w) {k : Nat} (G_root_after : FnOk P w K mg base CX0 k T.a_root_after T.d_root_after ["root", "patch"] (spRA K)) (G_Page_top : FnOk P w K mg base CX0 k T.a_Page_top T.d_Page_top ["self"] (spTop K T.C_Page))
    (G_Page_init : FnOk P w K mg base (L2.CX P w) k T.a_Page_init T.d_Page_init ["self", "root"] (spPage K T.C_Page T.C_TwiceMarked T.C_TooMany)) : FnOk P w K mg base CX0 (k + 2) T.a_Patches_init T.d_Patches_init ["self", "page", "rows"] (spPtc K T.C_Patches T.C_Page) := by
  refine T.F_Patches_init.ok sc_Patches_init (fun vs H Q E h => ?_) (fun cdv A outer s H vs Q E hr h => ?_)
  · obtain ⟨G, M, x, dx, pg, R, us, t, ps, rfl, _⟩ := h
    rfl
  · obtain ⟨G, M, x, dx, pg, R, us, t, ps, rfl, S, hp, hR, hus, ch, pn, q⟩ := h
    refine ⟨_, (pss_cons (ps_set (i := 3) sc_Patches_init.nd rfl (.inl rfl) (pe_prop (xv 1) T.cl_Page T.pr_Page_top G_Page_top (hr.mono (by omega)) T.b_Page_top .nil pass0 rfl))
      (pss_cons (ps_set (i := 4) sc_Patches_init.nd rfl (.inl rfl) (pe_lst pa_nil))
      (pss_cons (ps_for PassesOwn.never rfl (pi_listK K (xv 2)) (pg_name (i := 5) sc_Patches_init.nd rfl (.inl rfl))
      (pss_cons (ps_asg (pe_call G_root_after (hr.mono (by omega)) (by rfl) T.g_root_after T.F_root_after.kp T.b_root_after .nil pass0 (pa_cons (xv 3) (pa_cons (xv 5) pa_nil))) (pg_tupK K 2 (pgs_cons (pg_name (i := 3) sc_Patches_init.nd rfl (.inl rfl)) (pgs_cons (pg_name (i := 6) sc_Patches_init.nd rfl (.inl rfl)) pgs_nil))))
      (pss_one (ps_expr (pe_bmK K PySem.F.plainAttrs_list PySem.F.slot_list_append PySem.F.type_list_append mt_append (xv 4) (pa_cons (xv 6) pa_nil))))))
      (pss_cons (ps_fld (xv 0) (xv 1) rfl)
      (pss_cons (ps_fld (xv 0) (pe_make T.mk_Page G_Page_init (hr.mono (by omega)) (by rfl) T.g_Page T.b_Page_init .nil passL (pa_cons (xv 3) pa_nil)) rfl)
      (pss_cons (ps_fld (xv 0) (pe_callTy (call_listK K) (by rfl) T.m_list (by decide +kernel) (pa_cons (xv 2) pa_nil)) rfl)
      (pss_one (ps_fld (xv 0) (pe_revK K (xv 4) (pe_str (pe_un un_neg pe_int) fun _ _ _ h => ⟨1, rfl, h⟩)) rfl)))))))), ?_⟩
    obtain ⟨pd, N, A', O, v0, us0, kn, g1, _⟩ := id hp.ex
    refine ⟨pg, pd, _, rfl, S.st g1, G, pg, t, rfl, S.1, hp, fun v hv => ⟨sz, fun U nU => ?_⟩⟩
    have S1 := S.new (o := .lst []) nU
    have ul := dpa_len hus
    rw [List.length_map] at ul
    have hRd : ∀ {G' H' : Hp} {N : List (Addr × HO)}, Same G G' → Sep G' (N ++ M) H' → H' R = some (.lst us) := fun s' S' => hR _ _ s' (S'.sub (List.sublist_append_right _ _))
    refine ⟨R, rfl, ⟨us, SqL.of (hRd (N := [_, _]) (Same.refl _) S1)⟩, for_list (xs := us) (fun i σ H' => ∃ (y5 y6 : Option V) (v' : V) (bs : List V) (bk : List Pt) (G' : Hp), σ = [some (.ref x), some (.ref pg), some (.ref R), some v', some (.ref U), y5, y6] ∧ Same G G' ∧ Dp K G' v' (toD (runs (ps.take i) t)) ∧ BkL t (ps.take i) bk ∧ bk.length = i ∧ DpAll K G' bs (bk.map ptD) ∧ Sep G' ((U, .lst bs) :: (x, .ins T.C_Patches dx []) :: M) H')
      ⟨_, _, v, [], [], G, rfl, Same.refl _, hv, .nil _, rfl, .nil, S1⟩ (fun i σ H' _ h => ?_) (fun i u σ H' hu h => ?_) (fun σ H' h => ?_)⟩
    · obtain ⟨_, _, _, _, _, _, _, s', _, _, _, _, S'⟩ := h
      exact SqL.of (hRd (N := [_, _]) s' S')
    · obtain ⟨y5, y6, v', bs, bk, G2, rfl, s2, hv', hbk, bl, hbs, S2⟩ := h
      obtain ⟨d, hd, hud⟩ := dpa_get hus hu
      rw [List.getElem?_map] at hd
      obtain ⟨p, hpp, rfl⟩ := Option.map_eq_some_iff.mp hd
      have e1 := (take_pre hpp).1
      rw [e1] at ch
      obtain ⟨gt, ft, _⟩ := ch.at
      have il := (List.getElem?_eq_some_iff.mp hpp).1
      have gl := gt.ln
      have bsl := dpa_len hbs
      rw [List.length_map] at bsl
      refine ⟨G2, _, v', u, runs (ps.take i) t, p, rfl, S2, hv', dp_same s2 hud, gt.nd, by omega, ft, fun r b G3 H3 s3 ⟨x1, x2, hr3, hx1, hx2⟩ hb S3 => ?_⟩
      refine ⟨r, _, rfl, SqT.of (S3.st hr3), rfl, _, _, rfl, _, _, rfl, rfl, ?_⟩
      refine ⟨.inl ⟨rfl, _, SqL.of S3.hd⟩, U, bs, x2, rfl, rfl, S3.hd, smallL (by omega), ?_⟩
      refine ⟨_, _, x1, bs ++ [x2], bk ++ [b], G3, rfl, s2.trans s3, ?_, ?_, by rw [List.length_append, bl]; rfl, ?_, S3.set⟩
      · rw [take_snoc hpp, runs_app]
        exact hx1
      · rw [take_snoc hpp]
        exact hbk.snoc hb
      · rw [List.map_append]
        exact dpa_app (dpa_same s3 hbs) (dpa_one hx2)
    · obtain ⟨y5, y6, v', bs, bk, G2, rfl, s2, hv', hbk, bl, hbs, S2⟩ := h
      rw [ul, List.take_length] at hv' hbk
      have ge := ch.fin
      have no : ∀ {t : Tr} {m : Str} {A : Prop}, ((pre t).map mrk).Nodup → tw [] ((pre t).map mrk) = some m → A := fun nd e => by
        rw [tw_nd.mpr nd] at e
        exact nomatch e
      have gl := ge.ln
      have S3 := S2.sw
      refine ⟨x, T.C_Patches, dx, [], rfl, S3.hd, T.cl_Patches, T.na_Patches_first_page, by decide, ?_⟩
      rw [putF_nil]
      have X1 := S3.set (o' := .ins T.C_Patches dx [("first_page", .ref pg)])
      refine fun y dy ny ndy ne => ⟨G2, _, y, dy, v', runs ps t, rfl, X1.new2 ny ndy ne, hv', by omega, fun p hp => (ge.ok.tx p hp).1, fun _ _ G4 H4 s4 pe S4 => ⟨rfl, ?_⟩, fun m e => no ge.nd e, fun _ l => by omega⟩
      have X2 := S4.drop
      refine ⟨x, T.C_Patches, dx, _, rfl, X2.hd, T.cl_Patches, T.na_Patches_last_page, by simp, ?_⟩
      rw [putF_ne, putF_nil]
      have X3 := X2.set (o' := .ins T.C_Patches dx [("first_page", .ref pg), ("last_page", .ref y)])
      have s04 := s2.trans s4
      refine ⟨R, _, rfl, .inl (SqL.of (hRd (N := [_, _]) s04 X3)), fun p5 np5 => ?_⟩
      obtain ⟨G5, s5, S5, h5⟩ := Sep.mk (o := .lst us) X3 np5
      refine ⟨x, T.C_Patches, dx, _, rfl, S5.hd, T.cl_Patches, T.na_Patches_rows, by simp, ?_⟩
      rw [putF_ne, putF_ne, putF_nil]
      have X4 := S5.set (o' := .ins T.C_Patches dx [("first_page", .ref pg), ("last_page", .ref y), ("rows", .ref p5)])
      refine ⟨U, bs, rfl, SqL.of X4.sw.hd, fun p6 np6 => ?_⟩
      obtain ⟨G6, s6, S6, h6⟩ := Sep.mk (o := .lst bs.reverse) X4 np6
      refine ⟨x, T.C_Patches, dx, _, rfl, S6.hd, T.cl_Patches, T.na_Patches_undone, by simp, ?_⟩
      rw [putF_ne, putF_ne, putF_ne, putF_nil]
      have X5 := S6.set (o' := .ins T.C_Patches dx [("first_page", .ref pg), ("last_page", .ref y), ("rows", .ref p5), ("undone", .ref p6)])
      obtain ⟨G7, s7, S7, h7⟩ := Sep.keep X5
      have s47 := s5.trans (s6.trans s7)
      have s07 := s04.trans s47
      refine q G7 _ s07 ⟨dx, pg, y, p5, p6, us, bs.reverse, bk, h7, hp.same s07, pe.same s47, s7 _ _ (s6 _ _ h5), dpa_same s07 hus, s7 _ _ h6, ?_, hbk⟩ S7.drop
      rw [List.map_reverse]
      exact dpa_rev (dpa_same (s4.trans s47) hbs)
def spPtPg (K : PySem.W.Frag) (C CP : Addr) (last : Bool) : Sp := fun vs H Q _ => ∃ (G : Hp) (x : Addr) (t : Tr) (ps : List Pt), vs = [.ref x] ∧ Same G H ∧ PtcAt K C CP G x t ps ∧ ∀ pg, PgAt K CP G pg (if last then runs ps t else t) → Q (.ref pg) H
theorem ok_Patches_page (T : Top K mg w) {k : Nat} : FnOk P w K mg base CX0 (k + 1) T.a_Patches_page T.d_Patches_page ["self"] (spPtPg K T.C_Patches T.C_Page false) := by
  refine T.F_Patches_page.ok sc_Patches_page (fun vs H Q E h => ?_) (fun cdv A outer s H vs Q E hr h => ?_)
  · obtain ⟨G, x, t, ps, rfl, _⟩ := h
    rfl
  · obtain ⟨G, x, t, ps, rfl, S, pt, q⟩ := h
    obtain ⟨dx, pg, pe, R, U, us, bs, bk, h1, h2, h3, _⟩ := pt.ex
    refine ⟨_, (pss_one (ps_ret (pe_fldK K (xv 0)))), ?_⟩
    exact ⟨x, T.C_Patches, dx, _, _, rfl, S _ _ h1, T.cl_Patches, T.na_Patches_first_page, lk_eq, q pg h2⟩
theorem ok_Patches_end (T : Top K mg w) {k : Nat} : FnOk P w K mg base CX0 (k + 1) T.a_Patches_end T.d_Patches_end ["self"] (spPtPg K T.C_Patches T.C_Page true) := by
  refine T.F_Patches_end.ok sc_Patches_end (fun vs H Q E h => ?_) (fun cdv A outer s H vs Q E hr h => ?_)
  · obtain ⟨G, x, t, ps, rfl, _⟩ := h
    rfl
  · obtain ⟨G, x, t, ps, rfl, S, pt, q⟩ := h
    obtain ⟨dx, pg, pe, R, U, us, bs, bk, h1, h2, h3, _⟩ := pt.ex
    refine ⟨_, (pss_one (ps_ret (pe_fldK K (xv 0)))), ?_⟩
    exact ⟨x, T.C_Patches, dx, _, _, rfl, S _ _ h1, T.cl_Patches, T.na_Patches_last_page, (by rw [lk_ne, lk_eq]), q pe h3⟩

end
end K19
set_option Elab.async false
set_option linter.all false
set_option maxRecDepth 100000
set_option maxHeartbeats 4000000
namespace K19
open PySem PySem.Spec PyProof.Rows L2 XL
section
variable {P : Program} {w : World} {K : PySem.W.Frag} {mg : Str → Option Value} {base : Heap}
/-! ### from_below -/
def spBelow (K : PySem.W.Frag) : Sp := fun vs H Q _ => ∃ (G : Hp) (M : List (Addr × HO)) (v : V) (t : Tr), vs = [v] ∧ Sep G M H ∧ Dp K G v (toD t) ∧ (pre t).length ≤ 1000 ∧
  ∀ (l : Addr) (us : List V) (G' H' : Hp), Same G G' → G' l = some (.lst us) → DpAll K G' us ((post t).map toD) → Sep G' M H' → Q (.ref l) H'
theorem ok_from_below (T : Top K mg w) {k : Nat} : FnOk P w K mg base CX0 (k + 1) T.a_from_below T.d_from_below ["root"] (spBelow K) := by
  refine T.F_from_below.ok sc_from_below (fun vs H Q E h => ?_) (fun cdv A outer s H vs Q E hr h => ?_)
  · obtain ⟨G, M, v, t, rfl, _⟩ := h
    rfl
  · obtain ⟨G, M, v, t, rfl, S, hv, pl, q⟩ := h
    refine ⟨_, (pss_cons (ps_set (i := 1) sc_from_below.nd rfl (.inl rfl) (pe_lst pa_nil))
      (pss_cons (ps_set (i := 2) sc_from_below.nd rfl (.inl rfl) (pe_lst (pa_cons (xv 0) pa_nil)))
      (pss_cons (xs_while PassesOwn.never (xt_truK K (xv 2))
      (pss_cons (ps_set (i := 3) sc_from_below.nd rfl (.inl rfl) (pe_bm0 PySem.F.plainAttrs_list PySem.F.slot_list_pop PySem.F.type_list_pop mt_pop (xv 2)))
      (pss_cons (ps_expr (pe_bmK K PySem.F.plainAttrs_list PySem.F.slot_list_append PySem.F.type_list_append mt_append (xv 1) (pa_cons (xv 3) pa_nil)))
      (pss_one (ps_expr (pe_bmK K PySem.F.plainAttrs_list PySem.F.slot_list_extend PySem.F.type_list_extend (mt_extT K) (xv 2) (pa_cons (pe_ix (ix_k K) (xv 3) pe_int (fun _ _ => rfl)) pa_nil)))))))
      (pss_one (ps_ret (pe_revK K (xv 1) (pe_str (pe_un un_neg pe_int) fun _ _ _ h => ⟨1, rfl, h⟩))))))), ?_⟩
    refine ⟨sz, fun O nO => ?_⟩
    have S1 := S.new (o := .lst []) nO
    refine ⟨sz, fun W nW => ?_⟩
    have S2 := S1.new (o := .lst [v]) nW
    have ppl := (post_perm t).length_eq
    refine ⟨fun m σ H' => ∃ (y3 : Option V) (os ws : List V) (dn ts : List Tr), σ = [some v, some (.ref O), some (.ref W), y3] ∧ m = (posts ts).length ∧ posts ts ++ dn.reverse = post t ∧ DpAll K G os (dn.map toD) ∧ DpAll K G ws (ts.map toD) ∧ Sep G ((W, .lst ws) :: (O, .lst os) :: M) H',
      ⟨(post t).length, _, [], [v], [], [t], rfl, by rw [posts_one], by rw [posts_one]; simp, .nil, dpa_one hv, S2⟩, fun m σ H' h => ?_⟩
    obtain ⟨y3, os, ws, dn, ts, rfl, rfl, hall, hos, hws, S3⟩ := h
    have al := congrArg List.length hall
    rw [List.length_append, List.length_reverse] at al
    have ol := dpa_len hos
    rw [List.length_map] at ol
    have wl := dpa_len hws
    rw [List.length_map] at wl
    have tl := many_le ts
    rw [← (posts_perm ts).length_eq] at tl
    rcases nil_or_snoc ws with ew | ⟨wp, w0, ew⟩
    · subst ew
      refine ⟨!([] : List V).isEmpty, .inl ⟨_, SqL.of S3.hd, rfl⟩, (fun e => nomatch e), fun _ => ?_⟩
      have e0 : ts = [] := List.length_eq_zero_iff.mp wl.symm
      subst e0
      have e1 : dn.reverse = post t := by simpa [posts] using hall
      refine ⟨O, os, rfl, SqL.of S3.sw.hd, fun p4 np4 => ?_⟩
      obtain ⟨G4, s4, S4, h4⟩ := Sep.mk (o := .lst os.reverse) S3 np4
      refine q p4 _ G4 _ s4 h4 ?_ S4.drop.drop
      rw [← e1, List.map_reverse]
      exact dpa_rev (dpa_same s4 hos)
    · subst ew
      have ne : (!(wp ++ [w0]).isEmpty) = true := by simp
      refine ⟨!(wp ++ [w0]).isEmpty, .inl ⟨_, SqL.of S3.hd, rfl⟩, fun _ => ?_, fun e => absurd (ne.symm.trans e) (by decide)⟩
      obtain ⟨ds', d, eds, hwp, hw0⟩ := dpa_unsnoc hws
      obtain ⟨tr, t0, ets, emp, rfl⟩ := map_snoc eds
      subst ets
      have S4 := S3.set (o' := .lst wp)
      refine ⟨.inl ⟨rfl, _, SqL.of S3.hd⟩, W, wp ++ [w0], w0, rfl, rfl, S3.hd, by simp, ?_⟩
      rw [List.dropLast_concat]
      have S5 := S4.sw.set (o' := .lst (os ++ [w0]))
      refine ⟨.inl ⟨rfl, _, SqL.of S4.sw.hd⟩, O, os, w0, rfl, rfl, S4.sw.hd, smallL (by omega), ?_⟩
      obtain ⟨a0, kv, kus, rfl, ha0, hkv, hkus⟩ := node_at hw0
      have kl := dpa_len hkus
      rw [List.length_map] at kl
      have kml := many_le (kids t0)
      have pe : posts (tr ++ [t0]) = posts (tr ++ kids t0) ++ [t0] := by rw [posts_app, posts_one, post_eq, posts_app, List.append_assoc]
      have pe2 := congrArg List.length pe
      have pe3 := congrArg List.length (posts_app tr (kids t0))
      rw [List.length_append, (posts_perm (kids t0)).length_eq] at pe3
      rw [List.length_append, List.length_singleton] at pe2
      rw [pe] at hall
      rw [List.length_append, List.length_singleton, List.length_append, List.length_singleton] at wl
      have trl := many_le tr
      rw [← (posts_perm tr).length_eq] at trl
      refine ⟨.inl ⟨rfl, _, SqL.of S5.sw.hd⟩, _, _, .inr (S5.t ha0), atI_nat (j := 2) rfl, W, kv, wp, kus, rfl, rfl, S5.sw.hd, S5.t hkv, small (by omega), ?_⟩
      refine ⟨(posts (tr ++ kids t0)).length, by rw [pe, List.length_append]; simp, _, os ++ [.ref a0], wp ++ kus, dn ++ [t0], tr ++ kids t0, rfl, rfl, ?_, ?_, ?_, S5.sw.set⟩
      · rw [List.reverse_append, ← hall, List.append_assoc]
        rfl
      · rw [List.map_append]
        exact dpa_app hos (dpa_one hw0)
      · rw [List.map_append, emp]
        exact dpa_app hwp hkus
/-! ### pages -/

/-! ### measure, Page.top, rectangles -/
def Pr (G : Hp) (v : V) (p : Int × Int) : Prop := ∃ a, v = .ref a ∧ G a = some (.tup [.int p.1, .int p.2])
theorem Pr.same {G G' : Hp} (e : Same G G') {v : V} {p : Int × Int} (h : Pr G v p) : Pr G' v p := by
  obtain ⟨a, h1, h2⟩ := h
  exact ⟨a, h1, e _ _ h2⟩
def spMeasure (K : PySem.W.Frag) : Sp := fun as H Q _ => ∃ (G : Hp) (M : List (Addr × HO)) (z : Str) (t : Addr) (vs : List V) (ps : List (Int × Int)), as = [.str z, .ref t] ∧ Sep G M H ∧ z.length ≤ 100 ∧ G t = some (.tup vs) ∧ Paired (Pr G) vs ps ∧
  ∀ (v : V) (G' H' : Hp), Pr G' v (msr z ps) → Same G G' → Sep G' M H' → Q v H'
theorem ok_measure (T : Top K mg w) {k : Nat} : FnOk P w K mg base CX0 (k + 1) T.a_measure T.d_measure ["label", "sizes"] (spMeasure K) := by
  refine T.F_measure.ok sc_measure (fun vs H Q E h => ?_) (fun cdv A outer s H vs Q E hr h => ?_)
  · obtain ⟨G, M, z, t, vs, ps, rfl, _⟩ := h
    rfl
  · obtain ⟨G, M, z, t, vs, ps, rfl, S, hz, ht, hp, q⟩ := h
    refine ⟨_, (pss_cons (xs_if (pt_not (xt_truK K (xv 1)))
      (pss_cons (xs_if (PW.pt (xw_or (xt_cmp (op_eqLK K hr.u190) (xv 0) pe_str (nomark _)) (pw_or1 (xt_cmp (op_eqLK K hr.u190) (xv 0) pe_str (nomark _)))))
      (pss_one (ps_ret (pe_tup (pa_cons pe_int (pa_cons pe_int pa_nil)))))
      pss_nil)
      (pss_one (ps_ret (pe_tup (pa_cons (pe_callB (cr_lenK K) (by rfl) T.m_len (by decide +kernel) (pa_cons (xv 0) pa_nil)) (pa_cons pe_int pa_nil))))))
      pss_nil)
      (pss_cons (ps_set (i := 2) sc_measure.nd rfl (.inl rfl) pe_int)
      (pss_cons (ps_set (i := 3) sc_measure.nd rfl (.inl rfl) pe_int)
      (pss_cons (ps_for PassesOwn.never rfl (pi_tupK K (xv 1)) (pg_tupK K 2 (pgs_cons (pg_name (i := 4) sc_measure.nd rfl (.inl rfl)) (pgs_cons (pg_name (i := 5) sc_measure.nd rfl (.inl rfl)) pgs_nil)))
      (pss_one (xs_if (xt_cmp (op_eqLK K hr.u190) (xv 0) pe_str (nomark _))
      (pss_cons (ps_set (i := 2) sc_measure.nd rfl (.inl rfl) (pe_op op_addY (xv 2) (xv 4)))
      (pss_one (xs_if (xt_cmp op_gtY (xv 5) (xv 3) (nomark _))
      (pss_one (ps_set (i := 3) sc_measure.nd rfl (.inl rfl) (xv 5)))
      pss_nil)))
      (pss_cons (ps_set (i := 3) sc_measure.nd rfl (.inl rfl) (pe_op op_addY (xv 3) (xv 5)))
      (pss_one (xs_if (xt_cmp op_gtY (xv 4) (xv 2) (nomark _))
      (pss_one (ps_set (i := 2) sc_measure.nd rfl (.inl rfl) (xv 4)))
      pss_nil))))))
      (pss_one (ps_ret (pe_tup (pa_cons (xv 2) (pa_cons (xv 3) pa_nil))))))))), ?_⟩
    have ret : ∀ (p : Addr) (u v : Int), (u, v) = msr z ps → H p = none → Q (.ref p) (upd H p (.tup [.int u, .int v])) := fun p u v e np =>
      q (.ref p) _ _ ⟨p, rfl, by rw [← e]; exact upd_same⟩ (S.grow np) (S.newG np)
    refine ⟨!vs.isEmpty, .inr (.inl ⟨vs, SqT.of (S.st ht), rfl⟩), fun e => ?_, fun e => ?_⟩
    · -- no children
      have ev : vs = [] := by cases vs with
        | nil => rfl
        | cons _ _ => exact nomatch e
      subst ev
      cases hp
      refine ⟨fun e => ⟨fun _ => ⟨sz, fun p np => ret p _ _ ?_ np⟩, fun e => nomatch e⟩, fun e => ⟨fun e2 => ⟨sz, fun p np => ret p _ _ ?_ np⟩, fun e2 => ⟨small (by omega), sz, fun p np => ret p _ _ ?_ np⟩⟩⟩
      · unfold msr
        rw [if_pos rfl, if_pos (.inl (of_decide_eq_true e))]
      · unfold msr
        rw [if_pos rfl, if_pos (.inr (of_decide_eq_true e2))]
      · unfold msr
        rw [if_pos rfl, if_neg]
        rintro (h | h)
        · exact of_decide_eq_false e h
        · exact of_decide_eq_false e2 h
    · have hne : ps ≠ [] := by
        rintro rfl
        cases hp
        exact nomatch e
      refine ⟨t, rfl, ⟨vs, SqT.of (S.st ht)⟩, for_tup (xs := vs) (fun i σ H' => ∃ y4 y5, σ = [some (.str z), some (.ref t), some (.int ((ps.take i).foldl (stp z) (0, 0)).1), some (.int ((ps.take i).foldl (stp z) (0, 0)).2), y4, y5] ∧ H' = H)
        ⟨_, _, rfl, rfl⟩ (fun i σ H' _ h => ?_) (fun i x σ H' hx h => ?_) (fun σ H' h => ?_)⟩
      · obtain ⟨_, _, _, rfl⟩ := h
        exact SqT.of (S.st ht)
      · obtain ⟨y4, y5, rfl, rfl⟩ := h
        obtain ⟨p, hpi, a, rfl, ha⟩ := prd_get hp hx
        have e1 := take_snoc hpi
        generalize hA : (ps.take i).foldl (stp z) (0, 0) = A at *
        have e2 : (ps.take (i + 1)).foldl (stp z) (0, 0) = stp z A p := by rw [e1, List.foldl_append, hA]; rfl
        refine ⟨a, _, rfl, SqT.of (S.st ha), rfl, _, _, rfl, _, _, rfl, rfl, fun e => ⟨fun e3 => ?_, fun e3 => ?_⟩, fun e => ⟨fun e3 => ?_, fun e3 => ?_⟩⟩
        · refine ⟨some (.int p.1), some (.int p.2), ?_, rfl⟩
          rw [e2]
          unfold stp
          rw [if_pos (of_decide_eq_true e), if_pos (of_decide_eq_true e3)]
          rfl
        · refine ⟨some (.int p.1), some (.int p.2), ?_, rfl⟩
          rw [e2]
          unfold stp
          rw [if_pos (of_decide_eq_true e), if_neg (of_decide_eq_false e3)]
          rfl
        · refine ⟨some (.int p.1), some (.int p.2), ?_, rfl⟩
          rw [e2]
          unfold stp
          rw [if_neg (of_decide_eq_false e), if_pos (of_decide_eq_true e3)]
          rfl
        · refine ⟨some (.int p.1), some (.int p.2), ?_, rfl⟩
          rw [e2]
          unfold stp
          rw [if_neg (of_decide_eq_false e), if_neg (of_decide_eq_false e3)]
          rfl
      · obtain ⟨y4, y5, rfl, rfl⟩ := h
        rw [prd_len hp, List.take_length]
        refine ⟨sz, fun p np => ret p _ _ ?_ np⟩
        unfold msr
        rw [if_neg hne]

end
end K19
set_option Elab.async false
set_option linter.all false
set_option maxRecDepth 100000
set_option maxHeartbeats 4000000
namespace K19
open PySem PySem.Spec PyProof.Rows L2 XL
section
variable {P : Program} {w : World} {K : PySem.W.Frag} {mg : Str → Option Value} {base : Heap}
/-! ### rectangles -/
def SzOk (G : Hp) (kvs : List (Key × V)) (t : Tr) : Prop := ∀ p ∈ pre t, ∃ v, valV kvs (Sum.inr (mrk p)) = some v ∧ Pr G v (meas p)
def BxAt (G : Hp) (kv : Key × V) (r : Str × Bx) : Prop := kv.1 = Sum.inr r.1 ∧ ∃ a, kv.2 = .ref a ∧ G a = some (.tup [.int r.2.1, .int r.2.2.1, .int r.2.2.2.1, .int r.2.2.2.2])
theorem BxAt.same {G G' : Hp} (e : Same G G') {kv : Key × V} {r : Str × Bx} (h : BxAt G kv r) : BxAt G' kv r := by
  obtain ⟨h1, a, h2, h3⟩ := h
  exact ⟨h1, a, h2, e _ _ h3⟩
def WrAt (K : PySem.W.Frag) (G : Hp) (v : V) (f : Tr × Int × Int) : Prop := ∃ a nv, v = .ref a ∧ G a = some (.tup [nv, .int f.2.1, .int f.2.2]) ∧ Dp K G nv (toD f.1)
theorem WrAt.same {K : PySem.W.Frag} {G G' : Hp} (e : Same G G') {v : V} {f : Tr × Int × Int} (h : WrAt K G v f) : WrAt K G' v f := by
  obtain ⟨a, nv, h1, h2, h3⟩ := h
  exact ⟨a, nv, h1, e _ _ h2, dp_same e h3⟩
def spRect (K : PySem.W.Frag) : Sp := fun vs H Q _ => ∃ (G : Hp) (M : List (Addr × HO)) (v : V) (t : Tr) (sd : Addr) (kvs : List (Key × V)), vs = [v, .ref sd] ∧ Sep G M H ∧ Dp K G v (toD t) ∧ G sd = some (.dK kvs) ∧ SzOk G kvs t ∧ ((pre t).map mrk).Nodup ∧ (pre t).length ≤ 400 ∧
  ∀ (D : Addr) (kp : List (Key × V)) (G' H' : Hp), Same G G' → G' D = some (.dK kp) → Paired (BxAt G') kp (rects 0 0 t) → Sep G' M H' → Q (.ref D) H'
theorem prd_keys {G : Hp} : ∀ {kp : List (Key × V)} {rs : List (Str × Bx)}, Paired (BxAt G) kp rs → kp.map (·.1) = rs.map fun r => (Sum.inr r.1 : Key)
  | _, _, .nil => rfl
  | _, _, .cons h t => by rw [List.map_cons, List.map_cons, h.1, prd_keys t]
theorem prd_rev {α β : Type} {F : α → β → Prop} : ∀ {xs : List α} {ys : List β}, Paired F xs ys → Paired F xs.reverse ys.reverse
  | _, _, .nil => .nil
  | _, _, .cons r t => by
    rw [List.reverse_cons, List.reverse_cons]
    exact prd_app (prd_rev t) (.cons r .nil)
theorem offs_snoc (row : Bool) : ∀ (ks : List Tr) (x y : Int) (k : Tr), ∃ x' y', offs row x y (ks ++ [k]) = offs row x y ks ++ [(k, x', y')]
  | [], x, y, k => ⟨x, y, rfl⟩
  | c :: ks, x, y, k => by
    obtain ⟨x', y', e⟩ := offs_snoc row ks (if row then x + (meas c).1 else x) (if row then y else y + (meas c).2) k
    exact ⟨x', y', by simp only [List.cons_append, offs, e]⟩
/-- the corner behind some children -/
def cor (row : Bool) (x y : Int) : List Tr → Int × Int
  | [] => (x, y)
  | k :: r => cor row (if row then x + (meas k).1 else x) (if row then y else y + (meas k).2) r
theorem offs_cor (row : Bool) : ∀ (ks : List Tr) (x y : Int) (k : Tr), offs row x y (ks ++ [k]) = offs row x y ks ++ [(k, (cor row x y ks).1, (cor row x y ks).2)]
  | [], x, y, k => rfl
  | c :: ks, x, y, k => by simp only [List.cons_append, offs, cor, offs_cor row ks]
theorem cor_snoc (row : Bool) : ∀ (ks : List Tr) (x y : Int) (k : Tr), cor row x y (ks ++ [k]) = (if row then (cor row x y ks).1 + (meas k).1 else (cor row x y ks).1, if row then (cor row x y ks).2 else (cor row x y ks).2 + (meas k).2)
  | [], x, y, k => rfl
  | c :: ks, x, y, k => by simp only [List.cons_append, cor, cor_snoc row ks]
theorem offs_len (row : Bool) : ∀ (ks : List Tr) (x y : Int), (offs row x y ks).length = ks.length
  | [], _, _ => rfl
  | k :: r, x, y => by simp only [offs, List.length_cons, offs_len row r]
theorem offs_mem (row : Bool) {f : Tr × Int × Int} : ∀ {ks : List Tr} {x y : Int}, f ∈ offs row x y ks → f.1 ∈ ks
  | k :: r, x, y, h => by
    simp only [offs, List.mem_cons] at h
    rcases h with rfl | h
    · simp
    · exact List.mem_cons_of_mem _ (offs_mem row h)
theorem fs_le : ∀ fs : List (Tr × Int × Int), fs.length ≤ (rectF fs).length
  | [] => by simp
  | (t, x, y) :: r => by
    have := fs_le r
    simp only [rectF, List.length_append, List.length_cons, rects_eq]
    omega
mutual
theorem pre_trns {p q : Tr} : ∀ t, q ∈ pre t → p ∈ pre q → p ∈ pre t
  | .node m l ks, h, hp => by
    simp only [pre, List.mem_cons] at h ⊢
    rcases h with rfl | h
    · simpa only [pre, List.mem_cons] using hp
    · exact .inr (pres_trns ks h hp)
theorem pres_trns {p q : Tr} : ∀ ts, q ∈ pres ts → p ∈ pre q → p ∈ pres ts
  | [], h, _ => by simp [pres] at h
  | t :: r, h, hp => by
    simp only [pres, List.mem_append] at h ⊢
    rcases h with h | h
    · exact .inl (pre_trns t h hp)
    · exact .inr (pres_trns r h hp)
end
theorem kid_prR {c p t : Tr} (h : p ∈ pre t) (hc : c ∈ kids p) : c ∈ pre t := pre_trns t h (by rw [pre_eq]; exact List.mem_cons_of_mem _ (mem_pres.mpr ⟨c, hc, self_pre c⟩))
theorem ok_rectangles (T : Top K mg w) {k : Nat} : FnOk P w K mg base CX0 (k + 1) T.a_rectangles T.d_rectangles ["root", "sizes"] (spRect K) := by
  refine T.F_rectangles.ok sc_rectangles (fun vs H Q E h => ?_) (fun cdv A outer s H vs Q E hr h => ?_)
  · obtain ⟨G, M, v, t, sd, kvs, rfl, _⟩ := h
    rfl
  · obtain ⟨G, M, v, t, sd, kvs, rfl, S, hv, hsd, hsz, nd, pl, q⟩ := h
    refine ⟨_, (pss_cons (ps_set (i := 2) sc_rectangles.nd rfl (.inl rfl) pe_dnewK)
      (pss_cons (ps_set (i := 3) sc_rectangles.nd rfl (.inl rfl) (pe_lst (pa_cons (pe_tup (pa_cons (xv 0) (pa_cons pe_int (pa_cons pe_int pa_nil)))) pa_nil)))
      (pss_cons (xs_while PassesOwn.never (xt_truK K (xv 3))
      (pss_cons (ps_asg (pe_bm0 PySem.F.plainAttrs_list PySem.F.slot_list_pop PySem.F.type_list_pop mt_pop (xv 3)) (pg_tupK K 3 (pgs_cons (pg_name (i := 4) sc_rectangles.nd rfl (.inl rfl)) (pgs_cons (pg_name (i := 5) sc_rectangles.nd rfl (.inl rfl)) (pgs_cons (pg_name (i := 6) sc_rectangles.nd rfl (.inl rfl)) pgs_nil)))))
      (pss_cons (ps_asg (pe_dget (hu_of hr) (xv 1) (pe_ix (ix_k K) (xv 4) pe_int (fun _ _ => rfl)) (fun _ _ => rfl)) (pg_tupK K 2 (pgs_cons (pg_name (i := 7) sc_rectangles.nd rfl (.inl rfl)) (pgs_cons (pg_name (i := 8) sc_rectangles.nd rfl (.inl rfl)) pgs_nil))))
      (pss_cons (ps_dput (hu_of hr) (xv 2) (pe_ix (ix_k K) (xv 4) pe_int (fun _ _ => rfl)) (pe_tup (pa_cons (xv 5) (pa_cons (xv 6) (pa_cons (xv 7) (pa_cons (xv 8) pa_nil))))) rfl)
      (pss_cons (ps_set (i := 9) sc_rectangles.nd rfl (.inl rfl) (pe_lst pa_nil))
      (pss_cons (ps_for PassesOwn.never rfl (pi_tupK K (pe_ix (ix_k K) (xv 4) pe_int (fun _ _ => rfl))) (pg_name (i := 10) sc_rectangles.nd rfl (.inl rfl))
      (pss_cons (ps_expr (pe_bmK K PySem.F.plainAttrs_list PySem.F.slot_list_append PySem.F.type_list_append mt_append (xv 9) (pa_cons (pe_tup (pa_cons (xv 10) (pa_cons (xv 5) (pa_cons (xv 6) pa_nil)))) pa_nil)))
      (pss_one (xs_if (xt_cmp (op_eqLK K hr.u190) (pe_ix (ix_k K) (xv 4) pe_int (fun _ _ => rfl)) pe_str (nomark _))
      (pss_one (ps_set (i := 5) sc_rectangles.nd rfl (.inl rfl) (pe_op op_addY (xv 5) (pe_ix (ix_k K) (pe_dget (hu_of hr) (xv 1) (pe_ix (ix_k K) (xv 10) pe_int (fun _ _ => rfl)) (fun _ _ => rfl)) pe_int (fun _ _ => rfl)))))
      (pss_one (ps_set (i := 6) sc_rectangles.nd rfl (.inl rfl) (pe_op op_addY (xv 6) (pe_ix (ix_k K) (pe_dget (hu_of hr) (xv 1) (pe_ix (ix_k K) (xv 10) pe_int (fun _ _ => rfl)) (fun _ _ => rfl)) pe_int (fun _ _ => rfl)))))))))
      (pss_one (ps_expr (pe_bmK K PySem.F.plainAttrs_list PySem.F.slot_list_extend PySem.F.type_list_extend mt_extend (xv 3) (pa_cons (pe_revK K (xv 9) (pe_str (pe_un un_neg pe_int) fun _ _ _ h => ⟨1, rfl, h⟩)) pa_nil))))))))))
      (pss_one (ps_ret (xv 2)))))), ?_⟩
    refine fun D nD => ?_
    have S1 := S.new (o := .dK []) nD
    refine ⟨sz, fun p1 np1 => ?_⟩
    obtain ⟨G2, s2, S2, h2⟩ := Sep.mk (o := .tup [v, .int 0, .int 0]) S1 np1
    refine ⟨sz, fun W nW => ?_⟩
    have S3 := S2.new (o := .lst [.ref p1]) nW
    have rl : (rects 0 0 t).length = (pre t).length := by
      have e := congrArg List.length (rects_marks 0 0 t)
      rw [List.length_map, List.length_map] at e
      exact e
    refine ⟨fun m σ H' => ∃ (y4 y5 y6 y7 y8 y9 y10 : Option V) (ws : List V) (fs : List (Tr × Int × Int)) (kp : List (Key × V)) (dn : List (Str × Bx)) (G' : Hp), σ = [some v, some (.ref sd), some (.ref D), some (.ref W), y4, y5, y6, y7, y8, y9, y10] ∧ Same G2 G' ∧ m = (rectF fs).length ∧ dn ++ rectF fs = rects 0 0 t ∧
      Paired (WrAt K G') ws fs.reverse ∧ Paired (BxAt G') kp dn ∧ (∀ f ∈ fs, f.1 ∈ pre t) ∧ Sep G' ((W, .lst ws) :: (D, .dK kp) :: M) H',
      ⟨_, _, _, _, _, _, _, _, [.ref p1], [(t, 0, 0)], [], [], G2, rfl, Same.refl _, rfl, by simp only [rectF, List.append_nil, List.nil_append], .cons ⟨p1, v, rfl, h2, dp_same s2 hv⟩ .nil, .nil, fun f hf => ?_, S3⟩, fun m σ H' h => ?_⟩
    · rw [List.mem_singleton.mp hf]
      exact self_pre t
    obtain ⟨y4, y5, y6, y7, y8, y9, y10, ws, fs, kp, dn, G3, rfl, s3, rfl, hall, hws, hkp, hfs, S4⟩ := h
    have al := congrArg List.length hall
    rw [List.length_append, rl] at al
    have kpl := prd_len hkp
    have wl := prd_len hws
    rw [List.length_reverse] at wl
    have fle := fs_le fs
    have s03 := s2.trans s3
    rcases nil_or_snoc ws with ew | ⟨wp, w0, ew⟩
    · subst ew
      refine ⟨!([] : List V).isEmpty, .inl ⟨_, SqL.of S4.hd, rfl⟩, (fun e => nomatch e), fun _ => ?_⟩
      have e0 : fs = [] := List.length_eq_zero_iff.mp wl.symm
      subst e0
      have e1 : dn = rects 0 0 t := by simpa [rectF] using hall
      rw [e1] at hkp
      have S5 := S4.drop
      exact q D kp _ _ (s03.trans S5.frzS) upd_same (prd_imp (fun _ _ => BxAt.same S5.frzS) hkp) S5.frz
    · subst ew
      have ne : (!(wp ++ [w0]).isEmpty) = true := by simp
      refine ⟨!(wp ++ [w0]).isEmpty, .inl ⟨_, SqL.of S4.hd, rfl⟩, fun _ => ?_, fun e => absurd (ne.symm.trans e) (by decide)⟩
      obtain ⟨fr, f0, efr, hwp, hw0⟩ := prd_unsnoc hws
      obtain ⟨ft, eft, etr⟩ := rev_cons efr
      subst eft
      obtain ⟨t0, x0, y0⟩ := f0
      obtain ⟨a1, nv, rfl, ha1, hnv⟩ := hw0
      obtain ⟨a0, kv, kus, rfl, ha0, hkv, hkus⟩ := node_at hnv
      have ht0 : t0 ∈ pre t := hfs _ List.mem_cons_self
      have S5 := S4.set (o' := .lst wp)
      refine ⟨.inl ⟨rfl, _, SqL.of S4.hd⟩, W, wp ++ [V.ref a1], .ref a1, rfl, rfl, S4.hd, by simp, ?_⟩
      rw [List.dropLast_concat]
      refine ⟨a1, _, rfl, SqT.of (S5.st ha1), rfl, _, _, rfl, _, _, rfl, _, _, rfl, rfl, ?_⟩
      obtain ⟨sv, hsv, as, rfl, has⟩ := hsz t0 ht0
      have has := s03 _ _ has
      have hsd3 := s03 _ _ hsd
      refine ⟨_, _, .inr (S5.t ha0), atI_nat (j := 0) rfl, sd, _, rfl, hsv ▸ DGet.k (k := Sum.inr (mrk t0)) (S5.st hsd3), ?_⟩
      refine ⟨as, _, rfl, SqT.of (S5.st has), rfl, _, _, rfl, _, _, rfl, rfl, ?_⟩
      refine ⟨sz, fun p6 np6 => ?_⟩
      obtain ⟨G6, s6, S6, h6⟩ := Sep.mk (o := .tup [.int x0, .int y0, .int (meas t0).1, .int (meas t0).2]) S5 np6
      have er : rectF ((t0, x0, y0) :: ft) = (mrk t0, (x0, y0, (meas t0).1, (meas t0).2)) :: (rectF (offs (decide (lbl t0 = "row")) x0 y0 (kids t0) ++ ft)) := by
        simp only [rectF, rects_eq, rectss_eq, rectF_app, List.cons_append]
      rw [er] at hall al fle
      rw [List.length_cons] at al fle wl
      have free : valV kp (Sum.inr (mrk t0)) = none := valV_none (by
        rw [prd_keys hkp]
        intro hm
        obtain ⟨r, hr1, hr2⟩ := List.mem_map.mp hm
        have e1 := rects_marks 0 0 t
        rw [← hall, List.map_append, List.map_cons] at e1
        rw [← e1, List.nodup_append] at nd
        exact nd.2.2 _ (List.mem_map_of_mem hr1) _ List.mem_cons_self (Sum.inr.inj hr2))
      refine ⟨_, _, .inr (S6.t (same_t s6 ha0)), atI_nat (j := 0) rfl, D, _, rfl, DPut.k (k := Sum.inr (mrk t0)) S6.sw.hd (smallL (by omega)), ?_⟩
      rw [putK_new free]
      have S7 := S6.sw.set (o' := .dK (kp ++ [(Sum.inr (mrk t0), V.ref p6)]))
      refine ⟨sz, fun Bn nB => ?_⟩
      have S8 := S7.new (o := .lst []) nB
      have s36 := s3.trans s6
      have kl := dpa_len hkus
      rw [List.length_map] at kl
      have kml := fs_le (offs (decide (lbl t0 = "row")) x0 y0 (kids t0) ++ ft)
      rw [List.length_append, offs_len] at kml
      refine ⟨_, _, .inr (S8.t (same_t s6 ha0)), atI_nat (j := 2) rfl, kv, rfl, ⟨kus, S8.t (same_t s6 hkv)⟩, for_tup (xs := kus) (fun j σ H' => ∃ (y10 : Option V) (bs : List V) (G' : Hp), σ = [some v, some (.ref sd), some (.ref D), some (.ref W), some (.ref a0), some (.int (cor (decide (lbl t0 = "row")) x0 y0 ((kids t0).take j)).1), some (.int (cor (decide (lbl t0 = "row")) x0 y0 ((kids t0).take j)).2), some (.int (meas t0).1), some (.int (meas t0).2), some (.ref Bn), y10] ∧
        Same G6 G' ∧ Paired (WrAt K G') bs (offs (decide (lbl t0 = "row")) x0 y0 ((kids t0).take j)) ∧ Sep G' ((Bn, .lst bs) :: (D, .dK (kp ++ [(Sum.inr (mrk t0), V.ref p6)])) :: (W, .lst wp) :: M) H') ⟨_, [], G6, rfl, Same.refl _, .nil, S8⟩ (fun j σ H' _ h => ?_) (fun j c σ H' hc h => ?_) (fun σ H' h => ?_)⟩
      · obtain ⟨_, _, G', _, s', _, S'⟩ := h
        exact S'.t (same_t (s6.trans s') hkv)
      · obtain ⟨y10, bs, G9, rfl, s9, hbs, S9⟩ := h
        obtain ⟨d, hd, hcd⟩ := dpa_get hkus hc
        obtain ⟨pc, hpc, rfl⟩ := map_get hd
        obtain ⟨ac, kvc, kusc, rfl, hac, _, _⟩ := node_at hcd
        have s39 := s6.trans s9
        have bl := prd_len hbs
        rw [offs_len, List.length_take] at bl
        refine ⟨.inl ⟨rfl, _, SqL.of S9.hd⟩, sz, fun p10 np10 => ?_⟩
        obtain ⟨G10, s10, S10, h10⟩ := Sep.mk (o := .tup [.ref ac, .int (cor (decide (lbl t0 = "row")) x0 y0 ((kids t0).take j)).1, .int (cor (decide (lbl t0 = "row")) x0 y0 ((kids t0).take j)).2]) S9 np10
        have s310 := s39.trans s10
        refine ⟨Bn, bs, _, rfl, rfl, S10.hd, smallL (by omega), ?_⟩
        have S11 := S10.set (o' := .lst (bs ++ [V.ref p10]))
        obtain ⟨svc, hsvc, asc, rfl, hasc⟩ := hsz pc (kid_prR ht0 (List.mem_of_getElem? hpc))
        have hasc := (s03.trans s310) _ _ hasc
        have hsdc := (s03.trans s310) _ _ hsd
        have hbs' : Paired (WrAt K G10) (bs ++ [V.ref p10]) (offs (decide (lbl t0 = "row")) x0 y0 ((kids t0).take (j + 1))) := by
          rw [take_snoc hpc, offs_cor]
          exact prd_app (prd_imp (fun _ _ => WrAt.same s10) hbs) (.cons ⟨p10, .ref ac, rfl, h10, dp_same s310 hcd⟩ .nil)
        refine ⟨_, _, .inr (S11.t (same_t s310 ha0)), atI_nat (j := 1) rfl, fun e => ?_, fun e => ?_⟩
        · refine ⟨_, _, .inr (S11.t (same_t s310 hac)), atI_nat (j := 0) rfl, sd, .ref asc, rfl, hsvc ▸ DGet.k (k := Sum.inr (mrk pc)) (S11.st hsdc), _, _, .inr (SqT.of (S11.st hasc)), atI_nat (j := 0) rfl, ?_⟩
          refine ⟨some (.ref ac), _, G10, ?_, s9.trans s10, hbs', S11⟩
          rw [take_snoc hpc, cor_snoc, e] <;> rfl
        · refine ⟨_, _, .inr (S11.t (same_t s310 hac)), atI_nat (j := 0) rfl, sd, .ref asc, rfl, hsvc ▸ DGet.k (k := Sum.inr (mrk pc)) (S11.st hsdc), _, _, .inr (SqT.of (S11.st hasc)), atI_nat (j := 1) rfl, ?_⟩
          refine ⟨some (.ref ac), _, G10, ?_, s9.trans s10, hbs', S11⟩
          rw [take_snoc hpc, cor_snoc, e] <;> rfl
      · obtain ⟨y10, bs, G9, rfl, s9, hbs, S9⟩ := h
        rw [kl, List.take_length] at hbs
        have bl : bs.length = (kids t0).length := by rw [prd_len hbs, offs_len]
        have SW := S9.perm (List.perm_append_comm_assoc [_, _] [_] _)
        refine ⟨.inl ⟨rfl, _, SqL.of SW.hd⟩, Bn, bs, rfl, SqL.of S9.hd, fun p11 np11 => ?_⟩
        have S10 := SW.new (o := .lst bs.reverse) np11
        have wl' : wp.length = ft.length := by
          have := prd_len hwp
          rw [← etr, List.length_reverse] at this
          exact this
        refine ⟨W, p11, wp, bs.reverse, rfl, rfl, S10.sw.hd, S10.hd, small (by rw [List.length_reverse, bl]; omega), ?_⟩
        have S11 := S10.sw.set (o' := .lst (wp ++ bs.reverse))
        have S12 := (S11.sw.drop).sw.drop.sw
        refine ⟨(rectF (offs (decide (lbl t0 = "row")) x0 y0 (kids t0) ++ ft)).length, by rw [er, List.length_cons]; omega, _, _, _, _, _, _, _, wp ++ bs.reverse, offs (decide (lbl t0 = "row")) x0 y0 (kids t0) ++ ft, kp ++ [(Sum.inr (mrk t0), V.ref p6)], dn ++ [(mrk t0, (x0, y0, (meas t0).1, (meas t0).2))], G9, rfl, s3.trans (s6.trans s9), rfl, ?_, ?_, ?_, ?_, S12.sw⟩
        · rw [List.append_assoc]
          exact hall
        · rw [List.reverse_append, etr]
          exact prd_app (prd_imp (fun _ _ => WrAt.same (s6.trans s9)) hwp) (prd_rev hbs)
        · exact prd_app (prd_imp (fun _ _ => BxAt.same (s6.trans s9)) hkp) (.cons ⟨rfl, p6, rfl, s9 _ _ h6⟩ .nil)
        · intro f hf
          rcases List.mem_append.mp hf with h | h
          · exact kid_prR ht0 (offs_mem _ h)
          · exact hfs f (List.mem_cons_of_mem _ h)

end
end K19
set_option Elab.async false
set_option linter.all false
set_option maxRecDepth 100000
set_option maxHeartbeats 4000000
namespace K19
open PySem PySem.Spec PyProof.Rows L2 XL
section
variable {P : Program} {w : World} {K : PySem.W.Frag} {mg : Str → Option Value} {base : Heap}
/-! ### Laid -/
def SzAt (G : Hp) (kv : Key × V) (p : Tr) : Prop := kv.1 = Sum.inr (mrk p) ∧ Pr G kv.2 (meas p)
theorem SzAt.same {G G' : Hp} (e : Same G G') {kv : Key × V} {p : Tr} (h : SzAt G kv p) : SzAt G' kv p := ⟨h.1, h.2.same e⟩
theorem sz_keys {G : Hp} : ∀ {ks : List (Key × V)} {ps : List Tr}, Paired (SzAt G) ks ps → ks.map (·.1) = ps.map fun p => (Sum.inr (mrk p) : Key)
  | _, _, .nil => rfl
  | _, _, .cons h t => by rw [List.map_cons, List.map_cons, h.1, sz_keys t]
theorem sz_val {G : Hp} {p : Tr} : ∀ {ks : List (Key × V)} {ps : List Tr}, Paired (SzAt G) ks ps → (ps.map mrk).Nodup → p ∈ ps → ∃ v, valV ks (Sum.inr (mrk p)) = some v ∧ Pr G v (meas p)
  | _, _, .nil, _, h => nomatch h
  | (k, v) :: ks, q :: ps, .cons h t, nd, hp => by
    rw [List.map_cons, List.nodup_cons] at nd
    rcases List.mem_cons.mp hp with rfl | hp
    · have e : k = Sum.inr (mrk p) := h.1
      rw [e]
      exact ⟨v, valV_pos rfl, h.2⟩
    · obtain ⟨u, h1, h2⟩ := sz_val t nd.2 hp
      refine ⟨u, ?_, h2⟩
      rw [valV_neg (fun e => nd.1 ?_)]
      · exact h1
      · have e2 : (Sum.inr (mrk q) : Key) = Sum.inr (mrk p) := h.1.symm.trans e
        rw [Sum.inr.inj e2]
        exact List.mem_map_of_mem hp
def pairD (l : Str) (zs : List (Int × Int)) : PyData := .tuple [.str l, .tuple (zs.map fun z => .tuple [.int z.1, .int z.2])]
/-- the pair by which a node was measured -/
abbrev Pw := Str × List (Int × Int)
def pw (p : Tr) : Pw := (lbl p, (kids p).map meas)
def PrAt (K : PySem.W.Frag) (G : Hp) (kv : Key × V) (p : Tr) : Prop := kv.1 = Sum.inr (mrk p) ∧ Dp K G kv.2 (pairD (lbl p) ((kids p).map meas))
theorem PrAt.same {K : PySem.W.Frag} {G G' : Hp} (e : Same G G') {kv : Key × V} {p : Tr} (h : PrAt K G kv p) : PrAt K G' kv p := ⟨h.1, dp_same e h.2⟩
theorem pr_keys {K : PySem.W.Frag} {G : Hp} : ∀ {ks : List (Key × V)} {ps : List Tr}, Paired (PrAt K G) ks ps → ks.map (·.1) = ps.map fun p => (Sum.inr (mrk p) : Key)
  | _, _, .nil => rfl
  | _, _, .cons h t => by rw [List.map_cons, List.map_cons, h.1, pr_keys t]
theorem pr_val {K : PySem.W.Frag} {G : Hp} {m : Str} : ∀ {ks : List (Key × V)} {ps : List Tr}, Paired (PrAt K G) ks ps → (∃ q ∈ ps, mrk q = m ∧ ps.find? (fun p => decide (mrk p = m)) = some q ∧ ∃ v, valV ks (Sum.inr m) = some v ∧ Dp K G v (pairD (lbl q) ((kids q).map meas))) ∨ (ps.find? (fun p => decide (mrk p = m)) = none ∧ valV ks (Sum.inr m) = none)
  | _, _, .nil => .inr ⟨rfl, rfl⟩
  | (k, v) :: ks, q :: ps, .cons h t => by
    by_cases e : mrk q = m
    · have ek : k = Sum.inr m := h.1.trans (by rw [e])
      exact .inl ⟨q, List.mem_cons_self, e, by rw [List.find?_cons, decide_eq_true e], v, by rw [ek]; exact valV_pos rfl, h.2⟩
    · have ek : k ≠ Sum.inr m := fun e2 => e (Sum.inr.inj (h.1.symm.trans e2))
      rcases pr_val (m := m) t with ⟨q', h1, h2, h3, v', h4, h5⟩ | ⟨h3, h4⟩
      · exact .inl ⟨q', List.mem_cons_of_mem _ h1, h2, by rw [List.find?_cons, decide_eq_false e]; exact h3, v', by rw [valV_neg ek]; exact h4, h5⟩
      · exact .inr ⟨by rw [List.find?_cons, decide_eq_false e]; exact h3, by rw [valV_neg ek]; exact h4⟩
/-- kept from the rows before -/
def kept (qs : List Tr) (p : Tr) : Bool := decide ((qs.find? (fun q => decide (mrk q = mrk p))).map pw = some (pw p))
def msd (qs ps : List Tr) : List Str := (ps.filter fun p => !kept qs p).map mrk
theorem msd_snoc (qs ps : List Tr) (p : Tr) : msd qs (ps ++ [p]) = msd qs ps ++ (if kept qs p then [] else [mrk p]) := by
  unfold msd
  rw [List.filter_append, List.map_append]
  congr 1
  cases e : kept qs p <;> simp [List.filter, e]
theorem eqv_zs : ∀ (a b : List (Int × Int)), PyData.eqvAll (a.map fun z => PyData.tuple [.int z.1, .int z.2]) (b.map fun z => PyData.tuple [.int z.1, .int z.2]) = decide (a = b)
  | [], [] => by simp [PyData.eqvAll]
  | [], _ :: _ => by simp [PyData.eqvAll]
  | _ :: _, [] => by simp [PyData.eqvAll]
  | x :: a, y :: b => by
    have ih := eqv_zs a b
    simp only [List.map_cons, PyData.eqvAll, ih, PyData.eqv]
    obtain ⟨x1, x2⟩ := x
    obtain ⟨y1, y2⟩ := y
    by_cases e1 : x1 = y1 <;> by_cases e2 : x2 = y2 <;> by_cases e3 : a = b <;> simp [e1, e2, e3]
theorem eqv_pair (l l' : Str) (a b : List (Int × Int)) : PyData.eqv (pairD l a) (pairD l' b) = decide ((l, a) = (l', b)) := by
  unfold pairD
  simp only [PyData.eqv, PyData.eqvAll, eqv_zs]
  by_cases e1 : l = l' <;> by_cases e2 : a = b <;> simp [e1, e2]
/-- the object of a layout -/
def LdO (K : PySem.W.Frag) (C CP : Addr) (G : Hp) (o : HO) (t : Tr) : Prop := ∃ (dx pg PD SD PL ML : Addr) (kpr ksz kpl : List (Key × V)), o = .ins C dx [("kept_page", .ref pg), ("pairs", .ref PD), ("sizes", .ref SD), ("places", .ref PL), ("marks", .ref ML)] ∧ PgAt K CP G pg t ∧ G PD = some (.dK kpr) ∧
    G SD = some (.dK ksz) ∧ Paired (PrAt K G) kpr (post t) ∧ Paired (SzAt G) ksz (post t) ∧ G PL = some (.dK kpl) ∧ Paired (BxAt G) kpl (rects 0 0 t) ∧ G ML = some (.lst (((pre t).map mrk).map V.str))
theorem SzOk.same {G G' : Hp} {ks : List (Key × V)} {t : Tr} (e : Same G G') (h : SzOk G ks t) : SzOk G' ks t := fun p hp => by
  obtain ⟨v, h1, h2⟩ := h p hp
  exact ⟨v, h1, h2.same e⟩
theorem LdO.same {K : PySem.W.Frag} {C CP : Addr} {G G' : Hp} {o : HO} {t : Tr} (e : Same G G') (h : LdO K C CP G o t) : LdO K C CP G' o t := by
  obtain ⟨dx, pg, PD, SD, PL, ML, kpr, ksz, kpl, h1, h2, h3, h4, h5, h5b, h6, h7, h8⟩ := h
  exact ⟨dx, pg, PD, SD, PL, ML, kpr, ksz, kpl, h1, h2.same e, e _ _ h3, e _ _ h4, prd_imp (fun _ _ => PrAt.same e) h5, prd_imp (fun _ _ => SzAt.same e) h5b, e _ _ h6, prd_imp (fun _ _ => BxAt.same e) h7, e _ _ h8⟩
def spAgain (K : PySem.W.Frag) (C CP : Addr) : Sp := fun vs H Q _ => ∃ (G : Hp) (M : List (Addr × HO)) (x dx p0 pg P0 S0 L0 K0 : Addr) (t : Tr) (qs : List Tr) (kpr0 ksz0 : List (Key × V)), vs = [.ref x, .ref pg] ∧
  Sep G ((x, .ins C dx [("kept_page", .ref p0), ("pairs", .ref P0), ("sizes", .ref S0), ("places", .ref L0), ("marks", .ref K0)]) :: M) H ∧ G P0 = some (.dK kpr0) ∧ G S0 = some (.dK ksz0) ∧ Paired (PrAt K G) kpr0 qs ∧ Paired (SzAt G) ksz0 qs ∧ (qs.map mrk).Nodup ∧ PgAt K CP G pg t ∧ ((pre t).map mrk).Nodup ∧ (pre t).length ≤ 400 ∧ (∀ p ∈ pre t, (lbl p).length ≤ 100 ∧ (PyData.str (lbl p)).canLay0 = true) ∧ (∀ p ∈ qs, (PyData.str (lbl p)).canLay0 = true) ∧
  ∀ (v : Addr) (o' : HO) (G' H' : Hp), Same G G' → LdO K C CP G' o' t → G' v = some (.tup ((msd qs (post t)).map V.str)) → Sep G' ((x, o') :: M) H' → Q (.ref v) H'
theorem prs_dp {K : PySem.W.Frag} {G : Hp} : ∀ {vs : List V} {zs : List (Int × Int)}, Paired (Pr G) vs zs → DpAll K G vs (zs.map fun z => .tuple [.int z.1, .int z.2])
  | _, _, .nil => .nil
  | _, _, .cons h t => by
    obtain ⟨a, h1, h2⟩ := h
    rw [h1]
    exact .cons (.tup (SqT.of h2) (.cons (.int _) (.cons (.int _) .nil))) (prs_dp t)
theorem pair_sh {l : Str} (hl : (PyData.str l).canLay0 = true) (zs : List (Int × Int)) : SeqAt.shaped (pairD l zs) = true := by
  have h1 : PyData.canLayAll0 (zs.map fun z => PyData.tuple [.int z.1, .int z.2]) = true := by
    induction zs with
    | nil => simp only [List.map_nil, PyData.canLayAll0]
    | cons z zs ih => simp only [List.map_cons, PyData.canLayAll0, PyData.canLay0, ih, Bool.and_self]
  have h2 : PyData.depthAll (zs.map fun z => PyData.tuple [.int z.1, .int z.2]) ≤ 1 := by
    induction zs with
    | nil => simp only [List.map_nil, PyData.depthAll]; omega
    | cons z zs ih =>
      have e : (PyData.tuple [.int z.1, .int z.2]).depth ≤ 1 := by simp [PyData.depth, PyData.depthAll]
      have ih' := ih (by
        simp only [List.map_cons, PyData.canLayAll0, Bool.and_eq_true] at h1
        exact h1.2)
      simp only [List.map_cons, PyData.depthAll]
      omega
  unfold SeqAt.shaped pairD
  have c : (PyData.tuple [PyData.str l, .tuple (zs.map fun z => .tuple [.int z.1, .int z.2])]).canLay0 = true := by
    simp only [PyData.canLay0] at hl
    simp only [PyData.canLay0, PyData.canLayAll0, h1, hl, Bool.and_self]
  have d : (PyData.tuple [PyData.str l, .tuple (zs.map fun z => .tuple [.int z.1, .int z.2])]).depth ≤ 64 := by
    simp only [PyData.depth, PyData.depthAll]
    omega
  rw [c, decide_eq_true d]
  rfl
theorem ok_Laid_measure_again (T : Top K mg w) (G_from_below : FnOk P w K mg base CX0 1 T.a_from_below T.d_from_below ["root"] (spBelow K)) (G_Page_top : FnOk P w K mg base CX0 1 T.a_Page_top T.d_Page_top ["self"] (spTop K T.C_Page))
    (G_measure : FnOk P w K mg base CX0 1 T.a_measure T.d_measure ["label", "sizes"] (spMeasure K)) (G_rectangles : FnOk P w K mg base CX0 1 T.a_rectangles T.d_rectangles ["root", "sizes"] (spRect K)) :
    FnOk P w K mg base CX0 3 T.a_Laid_measure_again T.d_Laid_measure_again ["self", "page"] (spAgain K T.C_Laid T.C_Page) := by
  refine T.F_Laid_measure_again.ok sc_Laid_measure_again (fun vs H Q E h => ?_) (fun cdv A outer s H vs Q E hr h => ?_)
  · obtain ⟨G, M, x, dx, p0, pg, P0, S0, L0, K0, t, qs, kpr0, ksz0, rfl, _⟩ := h
    rfl
  · obtain ⟨G, M, x, dx, p0, pg, P0, S0, L0, K0, t, qs, kpr0, ksz0, rfl, S, hP0, hS0, hkp0, hks0, ndq, hpg, nd, pl, hlb, hlq, q⟩ := h
    refine ⟨_, (pss_cons (ps_set (i := 2) sc_Laid_measure_again.nd rfl (.inl rfl) pe_dnewK)
      (pss_cons (ps_set (i := 3) sc_Laid_measure_again.nd rfl (.inr rfl) pe_dnewK)
      (pss_cons (ps_set (i := 4) sc_Laid_measure_again.nd rfl (.inl rfl) (pe_lst pa_nil))
      (pss_cons (ps_for PassesOwn.never rfl (pi_listK K (pe_call G_from_below (hr.mono (by omega)) (by rfl) T.g_from_below T.F_from_below.kp T.b_from_below .nil pass0 (pa_cons (pe_prop (xv 1) T.cl_Page T.pr_Page_top G_Page_top (hr.mono (by omega)) T.b_Page_top .nil pass0 rfl) pa_nil))) (pg_tupK K 3 (pgs_cons (pg_name (i := 5) sc_Laid_measure_again.nd rfl (.inl rfl)) (pgs_cons (pg_name (i := 6) sc_Laid_measure_again.nd rfl (.inl rfl)) (pgs_cons (pg_name (i := 7) sc_Laid_measure_again.nd rfl (.inl rfl)) pgs_nil))))
      (pss_cons (ps_set (i := 8) sc_Laid_measure_again.nd rfl (.inl rfl) (pe_tup (pa_cons (xv 6) (pa_cons (pe_callTy (call_tupleK K) (by rfl) T.m_tuple (by decide +kernel) (pa_cons (pe_lc (own := [("child", 9)]) (by rfl) sc_Laid_measure_again.nd (pi_tupK K (xv 7)) (blkOk_by (N := ["self", "page", "pairs", "sizes", "measured", "mark", "label", "children", "pair", "child"]) (sc := defScope s_Laid_measure_again) (by decide +kernel)) (fun _ _ _ _ _ => (pg_name (i := 9) sc_Laid_measure_again.nd rfl (.inl rfl))) (fun _ _ _ _ _ => pts_nil) (fun _ _ _ _ _ => (pe_dget (hu_of hr) (xv 3) (pe_ix (ix_k K) (xv 9) pe_int (fun _ _ => rfl)) (fun _ _ => rfl)))) pa_nil)) pa_nil))))
      (pss_cons (ps_dput (hu_of hr) (xv 2) (xv 5) (xv 8) rfl)
      (pss_one (xs_if (xt_cmp (op_eqD hr.units) (pe_dget1 (hu_of hr) (pe_fldK K (xv 0)) (xv 5) ⟨by rfl, by rfl, by rfl, by rfl⟩) (xv 8) (nomark _))
      (pss_one (ps_dput (hu_of hr) (xv 3) (xv 5) (pe_dget (hu_of hr) (pe_fldK K (xv 0)) (xv 5) (fun _ _ => rfl)) rfl))
      (pss_cons (ps_dput (hu_of hr) (xv 3) (xv 5) (pe_call G_measure (hr.mono (by omega)) (by rfl) T.g_measure T.F_measure.kp T.b_measure .nil pass0 (pa_cons (xv 6) (pa_cons (pe_ix (ix_k K) (xv 8) pe_int (fun _ _ => rfl)) pa_nil))) rfl)
      (pss_one (ps_expr (pe_bmK K PySem.F.plainAttrs_list PySem.F.slot_list_append PySem.F.type_list_append mt_append (xv 4) (pa_cons (xv 5) pa_nil))))))))))
      (pss_cons (ps_fld (xv 0) (xv 1) rfl)
      (pss_cons (ps_fld (xv 0) (xv 2) rfl)
      (pss_cons (ps_fld (xv 0) (xv 3) rfl)
      (pss_cons (ps_fld (xv 0) (pe_call G_rectangles (hr.mono (by omega)) (by rfl) T.g_rectangles T.F_rectangles.kp T.b_rectangles .nil pass0 (pa_cons (pe_prop (xv 1) T.cl_Page T.pr_Page_top G_Page_top (hr.mono (by omega)) T.b_Page_top .nil pass0 rfl) (pa_cons (xv 3) pa_nil))) rfl)
      (pss_cons (ps_fld (xv 0) (pe_callTy (call_list_dK rfl) (by rfl) T.m_list (by decide +kernel) (pa_cons (pe_fldK K (xv 0)) pa_nil)) rfl)
      (pss_one (ps_ret (pe_callTy (call_tupleK K) (by rfl) T.m_tuple (by decide +kernel) (pa_cons (xv 4) pa_nil))))))))))))), ?_⟩
    obtain ⟨dxp, Np, Ap, Op, vp, usp, kn, hp1, hp2, _⟩ := hpg.ex
    refine fun PR nPR => ?_
    have S1 := S.new (o := .dK []) nPR
    refine fun SZ nSZ => ?_
    have S2 := S1.new (o := .dK []) nSZ
    refine ⟨sz, fun ME nME => ?_⟩
    have S3 := S2.new (o := .lst []) nME
    have ppm := post_perm t
    have ppl := ppm.length_eq
    have ndp : ((post t).map mrk).Nodup := (ppm.map mrk).nodup_iff.mpr nd
    refine ⟨pg, _, _, rfl, S3.st hp1, G, pg, t, rfl, S3.1, hpg, fun v hv => ?_⟩
    refine ⟨G, _, v, t, rfl, S3, hv, by omega, fun D us G1 H1 s1 hD hus S4 => ?_⟩
    have ul := dpa_len hus
    rw [List.length_map] at ul
    refine ⟨D, rfl, ⟨us, SqL.of (S4.st hD)⟩, for_list (xs := us) (fun i σ H' => ∃ (y5 y6 y7 y8 y9 : Option V) (kp ks : List (Key × V)) (ms : List V) (G' : Hp), σ = [some (.ref x), some (.ref pg), some (.ref PR), some (.ref SZ), some (.ref ME), y5, y6, y7, y8, y9] ∧
      Same G1 G' ∧ Paired (PrAt K G') kp ((post t).take i) ∧ ms = (msd qs ((post t).take i)).map V.str ∧ Paired (SzAt G') ks ((post t).take i) ∧
      Sep G' ((ME, .lst ms) :: (SZ, .dK ks) :: (PR, .dK kp) :: (x, .ins T.C_Laid dx [("kept_page", .ref p0), ("pairs", .ref P0), ("sizes", .ref S0), ("places", .ref L0), ("marks", .ref K0)]) :: M) H')
      ⟨_, _, _, _, _, [], [], [], G1, rfl, Same.refl _, .nil, rfl, .nil, S4⟩ (fun i σ H' _ h => ?_) (fun i u σ H' hu h => ?_) (fun σ H' h => ?_)⟩
    · obtain ⟨_, _, _, _, _, _, _, _, G', _, s', _, _, _, S'⟩ := h
      exact SqL.of (S'.st (s' _ _ hD))
    · obtain ⟨y5, y6, y7, y8, y9, kp, ks, ms, G5, rfl, s5, hkp, hms, hks, S5⟩ := h
      obtain ⟨d, hd, hud⟩ := dpa_get hus hu
      obtain ⟨p, hp, rfl⟩ := map_get hd
      obtain ⟨a, kv, kus, rfl, ha, hkv, hkus⟩ := node_at hud
      have il := (List.getElem?_eq_some_iff.mp hp).1
      have hpm : p ∈ pre t := ppm.mem_iff.mp (List.mem_of_getElem? hp)
      have kl := dpa_len hkus
      rw [List.length_map] at kl
      have kml := many_le (kids p)
      have kcl : (pres (kids p)).length ≤ (pre t).length := sub_len hpm
      have ksl := prd_len hks
      rw [List.length_take] at ksl
      obtain ⟨rr, hrr⟩ := take_post (hgt t) t (Nat.le_refl _) i p hp
      have e1 : (post t).map mrk = ((post t).take i).map mrk ++ mrk p :: ((post t).drop (i + 1)).map mrk := by
        conv => lhs; rw [(take_pre hp).1]
        rw [List.map_append, List.map_cons]
      have ndt : (((post t).take i).map mrk).Nodup := by
        rw [e1, List.nodup_append] at ndp
        exact ndp.1
      refine ⟨a, _, rfl, S5.t (same_t s5 ha), rfl, _, _, rfl, _, _, rfl, _, _, rfl, rfl, ?_⟩
      refine ⟨kv, rfl, ⟨kus, S5.t (same_t s5 hkv)⟩, fun L nL => lc_tup (xs := kus) (fun j H2 => ∃ (ws : List V), Paired (Pr G5) ws (((kids p).map meas).take j) ∧ ws.length = j ∧ Sep G5 ((L, .lst ws) :: (ME, .lst ms) :: (SZ, .dK ks) :: (PR, .dK kp) :: (x, .ins T.C_Laid dx [("kept_page", .ref p0), ("pairs", .ref P0), ("sizes", .ref S0), ("places", .ref L0), ("marks", .ref K0)]) :: M) H2)
        ⟨[], .nil, rfl, S5.new nL⟩ (fun j H2 _ p' => ?_) (fun j y H2 hy p' => ?_) (fun H2 p' => ?_)⟩
      · obtain ⟨ws, _, _, S'⟩ := p'
        exact S'.t (same_t s5 hkv)
      · obtain ⟨ws, hws, wl, S'⟩ := p'
        obtain ⟨d, hd, hyd⟩ := dpa_get hkus hy
        obtain ⟨c, hc, rfl⟩ := map_get hd
        obtain ⟨ac, kvc, kusc, rfl, hac, _, _⟩ := node_at hyd
        have jl := (List.getElem?_eq_some_iff.mp hc).1
        obtain ⟨sv, hsv, hpr⟩ := sz_val hks ndt (p := c) (by rw [hrr]; exact List.mem_append_right _ (kid_posts (List.mem_of_getElem? hc)))
        have SS := S'.perm (List.perm_append_comm_assoc [_, _] [_] _)
        refine ⟨rfl, _, _, .inr (S'.t (same_t s5 hac)), atI_nat (j := 0) rfl, SZ, sv, rfl, hsv ▸ DGet.k (k := Sum.inr (mrk c)) SS.hd, ws, S'.hd, smallL (by omega), ws ++ [sv], ?_, by rw [List.length_append, wl]; rfl, S'.set⟩
        rw [take_snoc (show ((kids p).map meas)[j]? = some (meas c) by rw [List.getElem?_map, hc]; rfl)]
        exact prd_app hws (.cons hpr .nil)
      · obtain ⟨ws, hws, wl, S'⟩ := p'
        rw [List.take_of_length_le (by rw [List.length_map]; omega)] at hws
        refine ⟨L, ws, rfl, .inl ⟨SqL.of S'.hd, fun tp ntp => ?_⟩⟩
        obtain ⟨G6, s6, S6, h6⟩ := Sep.mk (o := .tup ws) S' ntp
        refine ⟨sz, fun pp npp => ?_⟩
        obtain ⟨G7, s7, S7, h7⟩ := Sep.mk (o := .tup [.str (lbl p), .ref tp]) S6 npp
        have S8 := S7.drop
        have SPR := S8.perm (List.perm_append_comm_assoc [_, _] [_] _)
        have kpl0 := prd_len hkp
        rw [List.length_take] at kpl0
        have msl : ms.length ≤ i := by
          rw [hms, List.length_map, msd, List.length_map]
          have := List.length_filter_le (fun p => !kept qs p) ((post t).take i)
          rw [List.length_take] at this
          omega
        have notin : (Sum.inr (mrk p) : Key) ∉ ((post t).take i).map fun p => (Sum.inr (mrk p) : Key) := fun hm => by
          obtain ⟨r, hr1, hr2⟩ := List.mem_map.mp hm
          rw [e1, List.nodup_append] at ndp
          exact ndp.2.2 _ (List.mem_map_of_mem hr1) _ List.mem_cons_self (Sum.inr.inj hr2)
        have freeP : valV kp (Sum.inr (mrk p)) = none := valV_none (by rw [pr_keys hkp]; exact notin)
        have free : valV ks (Sum.inr (mrk p)) = none := valV_none (by rw [sz_keys hks]; exact notin)
        refine ⟨PR, _, rfl, DPut.k (k := Sum.inr (mrk p)) SPR.hd (smallL (by omega)), ?_⟩
        rw [putK_new freeP]
        have S9 := SPR.set (o' := .dK (kp ++ [(Sum.inr (mrk p), .ref pp)]))
        have SX := S9.perm (List.perm_append_comm_assoc [_, _, _] [_] _)
        have s17 := s5.trans (s6.trans s7)
        have hws7 := prd_imp (fun _ _ => Pr.same (s6.trans s7)) hws
        have hpd : Dp K G7 (.ref pp) (pairD (lbl p) ((kids p).map meas)) := .tup (SqT.of h7) (.cons (.str _) (.cons (.tup (SqT.of (s7 _ _ h6)) (prs_dp hws7)) .nil))
        have hP7 := (s1.trans s17) _ _ hP0
        have hS7 := (s1.trans s17) _ _ hS0
        have hkpn : Paired (PrAt K G7) (kp ++ [(Sum.inr (mrk p), .ref pp)]) ((post t).take (i + 1)) := by
          rw [take_snoc hp]
          exact prd_app (prd_imp (fun _ _ => PrAt.same (s6.trans s7)) hkp) (.cons ⟨rfl, hpd⟩ .nil)
        have msn : msd qs ((post t).take (i + 1)) = msd qs ((post t).take i) ++ (if kept qs p then [] else [mrk p]) := by
          rw [take_snoc hp]
          exact msd_snoc _ _ _
        rcases pr_val (m := mrk p) hkp0 with ⟨q0, hq1, hq2, hq3, v0, hv0, hvd⟩ | ⟨hq3, hv0⟩
        · refine ⟨x, T.C_Laid, dx, _, _, rfl, SX.hd, T.cl_Laid, T.na_Laid_pairs, (by rw [lk_ne, lk_eq]), P0, rfl, .inl ⟨_, .inl (SX.st hP7)⟩, some v0, hv0 ▸ DGet.k (k := Sum.inr (mrk p)) (SX.st hP7), pairD (lbl q0) ((kids q0).map meas), pairD (lbl p) ((kids p).map meas), dp_same SX.1 (dp_same (s1.trans s17) hvd), dp_same SX.1 hpd, pair_sh (hlq q0 hq1) _, pair_sh (hlb p hpm).2 _, fun e => ?_, fun e => ?_⟩
          · rw [eqv_pair] at e
            have e := of_decide_eq_true e
            have hk : kept qs p = true := by
              unfold kept
              rw [hq3]
              exact decide_eq_true (congrArg some e)
            obtain ⟨z0, hz0, hzp⟩ := sz_val hks0 ndq hq1
            rw [hq2] at hz0
            have em : meas q0 = meas p := by
              rw [meas_eq, meas_eq, (Prod.mk.inj e).1, (Prod.mk.inj e).2]
            rw [em] at hzp
            refine ⟨x, T.C_Laid, dx, _, _, rfl, SX.hd, T.cl_Laid, T.na_Laid_sizes, (by rw [lk_ne, lk_ne, lk_eq]), S0, z0, rfl, hz0 ▸ DGet.k (k := Sum.inr (mrk p)) (SX.st hS7), ?_⟩
            have SZ2 := S9.perm (List.perm_append_comm_assoc [_, _] [_] _)
            refine ⟨SZ, _, rfl, DPut.k (k := Sum.inr (mrk p)) SZ2.hd (smallL (by omega)), ?_⟩
            rw [putK_new free]
            have S11 := SZ2.set (o' := .dK (ks ++ [(Sum.inr (mrk p), z0)]))
            have SM := S11.perm (List.perm_append_comm_assoc [_, _] [_] _)
            refine ⟨_, _, _, _, _, _, _, _, G7, rfl, s17, hkpn, ?_, ?_, SM⟩
            · rw [msn, hk, hms]
              simp
            · rw [take_snoc hp]
              exact prd_app (prd_imp (fun _ _ => SzAt.same (s6.trans s7)) hks) (.cons ⟨rfl, hzp.same (s1.trans s17)⟩ .nil)
          · rw [eqv_pair] at e
            have hk : kept qs p = false := by
              unfold kept
              rw [hq3]
              exact decide_eq_false fun z => of_decide_eq_false e (Option.some.inj z)
            refine ⟨_, _, .inr (SqT.of (S9.st h7)), atI_nat (j := 1) rfl, G7, _, lbl p, tp, ws, (kids p).map meas, rfl, S9, (hlb p hpm).1, s7 _ _ h6, hws7, fun v8 G8 H8 hv8 s8 S10 => ?_⟩
            rw [← meas_eq] at hv8
            have SZ2 := S10.perm (List.perm_append_comm_assoc [_, _] [_] _)
            refine ⟨SZ, _, rfl, DPut.k (k := Sum.inr (mrk p)) SZ2.hd (smallL (by omega)), ?_⟩
            rw [putK_new free]
            have S11 := SZ2.set (o' := .dK (ks ++ [(Sum.inr (mrk p), v8)]))
            have SM := S11.perm (List.perm_append_comm_assoc [_, _] [_] _)
            refine ⟨.inl ⟨rfl, _, SqL.of SM.hd⟩, ME, ms, _, rfl, rfl, SM.hd, smallL (by omega), ?_⟩
            refine ⟨_, _, _, _, _, _, _, _, G8, rfl, s17.trans s8, prd_imp (fun _ _ => PrAt.same s8) hkpn, ?_, ?_, SM.set⟩
            · rw [msn, hk, hms]
              simp
            · rw [take_snoc hp]
              exact prd_app (prd_imp (fun _ _ => SzAt.same ((s6.trans s7).trans s8)) hks) (.cons ⟨rfl, hv8⟩ .nil)
        · refine ⟨x, T.C_Laid, dx, _, _, rfl, SX.hd, T.cl_Laid, T.na_Laid_pairs, (by rw [lk_ne, lk_eq]), P0, rfl, .inl ⟨_, .inl (SX.st hP7)⟩, none, hv0 ▸ DGet.k (k := Sum.inr (mrk p)) (SX.st hP7), .none, pairD (lbl p) ((kids p).map meas), .non, dp_same SX.1 hpd, rfl, pair_sh (hlb p hpm).2 _, fun e => ?_, fun _ => ?_⟩
          · simp [PyData.eqv, pairD] at e
          · have hk : kept qs p = false := by
              unfold kept
              rw [hq3]
              exact decide_eq_false fun z => nomatch z
            refine ⟨_, _, .inr (SqT.of (S9.st h7)), atI_nat (j := 1) rfl, G7, _, lbl p, tp, ws, (kids p).map meas, rfl, S9, (hlb p hpm).1, s7 _ _ h6, hws7, fun v8 G8 H8 hv8 s8 S10 => ?_⟩
            rw [← meas_eq] at hv8
            have SZ2 := S10.perm (List.perm_append_comm_assoc [_, _] [_] _)
            refine ⟨SZ, _, rfl, DPut.k (k := Sum.inr (mrk p)) SZ2.hd (smallL (by omega)), ?_⟩
            rw [putK_new free]
            have S11 := SZ2.set (o' := .dK (ks ++ [(Sum.inr (mrk p), v8)]))
            have SM := S11.perm (List.perm_append_comm_assoc [_, _] [_] _)
            refine ⟨.inl ⟨rfl, _, SqL.of SM.hd⟩, ME, ms, _, rfl, rfl, SM.hd, smallL (by omega), ?_⟩
            refine ⟨_, _, _, _, _, _, _, _, G8, rfl, s17.trans s8, prd_imp (fun _ _ => PrAt.same s8) hkpn, ?_, ?_, SM.set⟩
            · rw [msn, hk, hms]
              simp
            · rw [take_snoc hp]
              exact prd_app (prd_imp (fun _ _ => SzAt.same ((s6.trans s7).trans s8)) hks) (.cons ⟨rfl, hv8⟩ .nil)
    · obtain ⟨y5, y6, y7, y8, y9, kp, ks, ms, G5, rfl, s5, hkp, hms, hks, S5⟩ := h
      rw [ul, List.take_length] at hks hkp hms
      obtain ⟨Ga, sa, Sa, ea⟩ := Sep.keep S5
      obtain ⟨Gb, sb, Sb, eb⟩ := Sep.keep Sa
      obtain ⟨Gc, sc, Sc, ec⟩ := Sep.keep Sb
      have s5c := s5.trans (sa.trans (sb.trans sc))
      have sGc := s1.trans s5c
      refine ⟨x, T.C_Laid, dx, _, rfl, Sc.hd, T.cl_Laid, T.na_Laid_kept_page, by simp, ?_⟩
      rw [putF_eq]
      have X1 := Sc.set (o' := .ins T.C_Laid dx [("kept_page", .ref pg), ("pairs", .ref P0), ("sizes", .ref S0), ("places", .ref L0), ("marks", .ref K0)])
      refine ⟨x, T.C_Laid, dx, _, rfl, X1.hd, T.cl_Laid, T.na_Laid_pairs, by simp, ?_⟩
      rw [putF_ne, putF_eq]
      have X2 := X1.set (o' := .ins T.C_Laid dx [("kept_page", .ref pg), ("pairs", .ref PR), ("sizes", .ref S0), ("places", .ref L0), ("marks", .ref K0)])
      refine ⟨x, T.C_Laid, dx, _, rfl, X2.hd, T.cl_Laid, T.na_Laid_sizes, by simp, ?_⟩
      rw [putF_ne, putF_ne, putF_eq]
      have X3 := X2.set (o' := .ins T.C_Laid dx [("kept_page", .ref pg), ("pairs", .ref PR), ("sizes", .ref SZ), ("places", .ref L0), ("marks", .ref K0)])
      have hks' : Paired (SzAt Gc) ks (post t) := prd_imp (fun _ _ => SzAt.same (sa.trans (sb.trans sc))) hks
      have hkp' : Paired (PrAt K Gc) kp (post t) := prd_imp (fun _ _ => PrAt.same (sa.trans (sb.trans sc))) hkp
      have szok : SzOk Gc ks t := fun p hp => sz_val hks' ndp (ppm.mem_iff.mpr hp)
      have hpgc := hpg.same sGc
      refine ⟨pg, _, _, rfl, X3.st (sGc _ _ hp1), Gc, pg, t, rfl, X3.1, hpgc, fun v2 hv2 => ?_⟩
      refine ⟨Gc, _, v2, t, SZ, ks, rfl, X3, hv2, sc _ _ eb, szok, nd, pl, fun PL kpl G8 H8 s8 hPL hkpl X4 => ?_⟩
      refine ⟨x, T.C_Laid, dx, _, rfl, X4.hd, T.cl_Laid, T.na_Laid_places, by simp, ?_⟩
      rw [putF_ne, putF_ne, putF_ne, putF_eq]
      have X5 := X4.set (o' := .ins T.C_Laid dx [("kept_page", .ref pg), ("pairs", .ref PR), ("sizes", .ref SZ), ("places", .ref PL), ("marks", .ref K0)])
      refine ⟨x, T.C_Laid, dx, _, _, rfl, X5.hd, T.cl_Laid, T.na_Laid_places, (by rw [lk_ne, lk_ne, lk_ne, lk_eq]), PL, kpl, rfl, X5.st hPL, fun ML nML => ?_⟩
      have keys : kpl.map (fun kv => kV kv.1) = ((pre t).map mrk).map V.str := by
        rw [← rects_marks 0 0 t, List.map_map]
        have := congrArg (List.map kV) (prd_keys hkpl)
        rw [List.map_map, List.map_map] at this
        exact this
      rw [keys]
      obtain ⟨G9, s9, X6, h9⟩ := Sep.mk (o := .lst (((pre t).map mrk).map V.str)) X5 nML
      refine ⟨x, T.C_Laid, dx, _, rfl, X6.hd, T.cl_Laid, T.na_Laid_marks, by simp, ?_⟩
      rw [putF_ne, putF_ne, putF_ne, putF_ne, putF_eq]
      have X7 := X6.set (o' := .ins T.C_Laid dx [("kept_page", .ref pg), ("pairs", .ref PR), ("sizes", .ref SZ), ("places", .ref PL), ("marks", .ref ML)])
      have sC9 := s8.trans s9
      refine ⟨ME, ms, rfl, .inl ⟨SqL.of (X7.st (sC9 _ _ (sc _ _ (sb _ _ ea)))), fun rt nrt => ?_⟩⟩
      obtain ⟨Gd, sd, Sd, ed⟩ := Sep.mk (o := .tup ms) X7 nrt
      have sCe := sC9.trans sd
      exact q rt _ Gd _ (sGc.trans sCe) ⟨dx, pg, PR, SZ, PL, ML, kp, ks, kpl, rfl, hpgc.same sCe, sCe _ _ ec, sCe _ _ (sc _ _ eb), prd_imp (fun _ _ => PrAt.same sCe) hkp', prd_imp (fun _ _ => SzAt.same sCe) hks', (s9.trans sd) _ _ hPL, prd_imp (fun _ _ => BxAt.same (s9.trans sd)) hkpl, sd _ _ h9⟩ (by rw [← hms]; exact ed) Sd

end
end K19
set_option Elab.async false
set_option linter.all false
set_option maxRecDepth 100000
set_option maxHeartbeats 4000000
namespace K19
open PySem PySem.Spec PyProof.Rows L2 XL
section
variable {P : Program} {w : World} {K : PySem.W.Frag} {mg : Str → Option Value} {base : Heap}
/-! ### Laid: made, and led on -/
def spLd (K : PySem.W.Frag) (C CP : Addr) : Sp := fun vs H Q _ => ∃ (G : Hp) (M : List (Addr × HO)) (x dx pg : Addr) (t : Tr), vs = [.ref x, .ref pg] ∧ Sep G ((x, .ins C dx []) :: M) H ∧ PgAt K CP G pg t ∧ ((pre t).map mrk).Nodup ∧ (pre t).length ≤ 400 ∧ (∀ p ∈ pre t, (lbl p).length ≤ 100 ∧ (PyData.str (lbl p)).canLay0 = true) ∧
  ∀ (o' : HO) (G' H' : Hp), Same G G' → LdO K C CP G' o' t → Sep G' ((x, o') :: M) H' → Q .non H'
theorem ok_Laid_init (T : Top K mg w) (G_Laid_measure_again : FnOk P w K mg base CX0 3 T.a_Laid_measure_again T.d_Laid_measure_again ["self", "page"] (spAgain K T.C_Laid T.C_Page)) :
    FnOk P w K mg base CX0 5 T.a_Laid_init T.d_Laid_init ["self", "page"] (spLd K T.C_Laid T.C_Page) := by
  refine T.F_Laid_init.ok sc_Laid_init (fun vs H Q E h => ?_) (fun cdv A outer s H vs Q E hr h => ?_)
  · obtain ⟨G, M, x, dx, pg, t, rfl, _⟩ := h
    rfl
  · obtain ⟨G, M, x, dx, pg, t, rfl, S, hpg, nd, pl, hlb, q⟩ := h
    refine ⟨_, (pss_cons (ps_fld (xv 0) (xv 1) rfl)
      (pss_cons (ps_fld (xv 0) pe_dnewK rfl)
      (pss_cons (ps_fld (xv 0) pe_dnewK rfl)
      (pss_cons (ps_fld (xv 0) pe_dnewK rfl)
      (pss_cons (ps_fld (xv 0) (pe_lst pa_nil) rfl)
      (pss_one (ps_expr (pe_meth (xv 0) T.cl_Laid T.me_Laid_measure_again G_Laid_measure_again (hr.mono (by omega)) T.b_Laid_measure_again .nil pass0 (pa_cons (xv 1) pa_nil))))))))), ?_⟩
    refine ⟨x, T.C_Laid, dx, _, rfl, S.hd, T.cl_Laid, T.na_Laid_kept_page, by simp, ?_⟩
    rw [putF_nil]
    have X1 := S.set (o' := .ins T.C_Laid dx [("kept_page", .ref pg)])
    refine fun P0 nP => ?_
    obtain ⟨G1, s1, X2, h1⟩ := Sep.mk (o := .dK []) X1 nP
    refine ⟨x, T.C_Laid, dx, _, rfl, X2.hd, T.cl_Laid, T.na_Laid_pairs, by simp, ?_⟩
    rw [putF_ne, putF_nil]
    have X3 := X2.set (o' := .ins T.C_Laid dx [("kept_page", .ref pg), ("pairs", .ref P0)])
    refine fun S0 nS => ?_
    obtain ⟨G2, s2, X4, h2⟩ := Sep.mk (o := .dK []) X3 nS
    refine ⟨x, T.C_Laid, dx, _, rfl, X4.hd, T.cl_Laid, T.na_Laid_sizes, by simp, ?_⟩
    rw [putF_ne, putF_ne, putF_nil]
    have X5 := X4.set (o' := .ins T.C_Laid dx [("kept_page", .ref pg), ("pairs", .ref P0), ("sizes", .ref S0)])
    refine fun L0 nL => ?_
    obtain ⟨G3, s3, X6, _⟩ := Sep.mk (o := .dK []) X5 nL
    refine ⟨x, T.C_Laid, dx, _, rfl, X6.hd, T.cl_Laid, T.na_Laid_places, by simp, ?_⟩
    rw [putF_ne, putF_ne, putF_ne, putF_nil]
    have X7 := X6.set (o' := .ins T.C_Laid dx [("kept_page", .ref pg), ("pairs", .ref P0), ("sizes", .ref S0), ("places", .ref L0)])
    refine ⟨sz, fun K0 nK => ?_⟩
    obtain ⟨G4, s4, X8, _⟩ := Sep.mk (o := .lst []) X7 nK
    refine ⟨x, T.C_Laid, dx, _, rfl, X8.hd, T.cl_Laid, T.na_Laid_marks, by simp, ?_⟩
    rw [putF_ne, putF_ne, putF_ne, putF_ne, putF_nil]
    have X9 := X8.set (o' := .ins T.C_Laid dx [("kept_page", .ref pg), ("pairs", .ref P0), ("sizes", .ref S0), ("places", .ref L0), ("marks", .ref K0)])
    have s24 := s2.trans (s3.trans s4)
    refine ⟨x, dx, _, rfl, X9.hd, (by rw [lk_ne, lk_ne, lk_ne, lk_ne, lk_ne]; rfl), G4, M, x, dx, pg, pg, P0, S0, L0, K0, t, [], [], [], rfl, X9, s24 _ _ h1, (s3.trans s4) _ _ h2, .nil, .nil, List.nodup_nil, hpg.same (s1.trans s24), nd, pl, hlb, (fun _ h => nomatch h), fun v o' G' H' s' hl _ S' => ?_⟩
    exact q o' G' H' ((s1.trans s24).trans s') hl S'
def spLdPg (K : PySem.W.Frag) (C CP : Addr) : Sp := fun vs H Q _ => ∃ (G : Hp) (x : Addr) (o : HO) (t : Tr), vs = [.ref x] ∧ H x = some o ∧ LdO K C CP G o t ∧ ∀ pg, PgAt K CP G pg t → Q (.ref pg) H
theorem ok_Laid_page (T : Top K mg w) {k : Nat} : FnOk P w K mg base CX0 (k + 1) T.a_Laid_page T.d_Laid_page ["self"] (spLdPg K T.C_Laid T.C_Page) := by
  refine T.F_Laid_page.ok sc_Laid_page (fun vs H Q E h => ?_) (fun cdv A outer s H vs Q E hr h => ?_)
  · obtain ⟨G, x, o, t, rfl, _⟩ := h
    rfl
  · obtain ⟨G, x, o, t, rfl, hx, hl, q⟩ := h
    obtain ⟨dx, pg, PD, SD, PL, ML, kpr, ksz, kpl, rfl, h2, _⟩ := hl
    exact ⟨_, (pss_one (ps_ret (pe_fldK K (xv 0)))), ⟨x, T.C_Laid, dx, _, _, rfl, hx, T.cl_Laid, T.na_Laid_kept_page, lk_eq, q pg h2⟩⟩
theorem tx_lbl {t : Tr} (ok : TrOk t) : ∀ p ∈ pre t, (lbl p).length ≤ 100 ∧ (PyData.str (lbl p)).canLay0 = true := fun p hp => ⟨by have := (ok.tx p hp).2.hi; omega, tx_lay (ok.tx p hp).2⟩
def spTake (K : PySem.W.Frag) (C CP CQ Cn : Addr) : Sp := fun vs H Q E => ∃ (G : Hp) (M : List (Addr × HO)) (x pt : Addr) (o : HO) (t t0 : Tr) (ps : List Pt), vs = [.ref x, .ref pt] ∧ Sep G ((x, o) :: M) H ∧ LdO K C CP G o t ∧ PtcAt K CQ CP G pt t0 ps ∧ Gt t ∧ Chn ps t0 ∧
  (t0 = t → ∀ (v : Addr) (o' : HO) (G' H' : Hp), Same G G' → LdO K C CP G' o' (runs ps t0) → G' v = some (.tup ((msd (post t) (post (runs ps t0))).map V.str)) → Sep G' ((x, o') :: M) H' → Q (.ref v) H') ∧
  (t0 ≠ t → ∀ dd, H dd = none → E (.ref Cn) (some dd) (upd H dd (.xd [("mark", .str (mrk t0))])))
theorem ok_Laid_take (T : Top K mg w) (pf : PySem.XExc.PF P T.x_file) (G_Laid_measure_again : FnOk P w K mg base CX0 3 T.a_Laid_measure_again T.d_Laid_measure_again ["self", "page"] (spAgain K T.C_Laid T.C_Page)) (G_Page_eq : FnOk P w K mg base CX0 3 T.a_Page_eq T.d_Page_eq ["self", "other"] (spPgEq K T.C_Page)) (G_Page_top : FnOk P w K mg base CX0 3 T.a_Page_top T.d_Page_top ["self"] (spTop K T.C_Page))
    (G_Patches_page : FnOk P w K mg base CX0 3 T.a_Patches_page T.d_Patches_page ["self"] (spPtPg K T.C_Patches T.C_Page false)) (G_Patches_end : FnOk P w K mg base CX0 3 T.a_Patches_end T.d_Patches_end ["self"] (spPtPg K T.C_Patches T.C_Page true)) :
    FnOk P w K mg base (L2.CX P w) 6 T.a_Laid_take T.d_Laid_take ["self", "patches"] (spTake K T.C_Laid T.C_Page T.C_Patches T.C_NotOnePage) := by
  refine T.F_Laid_take.okX sc_Laid_take (fun vs H Q E h => ?_) (fun cdv A outer s H vs Q E hr h => ?_)
  · obtain ⟨G, M, x, pt, o, t, t0, ps, rfl, _⟩ := h
    rfl
  · obtain ⟨G, M, x, pt, o, t, t0, ps, rfl, S, hl, hpt, gt, ch, q, qe⟩ := h
    obtain ⟨dx, pg, PD, SD, PL, ML, kpr, ksz, kpl, rfl, h2, h3, h4, h5, h6, h7⟩ := hl
    refine ⟨_, (pss_cons (xs_if (pt_not (xt_cmp (op_own rfl G_Page_eq T.sp_Page_eq.1 T.sp_Page_eq.2 T.b_Page_eq pass0 (hr.mono (by omega))) (pe_prop (xv 1) T.cl_Patches T.pr_Patches_page G_Patches_page (hr.mono (by omega)) T.b_Patches_page .nil pass0 rfl) (pe_fldK K (xv 0)) (nomark _)))
      (pss_one (ps_raiseX (k := 0) rfl (T.x_NotOnePage P pf) (hr.mono (by omega)) (takes_of rfl rfl rfl rfl) (pa_cons (pe_ix (ix_k K) (pe_prop (pe_prop (xv 1) T.cl_Patches T.pr_Patches_page G_Patches_page (hr.mono (by omega)) T.b_Patches_page .nil pass0 rfl) T.cl_Page T.pr_Page_top G_Page_top (hr.mono (by omega)) T.b_Page_top .nil pass0 rfl) pe_int (fun _ _ => rfl)) pa_nil)))
      pss_nil)
      (pss_one (ps_ret (pe_meth (xv 0) T.cl_Laid T.me_Laid_measure_again G_Laid_measure_again (hr.mono (by omega)) T.b_Laid_measure_again .nil pass0 (pa_cons (pe_prop (xv 1) T.cl_Patches T.pr_Patches_end G_Patches_end (hr.mono (by omega)) T.b_Patches_end .nil pass0 rfl) pa_nil))))), ?_⟩
    obtain ⟨dp, pg1, pe1, R1, U1, us1, bs1, bk1, g1, g2, g3, _⟩ := id hpt.ex
    obtain ⟨d1, _, _, _, _, _, _, e1, _⟩ := id g2.ex
    obtain ⟨d2, _, _, _, _, _, _, e2, _⟩ := id h2.ex
    refine ⟨pt, dp, _, rfl, S.st g1, G, pt, t0, ps, rfl, S.1, hpt, fun pga hpga => ?_⟩
    obtain ⟨d3, _, _, _, _, _, _, e3, _⟩ := id (show PgAt K T.C_Page G pga t0 from hpga)
    refine ⟨x, T.C_Laid, dx, _, _, rfl, S.hd, T.cl_Laid, T.na_Laid_kept_page, lk_eq, pga, pg, d3, d2, _, _, rfl, rfl, S.st e3, S.st e2, G, pga, pg, t0, t, rfl, S.1, hpga, h2, ch.gt.ok, gt.ok, ?_⟩
    by_cases e : t0 = t
    · subst e
      rw [eqv_self ch.gt.ok]
      refine ⟨ff, fun _ => ?_⟩
      have gf := ch.fin
      have ppm := post_perm t0
      refine ⟨x, dx, _, rfl, S.hd, (by rw [lk_ne, lk_ne, lk_ne, lk_ne, lk_ne]; rfl), pt, dp, _, rfl, S.st g1, G, pt, t0, ps, rfl, S.1, hpt, fun pgb hpgb => ?_⟩
      refine ⟨G, M, x, dx, pg, pgb, PD, SD, PL, ML, runs ps t0, post t0, kpr, ksz, rfl, S, h3, h4, h5, h6, (ppm.map mrk).nodup_iff.mpr gt.nd, hpgb, gf.nd, gf.ln, tx_lbl gf.ok, fun p hp => (tx_lbl gt.ok p (ppm.mem_iff.mp hp)).2, fun v o' G' H' s' hl hv S' => ?_⟩
      exact q rfl v o' G' H' s' hl hv S'
    · rw [eqv_ne e]
      refine ⟨fun _ => ?_, tt⟩
      refine ⟨pt, dp, _, rfl, S.st g1, G, pt, t0, ps, rfl, S.1, hpt, fun pgc hpgc => ?_⟩
      obtain ⟨d4, _, _, _, _, _, _, e4, _⟩ := id (show PgAt K T.C_Page G pgc t0 from hpgc)
      refine ⟨pgc, d4, _, rfl, S.st e4, G, pgc, t0, rfl, S.1, hpgc, fun v hv => ?_⟩
      obtain ⟨a, kv, us, rfl, ha, _⟩ := node_at hv
      exact ⟨_, _, .inr (S.t ha), atI_nat (j := 0) rfl, _, rfl, (ch.gt.ok.tx t0 (self_pre t0)).1.rp (by decide), fun dd ndd => qe e dd ndd⟩

end
end K19
set_option Elab.async false
set_option linter.all false
set_option maxRecDepth 100000
set_option maxHeartbeats 4000000
namespace K19
open PySem PySem.Spec PyProof.Rows L2 XL
section
variable {P : Program} {w : World} {K : PySem.W.Frag} {mg : Str → Option Value} {base : Heap}
/-! ### the law's measures -/
theorem fn_false19 {CX : CXT} {k : Nat} {f : Addr} {fd : FuncData} {ps : List Str} {sp : Sp} (h : ∀ vs H Q E, sp vs H Q E → False) : FnOk P w K mg base CX k f fd ps sp :=
  ⟨fun vs H Q E q => (h vs H Q E q).elim, fun A outer s H args us vs Q E hr he hb hv q => (h vs H Q E q).elim⟩
def wMx (w : Int) (z : Int × Int) : Int := if w < z.1 then z.1 else w
def hMx (w : Int) (z : Int × Int) : Int := if w < z.2 then z.2 else w
theorem wMx_pos {w : Int} {z : Int × Int} (h : w < z.1) : wMx w z = z.1 := if_pos h
theorem wMx_neg {w : Int} {z : Int × Int} (h : ¬ w < z.1) : wMx w z = w := if_neg h
theorem hMx_pos {w : Int} {z : Int × Int} (h : w < z.2) : hMx w z = z.2 := if_pos h
theorem hMx_neg {w : Int} {z : Int × Int} (h : ¬ w < z.2) : hMx w z = w := if_neg h
theorem op_neDK {X : Cx} (K : PySem.W.Frag) (hu : X.A.units + 64 < cLine) (hK : X.K = K := by rfl) : OpR X (compareOp .NotEq) (rNeD K) := hK ▸ op_neD hu
theorem fold_row {l : Str} (hl : l = "row") : ∀ (zs : List (Int × Int)) (a b : Int), zs.foldl (stp l) (a, b) = (a + (zs.map (·.1)).sum, zs.foldl hMx b)
  | [], a, b => by simp
  | z :: r, a, b => by
    rw [List.foldl_cons, List.map_cons, List.sum_cons, List.foldl_cons]
    have e : stp l (a, b) z = (a + z.1, hMx b z) := by
      unfold stp hMx
      rw [if_pos hl]
    rw [e, fold_row hl r]
    congr 1
    omega
theorem fold_col {l : Str} (hl : ¬ l = "row") : ∀ (zs : List (Int × Int)) (a b : Int), zs.foldl (stp l) (a, b) = (zs.foldl wMx a, b + (zs.map (·.2)).sum)
  | [], a, b => by simp
  | z :: r, a, b => by
    rw [List.foldl_cons, List.map_cons, List.sum_cons, List.foldl_cons]
    have e : stp l (a, b) z = (wMx a z, b + z.2) := by
      unfold stp wMx
      rw [if_neg hl]
    rw [e, fold_col hl r]
    congr 1
    omega
def spMsr (K : PySem.W.Frag) : Sp := fun vs H Q _ => ∃ (G : Hp) (M : List (Addr × HO)) (l : Str) (L : Addr) (us : List V) (zs : List (Int × Int)), vs = [.str l, .ref L] ∧ Sep G M H ∧ l.length ≤ 100 ∧ G L = some (.lst us) ∧ Paired (Pr G) us zs ∧ us.length ≤ 400 ∧
  ∀ (v : V) (G' H' : Hp), Same G G' → Pr G' v (msr l zs) → Sep G' M H' → Q v H'
theorem ok_measured (T : Top K mg w) {k : Nat} : FnOk P w K mg base CX0 (k + 1) T.a_measured T.d_measured ["_law_label_here", "_law_sizes"] (spMsr K) := by
  refine T.F_measured.ok sc_measured (fun vs H Q E h => ?_) (fun cdv A outer s H vs Q E hr h => ?_)
  · obtain ⟨G, M, l, L, us, zs, rfl, _⟩ := h
    rfl
  · obtain ⟨G, M, l, L, us, zs, rfl, S, ll, hL0, hz, ul, q⟩ := h
    have hL := SqL.of (K := K) (S.st hL0)
    refine ⟨_, (pss_cons (xs_if (xt_cmp (op_eqLK K hr.u190) (pe_callB (cr_lenK K) (by rfl) T.m_len (by decide +kernel) (pa_cons (xv 1) pa_nil)) pe_int (nomark _))
      (pss_cons (xs_if (PW.pt (xw_or (xt_cmp (op_eqLK K hr.u190) (xv 0) pe_str (nomark _)) (pw_or1 (xt_cmp (op_eqLK K hr.u190) (xv 0) pe_str (nomark _)))))
      (pss_one (ps_ret (pe_tup (pa_cons pe_int (pa_cons pe_int pa_nil)))))
      pss_nil)
      (pss_one (ps_ret (pe_tup (pa_cons (pe_callB (cr_lenK K) (by rfl) T.m_len (by decide +kernel) (pa_cons (xv 0) pa_nil)) (pa_cons pe_int pa_nil))))))
      pss_nil)
      (pss_cons (ps_set (i := 2) sc_measured.nd rfl (.inl rfl) pe_int)
      (pss_cons (ps_set (i := 3) sc_measured.nd rfl (.inl rfl) pe_int)
      (pss_cons (ps_for PassesOwn.never rfl (pi_listK K (xv 1)) (pg_name (i := 4) sc_measured.nd rfl (.inl rfl))
      (xss_cut (xs_if (xt_cmp op_gtY (pe_ix (ix_k K) (xv 4) pe_int (fun _ _ => rfl)) (xv 2) (nomark _))
      (pss_one (ps_set (i := 2) sc_measured.nd rfl (.inl rfl) (pe_ix (ix_k K) (xv 4) pe_int (fun _ _ => rfl))))
      pss_nil)
      (pss_one (xs_if (xt_cmp op_gtY (pe_ix (ix_k K) (xv 4) pe_int (fun _ _ => rfl)) (xv 3) (nomark _))
      (pss_one (ps_set (i := 3) sc_measured.nd rfl (.inl rfl) (pe_ix (ix_k K) (xv 4) pe_int (fun _ _ => rfl))))
      pss_nil))))
      (pss_cons (xs_if (xt_cmp (op_eqLK K hr.u190) (xv 0) pe_str (nomark _))
      (pss_one (ps_ret (pe_tup (pa_cons (pe_callB (cr_sumK K rfl) (by rfl) T.m_sum (by decide +kernel) (pa_cons (pe_lc (own := [("_law_pair", 4)]) (by rfl) sc_measured.nd (pi_listK K (xv 1)) (blkOk_by (N := ["_law_label_here", "_law_sizes", "_law_widest", "_law_highest", "_law_pair"]) (sc := defScope s_measured) (by decide +kernel)) (fun _ _ _ _ _ => (pg_name (i := 4) sc_measured.nd rfl (.inl rfl))) (fun _ _ _ _ _ => pts_nil) (fun _ _ _ _ _ => (pe_ix (ix_k K) (xv 4) pe_int (fun _ _ => rfl)))) pa_nil)) (pa_cons (xv 3) pa_nil)))))
      pss_nil)
      (pss_one (ps_ret (pe_tup (pa_cons (xv 2) (pa_cons (pe_callB (cr_sumK K rfl) (by rfl) T.m_sum (by decide +kernel) (pa_cons (pe_lc (own := [("_law_pair", 4)]) (by rfl) sc_measured.nd (pi_listK K (xv 1)) (blkOk_by (N := ["_law_label_here", "_law_sizes", "_law_widest", "_law_highest", "_law_pair"]) (sc := defScope s_measured) (by decide +kernel)) (fun _ _ _ _ _ => (pg_name (i := 4) sc_measured.nd rfl (.inl rfl))) (fun _ _ _ _ _ => pts_nil) (fun _ _ _ _ _ => (pe_ix (ix_k K) (xv 4) pe_int (fun _ _ => rfl)))) pa_nil)) pa_nil)))))))))), ?_⟩
    have h100 : l.length ≤ sizeLine := small (by omega)
    refine ⟨_, .inl hL, fun e => ?_, fun e => ?_⟩
    · have e0 : us = [] := by
        have : (us.length : Int) = 0 := of_decide_eq_true e
        exact List.eq_nil_of_length_eq_zero (by omega)
      subst e0
      cases hz
      have ret : ∀ (i j : Int) (t : Addr), H t = none → msr l [] = (i, j) → Q (.ref t) (upd H t (.tup [.int i, .int j])) := fun i j t nt em => by
        obtain ⟨G1, s1, S1, k1⟩ := Sep.mk (o := .tup [.int i, .int j]) S nt
        exact q _ G1 _ s1 ⟨t, rfl, by rw [em]; exact k1⟩ S1
      refine ⟨fun e1 => ⟨fun _ => ⟨sz, fun t nt => ret 0 0 t nt ?_⟩, tt⟩, fun e1 => ⟨fun e2 => ⟨sz, fun t nt => ret 0 0 t nt ?_⟩, fun e2 => ⟨h100, sz, fun t nt => ret _ _ t nt ?_⟩⟩⟩
      · unfold msr
        rw [if_pos rfl, if_pos (.inl (of_decide_eq_true e1))]
      · unfold msr
        rw [if_pos rfl, if_pos (.inr (of_decide_eq_true e2))]
      · unfold msr
        rw [if_pos rfl, if_neg (fun h => by
          rcases h with h | h
          · exact of_decide_eq_false e1 h
          · exact of_decide_eq_false e2 h)]
    · have e0 : us ≠ [] := fun h => by
        subst h
        exact of_decide_eq_false e rfl
      have z0 : zs ≠ [] := fun h => by
        subst h
        cases hz
        exact e0 rfl
      have zl := prd_len hz
      refine ⟨L, rfl, ⟨us, hL⟩, for_list (xs := us) (fun i σ H' => ∃ y4 : Option V, σ = [some (.str l), some (.ref L), some (.int ((zs.take i).foldl wMx 0)), some (.int ((zs.take i).foldl hMx 0)), y4] ∧ H' = H)
        ⟨_, rfl, rfl⟩ (fun i σ H' _ h => ?_) (fun i x σ H' hx h => ?_) (fun σ H' h => ?_)⟩
      · obtain ⟨_, _, rfl⟩ := h
        exact hL
      · obtain ⟨y4, rfl, rfl⟩ := h
        obtain ⟨z, hzi, a, rfl, ha⟩ := prd_get hz hx
        have hT := SqT.of (K := K) (S.st ha)
        have tk := take_snoc hzi
        have ew : (zs.take (i + 1)).foldl wMx 0 = wMx ((zs.take i).foldl wMx 0) z := by rw [tk, List.foldl_append]; rfl
        have eh : (zs.take (i + 1)).foldl hMx 0 = hMx ((zs.take i).foldl hMx 0) z := by rw [tk, List.foldl_append]; rfl
        refine ⟨fun σ H1 => σ = [some (.str l), some (.ref L), some (.int ((zs.take (i + 1)).foldl wMx 0)), some (.int ((zs.take i).foldl hMx 0)), some (.ref a)] ∧ H1 = H', ?_, fun σ H1 h => ?_⟩
        · refine ⟨_, _, .inr hT, atI_nat (j := 0) rfl, fun e1 => ⟨_, _, .inr hT, atI_nat (j := 0) rfl, ?_, rfl⟩, fun e1 => ⟨?_, rfl⟩⟩
          · rw [ew]
            rw [wMx_pos (of_decide_eq_true e1)]
            rfl
          · rw [ew]
            rw [wMx_neg (of_decide_eq_false e1)]
            rfl
        · obtain ⟨rfl, rfl⟩ := h
          refine ⟨_, _, .inr hT, atI_nat (j := 1) rfl, fun e1 => ⟨_, _, .inr hT, atI_nat (j := 1) rfl, some (.ref a), ?_, rfl⟩, fun e1 => ⟨some (.ref a), ?_, rfl⟩⟩
          · rw [eh]
            rw [hMx_pos (of_decide_eq_true e1)]
            rfl
          · rw [eh]
            rw [hMx_neg (of_decide_eq_false e1)]
      · obtain ⟨y4, rfl, rfl⟩ := h
        rw [zl, List.take_length]
        refine ⟨fun e1 => ?_, fun e1 => ?_⟩
        · refine ⟨L, rfl, ⟨us, hL⟩, fun D nD => lc_list (xs := us) (fun i H1 => Sep G ((D, .lst (((zs.take i).map (·.1)).map V.int)) :: M) H1) (S.new nD) (fun i H1 _ p => SqL.of (p.st hL0)) (fun i x H1 hx p => ⟨rfl, ?_⟩) (fun H1 p => ?_)⟩
          · obtain ⟨z, hzi, a, rfl, ha⟩ := prd_get hz hx
            have il := (List.getElem?_eq_some_iff.mp hzi).1
            refine ⟨_, _, .inr (SqT.of (p.st ha)), atI_nat (j := 0) rfl, _, p.hd, by rw [List.length_map, List.length_map, List.length_take]; exact smallL (by omega), ?_⟩
            rw [take_snoc hzi, List.map_append, List.map_append]
            exact p.set
          · rw [zl, List.take_length] at p
            refine ⟨D, _, rfl, SqL.of p.hd, sz, fun t nt => ?_⟩
            obtain ⟨G1, s1, S1, k1⟩ := Sep.mk (o := .tup [V.int ((zs.map (·.1)).sum), .int (zs.foldl hMx 0)]) p.drop nt
            refine q _ G1 _ s1 ⟨t, rfl, ?_⟩ S1
            rw [show msr l zs = ((zs.map (·.1)).sum, zs.foldl hMx 0) from ?_]
            · exact k1
            · unfold msr
              rw [if_neg z0, fold_row (of_decide_eq_true e1)]
              simp
        · refine ⟨L, rfl, ⟨us, hL⟩, fun D nD => lc_list (xs := us) (fun i H1 => Sep G ((D, .lst (((zs.take i).map (·.2)).map V.int)) :: M) H1) (S.new nD) (fun i H1 _ p => SqL.of (p.st hL0)) (fun i x H1 hx p => ⟨rfl, ?_⟩) (fun H1 p => ?_)⟩
          · obtain ⟨z, hzi, a, rfl, ha⟩ := prd_get hz hx
            have il := (List.getElem?_eq_some_iff.mp hzi).1
            refine ⟨_, _, .inr (SqT.of (p.st ha)), atI_nat (j := 1) rfl, _, p.hd, by rw [List.length_map, List.length_map, List.length_take]; exact smallL (by omega), ?_⟩
            rw [take_snoc hzi, List.map_append, List.map_append]
            exact p.set
          · rw [zl, List.take_length] at p
            refine ⟨D, _, rfl, SqL.of p.hd, sz, fun t nt => ?_⟩
            obtain ⟨G1, s1, S1, k1⟩ := Sep.mk (o := .tup [V.int (zs.foldl wMx 0), .int ((zs.map (·.2)).sum)]) p.drop nt
            refine q _ G1 _ s1 ⟨t, rfl, ?_⟩ S1
            rw [show msr l zs = (zs.foldl wMx 0, (zs.map (·.2)).sum) from ?_]
            · exact k1
            · unfold msr
              rw [if_neg z0, fold_col (of_decide_eq_false e1)]
              simp
def RwP (K : PySem.W.Frag) (G : Hp) (v : V) (p : Tr) : Prop := ∃ a u, v = .ref a ∧ G a = some (.tup [.str (mrk p), u]) ∧ Dp K G u (pairD (lbl p) ((kids p).map meas))
theorem RwP.same {K : PySem.W.Frag} {G G' : Hp} (e : Same G G') {v : V} {p : Tr} (h : RwP K G v p) : RwP K G' v p := by
  obtain ⟨a, u, h1, h2, h3⟩ := h
  exact ⟨a, u, h1, e _ _ h2, dp_same e h3⟩
def spPrs (K : PySem.W.Frag) (n : Nat) : Sp := fun vs H Q _ => ∃ (G : Hp) (M : List (Addr × HO)) (v : V) (t : Tr) (R : Addr) (ws : List V) (rs : List Tr), vs = [v, .ref R] ∧ Sep G ((R, .lst ws) :: M) H ∧ Dp K G v (toD t) ∧ TrOk t ∧ hgt t ≤ n ∧ Paired (RwP K G) ws rs ∧ rs.length + (pre t).length ≤ 1000 ∧ (pre t).length ≤ 400 ∧
  ∀ (u : V) (ws' : List V) (G' H' : Hp), Same G G' → Pr G' u (meas t) → Paired (RwP K G') ws' (rs ++ post t) → Sep G' ((R, .lst ws') :: M) H' → Q u H'
theorem ok_pairs (T : Top K mg w) {k : Nat} (G_measured : FnOk P w K mg base CX0 (k + 1) T.a_measured T.d_measured ["_law_label_here", "_law_sizes"] (spMsr K)) : ∀ n : Nat, FnOk P w K mg base CX0 (k + 1 + n) T.a_pairs T.d_pairs ["_law_node", "_law_rows"] (spPrs K n)
  | 0 => fn_false19 fun vs H Q E h => by
    obtain ⟨_, _, _, t, _, _, _, _, _, _, _, h, _⟩ := h
    rw [hgt_eq] at h
    omega
  | n + 1 => by
    have G_pairs := ok_pairs T G_measured n
    have G_measured := G_measured.mono (show k + 1 ≤ k + 1 + n by omega)
    refine T.F_pairs.ok sc_pairs (fun vs H Q E h => ?_) (fun cdv A outer s H vs Q E hr h => ?_)
    · obtain ⟨G, M, v, t, R, ws, rs, rfl, _⟩ := h
      rfl
    · obtain ⟨G, M, v, t, R, ws, rs, rfl, S, hv, ok, hg, hws, l1, l4, q⟩ := h
      have hr : Room (k + 1 + n) (A.deeper (envOfC (Str.ofString "_law_pairs") (defScope s_pairs) s.heap.objs.size T.a_pairs cdv)) := hr
      refine ⟨_, (pss_cons (ps_set (i := 2) sc_pairs.nd rfl (.inl rfl) (pe_lst pa_nil))
      (pss_cons (ps_for PassesOwn.never rfl (pi_tupK K (pe_ix (ix_k K) (xv 0) pe_int (fun _ _ => rfl))) (pg_name (i := 3) sc_pairs.nd rfl (.inl rfl))
      (pss_one (ps_expr (pe_bmK K PySem.F.plainAttrs_list PySem.F.slot_list_append PySem.F.type_list_append mt_append (xv 2) (pa_cons (pe_call G_pairs (hr.mono (by omega)) (by rfl) T.g_pairs T.F_pairs.kp T.b_pairs .nil pass0 (pa_cons (xv 3) (pa_cons (xv 1) pa_nil))) pa_nil)))))
      (pss_cons (ps_expr (pe_bmK K PySem.F.plainAttrs_list PySem.F.slot_list_append PySem.F.type_list_append mt_append (xv 1) (pa_cons (pe_tup (pa_cons (pe_ix (ix_k K) (xv 0) pe_int (fun _ _ => rfl)) (pa_cons (pe_tup (pa_cons (pe_ix (ix_k K) (xv 0) pe_int (fun _ _ => rfl)) (pa_cons (pe_callTy (call_tupleK K) (by rfl) T.m_tuple (by decide +kernel) (pa_cons (xv 2) pa_nil)) pa_nil))) pa_nil))) pa_nil)))
      (pss_one (ps_ret (pe_call G_measured (hr.mono (by omega)) (by rfl) T.g_measured T.F_measured.kp T.b_measured .nil pass0 (pa_cons (pe_ix (ix_k K) (xv 0) pe_int (fun _ _ => rfl)) (pa_cons (xv 2) pa_nil)))))))), ?_⟩
      obtain ⟨a, kv, kus, rfl, ha, hkv, hkus⟩ := node_at hv
      have kl := dpa_len hkus
      rw [List.length_map] at kl
      have pt := congrArg List.length (pre_eq t)
      rw [List.length_cons] at pt
      have ml := many_le (kids t)
      refine ⟨sz, fun L nL => ?_⟩
      have S1 := S.new (o := .lst []) nL
      refine ⟨_, _, .inr (S1.t ha), atI_nat (j := 2) rfl, kv, rfl, ⟨kus, S1.t hkv⟩, for_tup (xs := kus) (fun i σ H' => ∃ (y3 : Option V) (ss ws' : List V) (G' : Hp), σ = [some (.ref a), some (.ref R), some (.ref L), y3] ∧ Same G G' ∧ Paired (Pr G') ss (((kids t).take i).map meas) ∧ ss.length = i ∧ Paired (RwP K G') ws' (rs ++ posts ((kids t).take i)) ∧ Sep G' ((L, .lst ss) :: (R, .lst ws') :: M) H')
        ⟨_, [], ws, G, rfl, Same.refl _, .nil, rfl, by simpa [posts] using hws, S1⟩ (fun i σ H' _ h => ?_) (fun i x σ H' hx h => ?_) (fun σ H' h => ?_)⟩
      · obtain ⟨_, _, _, G', _, s', _, _, _, S'⟩ := h
        exact S'.t (same_t s' hkv)
      · obtain ⟨y3, ss, ws', G', rfl, s', hss, sl, hws', S'⟩ := h
        obtain ⟨d, hd, hxd⟩ := dpa_get hkus hx
        obtain ⟨c, hc, rfl⟩ := map_get hd
        have cm := List.mem_of_getElem? hc
        have il := (List.getElem?_eq_some_iff.mp hc).1
        have hgc := hgt_kid cm
        have tk := take_snoc hc
        have pl : (posts ((kids t).take i)).length + (pre c).length ≤ (pres (kids t)).length := by
          have e1 := (posts_perm ((kids t).take i)).length_eq
          have e2 : pres (kids t) = pres ((kids t).take i) ++ (pre c ++ pres ((kids t).drop (i + 1))) := by
            conv => lhs; rw [(take_pre hc).1]
            rw [pres_app]
            rfl
          rw [e1, e2]
          simp only [List.length_append]
          omega
        refine ⟨.inl ⟨rfl, _, SqL.of S'.hd⟩, G', _, x, c, R, ws', _, rfl, S'.sw, dp_same s' hxd, ok.sub (by rw [pre_eq]; exact List.mem_cons_of_mem _ (mem_pres.mpr ⟨c, cm, self_pre c⟩)), by omega, hws', by rw [List.length_append]; omega, by omega, fun u ws2 G4 H4 s4 hu hws2 S4 => ?_⟩
        refine ⟨L, ss, u, rfl, rfl, S4.sw.hd, smallL (by omega), ?_⟩
        refine ⟨_, ss ++ [u], ws2, G4, rfl, s'.trans s4, ?_, by rw [List.length_append, sl]; rfl, ?_, S4.sw.set⟩
        · rw [tk, List.map_append]
          exact prd_app (prd_imp (fun _ _ => Pr.same s4) hss) (.cons hu .nil)
        · rw [tk, posts_app, posts_one, ← List.append_assoc]
          exact hws2
      · obtain ⟨y3, ss, ws', G', rfl, s', hss, sl, hws', S'⟩ := h
        rw [kl, List.take_length] at *
        have ha' := same_t s' ha
        refine ⟨.inl ⟨rfl, _, SqL.of S'.sw.hd⟩, _, _, .inr (S'.t ha'), atI_nat (j := 0) rfl, _, _, .inr (S'.t ha'), atI_nat (j := 1) rfl, L, ss, rfl, .inl ⟨SqL.of S'.hd, fun t5 n5 => ?_⟩⟩
        obtain ⟨G5, s5, S5, k5⟩ := Sep.mk (o := .tup ss) S' n5
        refine ⟨sz, fun t6 n6 => ?_⟩
        obtain ⟨G6, s6, S6, k6⟩ := Sep.mk (o := .tup [.str (lbl t), .ref t5]) S5 n6
        refine ⟨sz, fun t7 n7 => ?_⟩
        obtain ⟨G7, s7, S7, k7⟩ := Sep.mk (o := .tup [.str (mrk t), .ref t6]) S6 n7
        have wl := prd_len hws'
        have pl := (posts_perm (kids t)).length_eq
        rw [List.length_append] at wl
        refine ⟨R, ws', .ref t7, rfl, rfl, S7.sw.hd, smallL (by omega), ?_⟩
        have S8 := S7.sw.set (o' := .lst (ws' ++ [.ref t7]))
        obtain ⟨G9, s9, S9, k9⟩ := Sep.keep S8.sw
        have s59 := s5.trans (s6.trans (s7.trans s9))
        have hss9 := prd_imp (fun _ _ => Pr.same s59) hss
        have lbt : (lbl t).length ≤ 100 := by have := (ok.tx t (self_pre t)).2.hi; omega
        have hpd : Dp K G9 (.ref t6) (pairD (lbl t) ((kids t).map meas)) := .tup (SqT.of ((s7.trans s9) _ _ k6)) (.cons (.str _) (.cons (.tup (SqT.of ((s6.trans (s7.trans s9)) _ _ k5)) (prs_dp hss9)) .nil))
        refine ⟨_, _, .inr (S9.t (same_t s59 ha')), atI_nat (j := 1) rfl, G9, _, lbl t, L, ss, (kids t).map meas, rfl, S9, lbt, k9, hss9, by omega, fun v10 G10 H10 s10 hv10 S10 => ?_⟩
        rw [← meas_eq] at hv10
        refine q v10 (ws' ++ [.ref t7]) G10 H10 (s'.trans (s59.trans s10)) hv10 ?_ S10
        rw [post_eq, ← List.append_assoc]
        exact prd_app (prd_imp (fun _ _ => RwP.same (s59.trans s10)) hws') (.cons ⟨t7, .ref t6, rfl, s10 _ _ (s9 _ _ k7), dp_same s10 hpd⟩ .nil)
def spDue (K : PySem.W.Frag) : Sp := fun vs H Q _ => ∃ (G : Hp) (M : List (Addr × HO)) (v u : V) (s t : Tr), vs = [v, u] ∧ Sep G M H ∧ Dp K G v (toD s) ∧ Dp K G u (toD t) ∧ Gt s ∧ Gt t ∧
  ∀ (p : Addr) (G' H' : Hp), Same G G' → G' p = some (.tup ((msd (post s) (post t)).map V.str)) → Sep G' M H' → Q (.ref p) H'
theorem ok_due (T : Top K mg w) {k : Nat} (G_pairs : FnOk P w K mg base CX0 k T.a_pairs T.d_pairs ["_law_node", "_law_rows"] (spPrs K 60)) : FnOk P w K mg base CX0 (k + 1) T.a_due T.d_due ["_law_old", "_law_new"] (spDue K) := by
  refine T.F_due.ok sc_due (fun vs H Q E h => ?_) (fun cdv A outer s H vs Q E hr h => ?_)
  · obtain ⟨G, M, v, u, s, t, rfl, _⟩ := h
    rfl
  · obtain ⟨G, M, v, u, s0, t, rfl, S, hv, hu, gs, gt, q⟩ := h
    refine ⟨_, (pss_cons (ps_set (i := 2) sc_due.nd rfl (.inl rfl) (pe_lst pa_nil))
      (pss_cons (ps_set (i := 3) sc_due.nd rfl (.inl rfl) (pe_lst pa_nil))
      (pss_cons (ps_expr (pe_call G_pairs (hr.mono (by omega)) (by rfl) T.g_pairs T.F_pairs.kp T.b_pairs .nil pass0 (pa_cons (xv 0) (pa_cons (xv 2) pa_nil))))
      (pss_cons (ps_expr (pe_call G_pairs (hr.mono (by omega)) (by rfl) T.g_pairs T.F_pairs.kp T.b_pairs .nil pass0 (pa_cons (xv 1) (pa_cons (xv 3) pa_nil))))
      (pss_cons (ps_set (i := 4) sc_due.nd rfl (.inr rfl) pe_dnewK)
      (pss_cons (ps_for PassesOwn.never rfl (pi_listK K (xv 2)) (pg_tupK K 2 (pgs_cons (pg_name (i := 5) sc_due.nd rfl (.inl rfl)) (pgs_cons (pg_name (i := 6) sc_due.nd rfl (.inl rfl)) pgs_nil)))
      (pss_one (ps_dput (hu_of hr) (xv 4) (xv 5) (xv 6) rfl)))
      (pss_one (ps_ret (pe_callTy (call_tupleK K) (by rfl) T.m_tuple (by decide +kernel) (pa_cons (pe_lc (own := [("_law_mark", 5), ("_law_pair", 6)]) (by rfl) sc_due.nd (pi_listK K (xv 3)) (blkOk_by (N := ["_law_old", "_law_new", "_law_before", "_law_behind", "_law_known", "_law_mark", "_law_pair"]) (sc := defScope s_due) (by decide +kernel)) (fun _ _ _ _ _ => (pg_tupK K 2 (pgs_cons (pg_name (i := 5) sc_due.nd rfl (.inl rfl)) (pgs_cons (pg_name (i := 6) sc_due.nd rfl (.inl rfl)) pgs_nil)))) (fun _ _ _ _ _ => (pts_one (xt_cmp (op_neDK K hr.units) (pe_dget1 (hu_of hr) (xv 4) (xv 5) ⟨by rfl, by rfl, by rfl, by rfl⟩) (xv 6) (nomark _)))) (fun _ _ _ _ _ => (xv 5))) pa_nil)))))))))), ?_⟩
    have n1 := gs.ln
    have n2 := gt.ln
    refine ⟨sz, fun B nB => ⟨sz, fun C nC => ?_⟩⟩
    have S2 := (S.new (o := .lst []) nB).new (o := .lst []) nC
    refine ⟨G, _, v, s0, B, [], [], rfl, S2.sw, hv, gs.ok, gs.ok.hg, .nil, by rw [List.length_nil]; omega, n1, fun _ ws1 G1 H1 s1 _ hws1 S3 => ?_⟩
    refine ⟨G1, _, u, t, C, [], [], rfl, S3.sw, dp_same s1 hu, gt.ok, gt.ok.hg, .nil, by rw [List.length_nil]; omega, n2, fun _ ws2 G2 H2 s2 _ hws2 S4 => ?_⟩
    rw [List.nil_append] at hws1 hws2
    obtain ⟨G3, s3, S5, kC⟩ := Sep.keep S4
    obtain ⟨G4, s4, S6, kB⟩ := Sep.keep S5
    have hb : Paired (RwP K G4) ws1 (post s0) := prd_imp (fun _ _ => RwP.same (s2.trans (s3.trans s4))) hws1
    have hc : Paired (RwP K G4) ws2 (post t) := prd_imp (fun _ _ => RwP.same (s3.trans s4)) hws2
    have kC4 := s4 _ _ kC
    have bl := prd_len hb
    have cl := prd_len hc
    have pb := (post_perm s0).length_eq
    have pc := (post_perm t).length_eq
    have nds : ((post s0).map mrk).Nodup := ((post_perm s0).map mrk).nodup_iff.mpr gs.nd
    refine fun D nD => ?_
    have S7 := S6.new (o := .dK []) nD
    refine ⟨B, rfl, ⟨ws1, SqL.of (S7.st kB)⟩, for_list (xs := ws1) (fun i σ H' => ∃ (y5 y6 : Option V) (kn : List (Key × V)), σ = [some v, some u, some (.ref B), some (.ref C), some (.ref D), y5, y6] ∧ Paired (PrAt K G4) kn ((post s0).take i) ∧ Sep G4 ((D, .dK kn) :: M) H')
      ⟨_, _, [], rfl, .nil, S7⟩ (fun i σ H' _ h => ?_) (fun i x σ H' hx h => ?_) (fun σ H' h => ?_)⟩
    · obtain ⟨_, _, _, _, _, S'⟩ := h
      exact SqL.of (S'.st kB)
    · obtain ⟨y5, y6, kn, rfl, hkn, S'⟩ := h
      obtain ⟨p, hp, a, pv, rfl, ha, hpv⟩ := prd_get hb hx
      have il := (List.getElem?_eq_some_iff.mp hp).1
      have kl := prd_len hkn
      rw [List.length_take] at kl
      have e1 : (post s0).map mrk = ((post s0).take i).map mrk ++ mrk p :: ((post s0).drop (i + 1)).map mrk := by
        conv => lhs; rw [(take_pre hp).1]
        rw [List.map_append, List.map_cons]
      have fresh : valV kn (Sum.inr (mrk p)) = none := valV_none (by
        rw [pr_keys hkn]
        intro hm
        obtain ⟨r, hr1, hr2⟩ := List.mem_map.mp hm
        rw [e1, List.nodup_append] at nds
        exact nds.2.2 _ (List.mem_map_of_mem hr1) _ List.mem_cons_self (Sum.inr.inj hr2))
      refine ⟨a, _, rfl, SqT.of (S'.st ha), rfl, _, _, rfl, _, _, rfl, rfl, D, _, rfl, DPut.k (k := Sum.inr (mrk p)) S'.hd (smallL (by omega)), ?_⟩
      rw [putK_new fresh]
      refine ⟨_, _, kn ++ [(Sum.inr (mrk p), pv)], rfl, ?_, S'.set⟩
      rw [take_snoc hp]
      exact prd_app hkn (.cons ⟨rfl, hpv⟩ .nil)
    · obtain ⟨y5, y6, kn, rfl, hkn, S'⟩ := h
      rw [bl, List.take_length] at hkn
      obtain ⟨G8, s8, S8, kD⟩ := Sep.keep S'
      have hkn8 : Paired (PrAt K G8) kn (post s0) := prd_imp (fun _ _ => PrAt.same s8) hkn
      have hc8 : Paired (RwP K G8) ws2 (post t) := prd_imp (fun _ _ => RwP.same s8) hc
      have kC8 := s8 _ _ kC4
      refine ⟨C, rfl, ⟨ws2, SqL.of (S8.st kC8)⟩, fun O nO => lc_list (xs := ws2) (fun i H' => Sep G8 ((O, .lst ((msd (post s0) ((post t).take i)).map V.str)) :: M) H') (S8.new nO) (fun i H' _ p => SqL.of (p.st kC8)) (fun i x H' hx P1 => ?_) (fun H' P1 => ?_)⟩
      · obtain ⟨p, hp, a, pv, rfl, ha, hpv⟩ := prd_get hc8 hx
        have pm : p ∈ pre t := (post_perm t).mem_iff.mp (List.mem_of_getElem? hp)
        have il := (List.getElem?_eq_some_iff.mp hp).1
        have msn : msd (post s0) ((post t).take (i + 1)) = msd (post s0) ((post t).take i) ++ (if kept (post s0) p then [] else [mrk p]) := by
          rw [take_snoc hp]
          exact msd_snoc _ _ _
        have ml : (msd (post s0) ((post t).take i)).length ≤ i := by
          rw [msd, List.length_map]
          have := List.length_filter_le (fun p => !kept (post s0) p) ((post t).take i)
          rw [List.length_take] at this
          omega
        refine ⟨a, _, rfl, SqT.of (P1.st ha), rfl, _, _, rfl, _, _, rfl, rfl, rfl, D, rfl, .inl ⟨_, .inl (P1.st kD)⟩, ?_⟩
        have go : ∀ b : Bool, b = !kept (post s0) p → (if b = true then ∃ acc, H' O = some (.lst acc) ∧ acc.length < sizeLine ∧ Sep G8 ((O, .lst ((msd (post s0) ((post t).take (i + 1))).map V.str)) :: M) (upd H' O (.lst (acc ++ [V.str (mrk p)]))) else Sep G8 ((O, .lst ((msd (post s0) ((post t).take (i + 1))).map V.str)) :: M) H') := fun b eb => by
          refine tst (fun e => ?_) (fun e => ?_)
          · rw [e] at eb
            have hk : kept (post s0) p = false := by simpa using eb.symm
            refine ⟨_, P1.hd, by rw [List.length_map]; exact smallL (by omega), ?_⟩
            rw [msn, hk, List.map_append]
            exact P1.set
          · rw [e] at eb
            have hk : kept (post s0) p = true := by simpa using eb.symm
            rw [msn, hk]
            simpa using P1
        have lp := (tx_lbl gt.ok p pm).2
        rcases pr_val (m := mrk p) hkn8 with ⟨q0, hq1, hq2, hq3, v0, hv0, hvd⟩ | ⟨hq3, hv0⟩
        · have lq := (tx_lbl gs.ok q0 ((post_perm s0).mem_iff.mp hq1)).2
          refine ⟨some v0, hv0 ▸ DGet.k (k := Sum.inr (mrk p)) (P1.st kD), pairD (lbl q0) ((kids q0).map meas), pairD (lbl p) ((kids p).map meas), dp_same P1.1 hvd, dp_same P1.1 hpv, pair_sh lq _, pair_sh lp _, ?_⟩
          refine go _ ?_
          rw [eqv_pair]
          unfold kept
          rw [hq3]
          congr 1
          rw [decide_eq_decide]
          exact ⟨fun z => congrArg some z, fun z => Option.some.inj z⟩
        · refine ⟨none, hv0 ▸ DGet.k (k := Sum.inr (mrk p)) (P1.st kD), .none, pairD (lbl p) ((kids p).map meas), .non, dp_same P1.1 hpv, rfl, pair_sh lp _, ?_⟩
          refine go _ ?_
          unfold kept
          rw [hq3]
          simp [PyData.eqv, pairD]
      · rw [cl, List.take_length] at P1
        refine ⟨O, _, rfl, .inl ⟨SqL.of P1.hd, fun r nr => ?_⟩⟩
        obtain ⟨G9, s9, S9, k9⟩ := Sep.mk (o := .tup ((msd (post s0) (post t)).map V.str)) P1 nr
        exact q r G9 _ (s1.trans (s2.trans (s3.trans (s4.trans (s8.trans s9))))) k9 S9.drop

end
end K19
set_option Elab.async false
set_option linter.all false
set_option maxRecDepth 100000
set_option maxHeartbeats 4000000
namespace K19
open PySem PySem.Spec PyProof.Rows L2 XL
structure Pool (N : List Str) (t : Tr) (zs : List Str) : Prop where
  nd : ((pre t).map mrk ++ zs).Nodup
  ln : (pre t).length + zs.length = N.length
  tx : ∀ z ∈ zs, Tx 1 59 z
  mm : ∀ z ∈ (pre t).map mrk ++ zs, z ∈ N
/-! ### what is drawn fits -/
structure St (N : List Str) (t : Tr) (zs : List Str) : Prop where
  po : Pool N t zs
  tx : ∀ p ∈ pre t, Tx 1 59 (mrk p) ∧ Tx 1 20 (lbl p)
theorem St.gt {N : List Str} {t : Tr} {zs : List Str} (h : St N t zs) (hN : N.length ≤ 60) : Gt t := by
  have l := h.po.ln
  refine ⟨(List.nodup_append.mp h.po.nd).1, by omega, ⟨?_, fun p hp => ⟨(h.tx p hp).1.wide (Nat.le_refl _) (by decide), (h.tx p hp).2⟩⟩⟩
  have := hgt_pre t
  omega
theorem st_of {N : List Str} {t t' : Tr} {zs zs' : List Str} (h : St N t zs) (X : List (Str × Str)) (hp : (ml t').Perm X) (hm : (X.map (·.1) ++ zs').Perm ((pre t).map mrk ++ zs)) (hx : ∀ x ∈ X, Tx 1 59 x.1 ∧ Tx 1 20 x.2) (hz : ∀ z ∈ zs', Tx 1 59 z) : St N t' zs' := by
  have h1 : ((pre t').map mrk ++ zs').Perm ((pre t).map mrk ++ zs) := by
    rw [← ml_mrk]
    exact (List.Perm.append_right zs' (hp.map (·.1))).trans hm
  refine ⟨⟨h1.nodup_iff.mpr h.po.nd, ?_, hz, fun z hz' => h.po.mm z (h1.mem_iff.mp hz')⟩, ml_tx (A := fun a b => Tx 1 59 a ∧ Tx 1 20 b) fun x hx' => hx x (hp.mem_iff.mp hx')⟩
  have e := h1.length_eq
  rw [List.length_append, List.length_append, List.length_map, List.length_map] at e
  have := h.po.ln
  omega
theorem St.mx {N : List Str} {t : Tr} {zs : List Str} (h : St N t zs) : ∀ x ∈ ml t, Tx 1 59 x.1 ∧ Tx 1 20 x.2 := ml_tx2 (A := fun a b => Tx 1 59 a ∧ Tx 1 20 b) h.tx
theorem St.nd {N : List Str} {t : Tr} {zs : List Str} (h : St N t zs) : ((pre t).map mrk).Nodup := (List.nodup_append.mp h.po.nd).1
theorem st_put {N : List Str} {t q s : Tr} {zs : List Str} {i n : Nat} (h : St N t zs) (hN : N.length ≤ 60) (hq : q ∈ pre t) (hi : i ≤ (kids q).length) (hs : (pre s).map mrk = zs.take n) (hx : ∀ p ∈ pre s, Tx 1 59 (mrk p) ∧ Tx 1 20 (lbl p)) :
    Fits (.put (mrk q) i s) t ∧ St N (aft (.put (mrk q) i s) t) (zs.drop n) := by
  have nd := h.nd
  obtain ⟨π, hπ⟩ := pre_sub t hq
  have e := aft_node (p := .put (mrk q) i s) (.inl ⟨_, _, _, rfl⟩) nd hπ rfl
  rw [show lbP (.put (mrk q) i s) (mrk q) (lbl q) = lbl q from rfl, show ksP (.put (mrk q) i s) (mrk q) (kids q) = insT (kids q) i s from if_pos rfl] at e
  obtain ⟨R, h1, h2⟩ := ml_set hπ
  have hu := h2 (.node (mrk q) (lbl q) (insT (kids q) i s))
  rw [← e] at hu
  have hml : (ml (aft (.put (mrk q) i s) t)).Perm (ml s ++ ml t) := by
    refine hu.trans ?_
    refine List.Perm.trans ?_ (List.Perm.append_left (ml s) h1.symm)
    rw [← List.append_assoc]
    refine List.Perm.append_right R ?_
    rw [ml_eq q, ml_eq (.node (mrk q) (lbl q) (insT (kids q) i s))]
    show ((mrk q, lbl q) :: mls (insT (kids q) i s)).Perm (ml s ++ (mrk q, lbl q) :: mls (kids q))
    refine (List.Perm.cons _ (mls_perm (ins_perm (kids q) i s))).trans ?_
    rw [mls_cons]
    exact List.perm_middle.symm
  have hz : zs = (pre s).map mrk ++ zs.drop n := by rw [hs, List.take_append_drop]
  refine ⟨⟨q, hq, rfl, hi, ?_, ?_⟩, ?_⟩
  · have nd2 := h.po.nd
    rw [hz, ← List.append_assoc] at nd2
    exact (List.nodup_append.mp nd2).1
  · have l1 := h.po.ln
    have l2 := congrArg List.length hz
    rw [List.length_append, List.length_map] at l2
    omega
  · refine st_of h _ hml ?_ (fun x hx' => ?_) (fun z hz' => h.po.tx z (List.mem_of_mem_drop hz'))
    · rw [List.map_append, ml_mrk, ml_mrk]
      conv => rhs; rw [hz]
      rw [List.append_assoc]
      exact List.perm_append_comm_assoc _ _ _
    · rcases List.mem_append.mp hx' with h' | h'
      · exact ml_tx2 (A := fun a b => Tx 1 59 a ∧ Tx 1 20 b) hx x h'
      · exact h.mx x h'
theorem st_drop {N : List Str} {t q c : Tr} {zs : List Str} {k : Nat} (h : St N t zs) (hq : q ∈ pre t) (hk : (kids q)[k]? = some c) :
    Fits (.drop (mrk c)) t ∧ St N (aft (.drop (mrk c)) t) (zs ++ (pre c).map mrk) := by
  have nd := h.nd
  obtain ⟨π, hπ⟩ := pre_sub t hq
  have e := aft_child (p := .drop (mrk c)) (.inl ⟨_, rfl⟩) nd hπ hk rfl
  rw [show chP (.drop (mrk c)) (kids q) k c = (kids q).eraseIdx k from rfl] at e
  obtain ⟨R, h1, h2⟩ := ml_set hπ
  have hu := h2 (.node (mrk q) (lbl q) ((kids q).eraseIdx k))
  rw [← e] at hu
  have cq : c ∈ kids q := List.mem_of_getElem? hk
  have ct : c ∈ pre t := pre_trans t hq (by rw [pre_eq]; exact List.mem_cons_of_mem _ (mem_pres.mpr ⟨c, cq, self_pre c⟩))
  have hml : (ml t).Perm (ml c ++ ml (aft (.drop (mrk c)) t)) := by
    refine h1.trans (List.Perm.trans ?_ (List.Perm.append_left (ml c) hu.symm))
    rw [← List.append_assoc]
    refine List.Perm.append_right R ?_
    rw [ml_eq q, ml_eq (.node (mrk q) (lbl q) ((kids q).eraseIdx k))]
    show ((mrk q, lbl q) :: mls (kids q)).Perm (ml c ++ (mrk q, lbl q) :: mls ((kids q).eraseIdx k))
    refine (List.Perm.cons _ (mls_perm (erase_perm hk))).trans ?_
    rw [mls_cons]
    exact List.perm_middle.symm
  refine ⟨⟨List.mem_map_of_mem ct, fun e2 => ?_⟩, ?_⟩
  · have : c = t := mrk_inj nd ct (self_pre t) e2
    have l1 := hgt_kid cq
    have l2 := sub_lev hπ
    rw [this] at l1
    omega
  · refine st_of h (ml (aft (.drop (mrk c)) t)) (List.Perm.refl _) ?_ (fun x hx' => h.mx x (hml.mem_iff.mpr (List.mem_append_right _ hx'))) (fun z hz' => ?_)
    · have := hml.map (·.1)
      rw [List.map_append, ml_mrk, ml_mrk] at this
      rw [← List.append_assoc]
      refine List.Perm.trans ?_ (List.Perm.append_right zs this.symm)
      refine List.Perm.trans List.perm_append_comm ?_
      rw [← List.append_assoc]
    · rcases List.mem_append.mp hz' with h' | h'
      · exact h.po.tx z h'
      · obtain ⟨p, hp, rfl⟩ := List.mem_map.mp h'
        exact (h.tx p (pre_trans t ct hp)).1
theorem st_move {N : List Str} {t q c : Tr} {zs : List Str} {k i : Nat} (h : St N t zs) (hq : q ∈ pre t) (hk : (kids q)[k]? = some c) (hi : i < (kids q).length) :
    Fits (.move (mrk c) i) t ∧ St N (aft (.move (mrk c) i) t) zs := by
  have nd := h.nd
  obtain ⟨π, hπ⟩ := pre_sub t hq
  have e := aft_child (p := .move (mrk c) i) (.inr ⟨_, _, rfl⟩) nd hπ hk rfl
  rw [show chP (.move (mrk c) i) (kids q) k c = insT ((kids q).eraseIdx k) i c from rfl] at e
  obtain ⟨R, h1, h2⟩ := ml_set hπ
  have hu := h2 (.node (mrk q) (lbl q) (insT ((kids q).eraseIdx k) i c))
  rw [← e] at hu
  have hml : (ml (aft (.move (mrk c) i) t)).Perm (ml t) := by
    refine hu.trans (List.Perm.trans (List.Perm.append_right R ?_) h1.symm)
    rw [ml_eq q, ml_eq (.node (mrk q) (lbl q) (insT ((kids q).eraseIdx k) i c))]
    exact List.Perm.cons _ (mls_perm ((ins_perm _ i c).trans (erase_perm hk).symm))
  refine ⟨⟨q, hq, c, List.mem_of_getElem? hk, rfl, hi⟩, st_of h _ hml ?_ h.mx h.po.tx⟩
  rw [ml_mrk]
theorem st_say {N : List Str} {t q : Tr} {zs : List Str} {l : Str} (h : St N t zs) (hq : q ∈ pre t) (hl : Tx 1 20 l) : Fits (.say (mrk q) l) t ∧ St N (aft (.say (mrk q) l) t) zs := by
  have nd := h.nd
  obtain ⟨π, hπ⟩ := pre_sub t hq
  have e := aft_node (p := .say (mrk q) l) (.inr ⟨_, _, rfl⟩) nd hπ rfl
  rw [show lbP (.say (mrk q) l) (mrk q) (lbl q) = l from if_pos rfl, show ksP (.say (mrk q) l) (mrk q) (kids q) = kids q from rfl] at e
  obtain ⟨R, h1, h2⟩ := ml_set hπ
  have hu := h2 (.node (mrk q) l (kids q))
  rw [← e, ml_eq (.node (mrk q) l (kids q))] at hu
  rw [ml_eq q] at h1
  refine ⟨List.mem_map_of_mem hq, st_of h ((mrk q, l) :: (mls (kids q) ++ R)) hu ?_ (fun x hx => ?_) h.po.tx⟩
  · refine List.Perm.append_right zs ?_
    have := h1.map (·.1)
    rw [ml_mrk] at this
    exact this.symm
  · rcases List.mem_cons.mp hx with rfl | hx
    · exact ⟨(h.tx q hq).1, hl⟩
    · exact h.mx x (h1.mem_iff.mpr (List.mem_cons_of_mem _ hx))

section
variable {P : Program} {w : World} {K : PySem.W.Frag} {mg : Str → Option Value} {base : Heap}
end
end K19
set_option Elab.async false
set_option linter.all false
set_option maxRecDepth 100000
set_option maxHeartbeats 4000000
namespace K19
open PySem PySem.Spec PyProof.Rows L2 XL
section
variable {P : Program} {w : World} {K : PySem.W.Frag} {mg : Str → Option Value} {base : Heap}
/-! ### edits of a flat list -/
theorem nd_all {α : Type} [DecidableEq α] {l N : List α} (nd : l.Nodup) (h : ∀ x ∈ l, x ∈ N) (e : N.length ≤ l.length) : ∀ x ∈ N, x ∈ l := fun x hx => Decidable.byContradiction fun hn => by
  have h1 := nd_sub (List.nodup_cons.mpr ⟨hn, nd⟩) fun y hy => by
    rcases List.mem_cons.mp hy with rfl | hy
    · exact hx
    · exact h y hy
  rw [List.length_cons] at h1
  omega
theorem St.perm {N : List Str} {t : Tr} {zs zs' : List Str} (h : St N t zs) (p : zs'.Perm zs) : St N t zs' := by
  have q := List.Perm.append_left ((pre t).map mrk) p
  exact ⟨⟨q.nodup_iff.mpr h.po.nd, by rw [p.length_eq]; exact h.po.ln, fun z hz => h.po.tx z (p.mem_iff.mp hz), fun z hz => h.po.mm z (q.mem_iff.mp hz)⟩, h.tx⟩
def Wl (N : List Str) (t : Tr) : Prop := ∃ zs, St N t zs
theorem Wl.spare {N : List Str} {t : Tr} {zs : List Str} (h : St N t zs) {m : Str} (hm : m ∈ N) (hn : m ∉ (pre t).map mrk) : m ∈ zs := by
  have h1 := nd_all h.po.nd h.po.mm (by rw [List.length_append, List.length_map]; have := h.po.ln; omega) m hm
  exact (List.mem_append.mp h1).resolve_left hn
theorem Wl.gt {N : List Str} {t : Tr} (h : Wl N t) (hN : N.length ≤ 60) : Gt t := let ⟨_, s⟩ := h; s.gt hN
theorem Wl.len {N : List Str} {t : Tr} (h : Wl N t) : (fl 0 t).length ≤ N.length := by
  obtain ⟨zs, s⟩ := h
  rw [fl_len]
  have := s.po.ln
  omega
theorem lft_set : ∀ {π : List Nat} {t q : Tr} {d : Nat} (u : Tr), sub t π = some q → lft d (setAt t π u) π = lft d t π
  | [], t, q, d, u, h => rfl
  | k :: π, t, q, d, u, h => by
    obtain ⟨c, hc, h⟩ := sub_ne h
    have hk := (List.getElem?_eq_some_iff.mp hc).1
    rw [setAt_cons hc, lft_cons hc, lft_cons (c := setAt c π u) (by show ((kids t).set k (setAt c π u))[k]? = _; exact List.getElem?_set_self hk), lft_set u h]
    show (mrk t, lbl t, d) :: (fls (d + 1) (((kids t).set k (setAt c π u)).take k) ++ _) = _
    rw [List.take_set_of_le (Nat.le_refl _)]
theorem row_at {t q : Tr} {π : List Nat} (h : sub t π = some q) : (fl 0 t)[(lft 0 t π).length]? = some (mrk q, lbl q, π.length) := by
  rw [fl_split 0 h, fl_eq, List.cons_append, List.getElem?_append_right (Nat.le_refl _), Nat.sub_self, Nat.zero_add]
  rfl
theorem pos_kid {t : Tr} {k : Nat} (hk : k < (fl 0 t).length) (h0 : 0 < k) : ∃ (π : List Nat) (j : Nat) (q c : Tr), sub t π = some q ∧ (kids q)[j]? = some c ∧ sub t (π ++ [j]) = some c ∧ (lft 0 t (π ++ [j])).length = k := by
  obtain ⟨π, c, h1, h2⟩ := at_pos 0 t k hk
  rcases nil_or_snoc π with rfl | ⟨π', j, rfl⟩
  · simp [lft] at h2
    omega
  · obtain ⟨q, h3, h4⟩ := sub_unsnoc h1
    exact ⟨π', j, q, c, h3, h4, h1, h2⟩
theorem ed_drop {N : List Str} {t : Tr} {k e : Nat} (w : Wl N t) (hk : k < (fl 0 t).length) (h0 : 0 < k) (he : IsEnd (fl 0 t) k e) : ∃ m l d, (fl 0 t)[k]? = some (m, l, d) ∧ Fits (.drop m) t ∧ Wl N (aft (.drop m) t) ∧ (fl 0 t).take k ++ (fl 0 t).drop e = fl 0 (aft (.drop m) t) := by
  obtain ⟨zs, st⟩ := w
  obtain ⟨π, j, q, c, h1, h2, h3, rfl⟩ := pos_kid hk h0
  have ee := end_at rfl h3 he
  obtain ⟨f, s⟩ := st_drop st (sub_mem h1) h2
  refine ⟨_, _, _, row_at h3, f, ⟨_, s⟩, ?_⟩
  rw [ee, drop_fl h1 h2, aft_child (p := .drop (mrk c)) (.inl ⟨_, rfl⟩) st.nd h1 h2 rfl]
  rfl
theorem ed_say {N : List Str} {t : Tr} {k : Nat} {l' : Str} (w : Wl N t) (hk : k < (fl 0 t).length) (hl : Tx 1 20 l') : ∃ m l d, (fl 0 t)[k]? = some (m, l, d) ∧ Fits (.say m l') t ∧ Wl N (aft (.say m l') t) ∧ (fl 0 t).take k ++ ((m, l', d) :: (fl 0 t).drop (k + 1)) = fl 0 (aft (.say m l') t) := by
  obtain ⟨zs, st⟩ := w
  obtain ⟨π, q, h1, rfl⟩ := at_pos 0 t k hk
  obtain ⟨f, s⟩ := st_say st (sub_mem h1) hl
  refine ⟨_, _, _, row_at h1, f, ⟨_, s⟩, ?_⟩
  rw [say_fl l' h1, aft_node (p := .say (mrk q) l') (.inr ⟨_, _, rfl⟩) st.nd h1 rfl]
  rw [show lbP (.say (mrk q) l') (mrk q) (lbl q) = l' from if_pos rfl]
  rfl
theorem spot_kid {k n i e : Nat} {ks : List Tr} (hi : i ≤ ks.length) (he : e = k + 1 + (pres ks).length) : ((kpos (k + 1) ks)[i]?).getD e = k + 1 + (pres (ks.take i)).length := by
  by_cases c : i < ks.length
  · rw [kpos_get ks _ i c]
    rfl
  · rw [List.getElem?_eq_none (by rw [kpos_len]; omega), List.take_of_length_le (by omega)]
    exact he
theorem ed_put {N : List Str} {t s : Tr} {zs : List Str} {k e i n : Nat} (st : St N t zs) (hN : N.length ≤ 60) (hk : k < (fl 0 t).length) (he : IsEnd (fl 0 t) k e) (hi : i ≤ (bnF (fl 0 t) k e).length) (hs : (pre s).map mrk = zs.take n) (hx : ∀ p ∈ pre s, Tx 1 59 (mrk p) ∧ Tx 1 20 (lbl p)) :
    ∃ m l d, (fl 0 t)[k]? = some (m, l, d) ∧ Fits (.put m i s) t ∧ St N (aft (.put m i s) t) (zs.drop n) ∧
      (fl 0 t).take (((bnF (fl 0 t) k e)[i]?).getD e) ++ ((fl 0 s).map (fun x => (x.1, x.2.1, x.2.2 + d + 1)) ++ (fl 0 t).drop (((bnF (fl 0 t) k e)[i]?).getD e)) = fl 0 (aft (.put m i s) t) := by
  obtain ⟨π, q, h1, rfl⟩ := at_pos 0 t k hk
  have ee := end_at rfl h1 he
  have eb := bn_at rfl h1 ee
  rw [eb, kpos_len] at hi
  obtain ⟨f, s'⟩ := st_put st hN (sub_mem h1) hi hs hx
  refine ⟨_, _, _, row_at h1, f, s', ?_⟩
  have pq : (pre q).length = (pres (kids q)).length + 1 := by rw [pre_eq, List.length_cons]
  rw [eb, spot_kid (n := 0) hi (by omega)]
  have lo := fl_low 0 (π.length + 1) s
  rw [Nat.zero_add] at lo
  have e3 : (fl 0 s).map (fun x => (x.1, x.2.1, x.2.2 + π.length + 1)) = fl (π.length + 1) s := lo
  rw [e3, ins_fl s h1 hi, aft_node (p := .put (mrk q) i s) (.inl ⟨_, _, _, rfl⟩) st.nd h1 rfl]
  rw [show ksP (.put (mrk q) i s) (mrk q) (kids q) = insT (kids q) i s from if_pos rfl]
  rfl
theorem ed_move {N : List Str} {t : Tr} {k e a e2 i : Nat} (w : Wl N t) (hk : k < (fl 0 t).length) (h0 : 0 < k) (he : IsEnd (fl 0 t) k e) (ho : IsOver (fl 0 t) k a)
    (he2 : IsEnd ((fl 0 t).take k ++ (fl 0 t).drop e) a e2) (hi : i ≤ (bnF ((fl 0 t).take k ++ (fl 0 t).drop e) a e2).length) :
    ∃ m l d, (fl 0 t)[k]? = some (m, l, d) ∧ Fits (.move m i) t ∧ Wl N (aft (.move m i) t) ∧
      ((fl 0 t).take k ++ (fl 0 t).drop e).take (((bnF ((fl 0 t).take k ++ (fl 0 t).drop e) a e2)[i]?).getD e2) ++ (((fl 0 t).take e).drop k ++ ((fl 0 t).take k ++ (fl 0 t).drop e).drop (((bnF ((fl 0 t).take k ++ (fl 0 t).drop e) a e2)[i]?).getD e2)) = fl 0 (aft (.move m i) t) := by
  obtain ⟨zs, st⟩ := w
  obtain ⟨π, j, q, c, h1, h2, h3, rfl⟩ := pos_kid hk h0
  have ee := end_at rfl h3 he
  have ea := over_at rfl h1 h2 ho
  subst ee ea
  have er := drop_fl h1 h2
  rw [er] at he2 hi ⊢
  have hq' := sub_set (.node (mrk q) (lbl q) ((kids q).eraseIdx j)) h1
  generalize ht1 : setAt t π (.node (mrk q) (lbl q) ((kids q).eraseIdx j)) = t1 at *
  have jl := (List.getElem?_eq_some_iff.mp h2).1
  have el : (lft 0 t1 π).length = (lft 0 t π).length := by
    rw [← ht1, lft_set _ h1]
  rw [← el] at he2 hi ⊢
  have ee2 := end_at rfl hq' he2
  have eb := bn_at rfl hq' ee2
  rw [eb, kpos_len] at hi
  have hi2 : i < (kids q).length := by
    have : (kids (.node (mrk q) (lbl q) ((kids q).eraseIdx j))).length = (kids q).length - 1 := List.length_eraseIdx_of_lt jl
    omega
  obtain ⟨f, s'⟩ := st_move st (sub_mem h1) h2 hi2
  refine ⟨_, _, _, row_at h3, f, ⟨_, s'⟩, ?_⟩
  have pq : (pre (.node (mrk q) (lbl q) ((kids q).eraseIdx j))).length = (pres (kids (.node (mrk q) (lbl q) ((kids q).eraseIdx j)))).length + 1 := by rw [pre_eq, List.length_cons]
  have blk : ((fl 0 t).take ((lft 0 t (π ++ [j])).length + (pre c).length)).drop (lft 0 t (π ++ [j])).length = fl (π.length + 1) c := by
    have lc := fl_len (0 + (π ++ [j]).length) c
    rw [fl_split 0 h3, ← List.append_assoc, List.take_left' (by rw [List.length_append, lc]), List.drop_left, List.length_append, Nat.zero_add]
    rfl
  rw [eb, spot_kid (n := 0) hi (by omega), blk, ins_fl c hq' hi, aft_child (p := .move (mrk c) i) (.inr ⟨_, _, rfl⟩) st.nd h1 h2 rfl, ← ht1, set_set _ _ h1]
  rfl

end
end K19
set_option Elab.async false
set_option linter.all false
set_option maxRecDepth 100000
set_option maxHeartbeats 4000000
namespace K19
open PySem PySem.Spec PyProof.Rows L2 XL
section
variable {P : Program} {w : World} {K : PySem.W.Frag} {mg : Str → Option Value} {base : Heap}
/-! ### rows of edits -/
theorem chn_snoc {p : Pt} : ∀ {ps : List Pt} {t : Tr}, Chn ps t → Fits p (runs ps t) → Gt (aft p (runs ps t)) → Chn (ps ++ [p]) t
  | [], t, h, f, g => ⟨h, f, g⟩
  | x :: r, t, h, f, g => ⟨h.1, h.2.1, chn_snoc h.2.2 f g⟩
theorem runs_snoc (ps : List Pt) (p : Pt) (t : Tr) : runs (ps ++ [p]) t = aft p (runs ps t) := runs_app ps [p] t
theorem chn_cat : ∀ {ps qs : List Pt} {t : Tr}, Chn ps t → Chn qs (runs ps t) → Chn (ps ++ qs) t
  | [], _, _, _, h2 => h2
  | p :: r, qs, t, h, h2 => ⟨h.1, h.2.1, chn_cat (ps := r) (qs := qs) h.2.2 h2⟩
/-- a row that fits, and what it leads to -/
structure Rw (N : List Str) (ps : List Pt) (t u : Tr) : Prop where
  ch : Chn ps t
  ru : runs ps t = u
  wl : Wl N u
theorem Rw.nil {N : List Str} {t : Tr} (w : Wl N t) (hN : N.length ≤ 60) : Rw N [] t t := ⟨w.gt hN, rfl, w⟩
theorem Rw.snoc {N : List Str} {ps : List Pt} {p : Pt} {t u : Tr} (h : Rw N ps t u) (hN : N.length ≤ 60) (f : Fits p u) (w : Wl N (aft p u)) : Rw N (ps ++ [p]) t (aft p u) := by
  obtain ⟨h1, h2, h3⟩ := h
  subst h2
  exact ⟨chn_snoc h1 f (w.gt hN), runs_snoc _ _ _, w⟩
theorem Rw.cat {N : List Str} {ps qs : List Pt} {t u v : Tr} (h : Rw N ps t u) (h2 : Rw N qs u v) : Rw N (ps ++ qs) t v := by
  obtain ⟨a1, a2, a3⟩ := h
  obtain ⟨b1, b2, b3⟩ := h2
  subst a2
  exact ⟨chn_cat a1 b1, by rw [runs_app, b2], b3⟩
theorem first_perm {zs : List Str} {m : Str} (h : m ∈ zs) : ∃ r, (m :: r).Perm zs := ⟨_, (List.perm_cons_erase h).symm⟩
theorem ed_renew {N : List Str} {t : Tr} {k e a : Nat} {m' : Str} (w : Wl N t) (hN : N.length ≤ 60) (hk : k < (fl 0 t).length) (h0 : 0 < k) (he : IsEnd (fl 0 t) k e) (ho : IsOver (fl 0 t) k a) (hm : ∀ l d m, (fl 0 t)[k]? = some (m, l, d) → m' = m ∨ (m' ∈ N ∧ m' ∉ (pre t).map mrk)) :
    ∃ (m l ma la : Str) (d da j : Nat) (u : Tr), (fl 0 t)[k]? = some (m, l, d) ∧ (fl 0 t)[a]? = some (ma, la, da) ∧ (∀ e2, IsEnd (fl 0 t) a e2 → (bnF (fl 0 t) a e2)[j]? = some k ∧ ∀ i, i < j → (bnF (fl 0 t) a e2)[i]? ≠ some k) ∧
      Rw N [.drop m, .put ma j (.node m' l [])] t u ∧ (fl 0 t).take k ++ ((m', l, d) :: (fl 0 t).drop e) = fl 0 u := by
  obtain ⟨zs, st⟩ := w
  obtain ⟨π, j, q, c, h1, h2, h3, rfl⟩ := pos_kid hk h0
  have ee := end_at rfl h3 he
  have ea := over_at rfl h1 h2 ho
  subst ee ea
  have rc := row_at h3
  have jl := (List.getElem?_eq_some_iff.mp h2).1
  obtain ⟨f1, s1⟩ := st_drop st (sub_mem h1) h2
  have e1 := aft_child (p := .drop (mrk c)) (.inl ⟨_, rfl⟩) st.nd h1 h2 rfl
  have e1 : aft (.drop (mrk c)) t = setAt t π (.node (mrk q) (lbl q) ((kids q).eraseIdx j)) := e1
  have hq' := sub_set (.node (mrk q) (lbl q) ((kids q).eraseIdx j)) h1
  have hin : m' ∈ zs ++ (pre c).map mrk := by
    rcases hm _ _ _ rc with h | ⟨h, h'⟩
    · rw [h]
      exact List.mem_append_right _ (List.mem_map_of_mem (self_pre c))
    · exact List.mem_append_left _ (Wl.spare st h h')
  obtain ⟨zr, pz⟩ := first_perm hin
  have s2 := s1.perm pz
  rw [e1] at s2
  have tm : Tx 1 59 m' := s2.po.tx m' List.mem_cons_self
  have tl := (st.tx c (pre_trans t (sub_mem h1) (by rw [pre_eq]; exact List.mem_cons_of_mem _ (mem_pres.mpr ⟨c, List.mem_of_getElem? h2, self_pre c⟩)))).2
  have jk : j ≤ (kids (.node (mrk q) (lbl q) ((kids q).eraseIdx j))).length := by
    have : (kids (.node (mrk q) (lbl q) ((kids q).eraseIdx j))).length = (kids q).length - 1 := List.length_eraseIdx_of_lt jl
    omega
  obtain ⟨f2, s3⟩ := st_put (s := .node m' (lbl c) []) (n := 1) s2 hN (sub_mem hq') jk (by simp [pre, pres, mrk]) (fun p hp => by
    simp only [pre, pres, List.mem_singleton] at hp
    subst hp
    exact ⟨tm, tl⟩)
  have e2 := aft_node (p := .put (mrk q) j (.node m' (lbl c) [])) (.inl ⟨_, _, _, rfl⟩) s2.nd hq' rfl
  rw [set_set _ _ h1] at e2
  have e3 : insT ((kids q).eraseIdx j) j (.node m' (lbl c) []) = (kids q).set j (.node m' (lbl c) []) := erase_ins h2 _
  have e2' : aft (.put (mrk q) j (.node m' (lbl c) [])) (setAt t π (.node (mrk q) (lbl q) ((kids q).eraseIdx j))) = setAt t (π ++ [j]) (.node m' (lbl c) []) := by
    rw [e2, set_step h1 h2, ← e3]
    show setAt t π (.node (mrk q) _ (if mrk q = mrk q then _ else _)) = _
    rw [if_pos rfl]
    rfl
  refine ⟨_, _, _, _, _, _, j, _, rc, row_at h1, fun e4 he4 => ?_, ⟨⟨st.gt hN, f1, ?_, ?_, ?_⟩, rfl, ?_⟩, ?_⟩
  · have e5 := end_at rfl h1 he4
    rw [bn_at rfl h1 e5]
    have kk : ∀ i, i < (kids q).length → (kpos ((lft 0 t π).length + 1) (kids q))[i]? = some ((lft 0 t π).length + 1 + (pres ((kids q).take i)).length) := fun i hi => kpos_get _ _ _ hi
    have ll := congrArg List.length (lft_snoc (d := 0) h1 h2)
    rw [List.length_append, List.length_cons, fls_len] at ll
    refine ⟨by rw [kk j jl, ll]; congr 1; omega, fun i hi => ?_⟩
    rw [kk i (by omega)]
    intro z
    have z := Option.some.inj z
    have e6 : (kids q).take j = (kids q).take i ++ ((kids q).take j).drop i := by
      conv => lhs; rw [← List.take_append_drop i ((kids q).take j)]
      rw [List.take_take, Nat.min_eq_left (by omega)]
    have e7 := congrArg (fun l => (pres l).length) e6
    simp only [pres_app, List.length_append] at e7
    have e8 := many_le (((kids q).take j).drop i)
    rw [List.length_drop, List.length_take] at e8
    omega
  · rw [e1]
    exact s2.gt hN
  · rw [e1]
    exact f2
  · rw [e1]
    exact s3.gt hN
  · show Wl N (aft _ (aft _ t))
    rw [e1]
    exact ⟨_, s3⟩
  · show _ = fl 0 (aft _ (aft _ t))
    rw [e1, e2', fl_setAt 0 _ h3]
    have lc := fl_len (0 + (π ++ [j]).length) c
    rw [fl_split 0 h3, List.take_left, ← List.append_assoc, List.drop_left' (by rw [List.length_append, lc]), fl]
    simp only [fls, Nat.zero_add, List.cons_append, List.nil_append]
/-! ### all anew -/
def dropsK (ks : List Tr) : List Pt := ks.map fun c => .drop (mrk c)
theorem rw_drops {N : List Str} (hN : N.length ≤ 60) {m l : Str} : ∀ (ks : List Tr), Wl N (.node m l ks) → Rw N (dropsK ks) (.node m l ks) (.node m l [])
  | [], w => .nil w hN
  | c :: r, ⟨zs, st⟩ => by
    have h1 : sub (.node m l (c :: r)) [] = some (.node m l (c :: r)) := rfl
    obtain ⟨f, s⟩ := st_drop st (self_pre _) (show (kids (.node m l (c :: r)))[0]? = some c from rfl)
    have e : aft (.drop (mrk c)) (.node m l (c :: r)) = .node m l r := aft_child (p := .drop (mrk c)) (.inl ⟨_, rfl⟩) st.nd h1 (show (kids (.node m l (c :: r)))[0]? = some c from rfl) rfl
    rw [e] at s
    have ih := rw_drops hN r ⟨_, s⟩
    refine Rw.cat (ps := [.drop (mrk c)]) (u := .node m l r) ?_ ih
    exact ⟨⟨st.gt hN, f, by rw [e]; exact s.gt hN⟩, e, ⟨_, s⟩⟩
def putsK (m : Str) (i : Nat) : List Tr → List Pt
  | [] => []
  | c :: r => .put m i c :: putsK m (i + 1) r
theorem rw_puts {N : List Str} (hN : N.length ≤ 60) {m l : Str} : ∀ (cs dn : List Tr) (zs : List Str), St N (.node m l dn) zs → ((pres cs).map mrk).Nodup → (∀ p ∈ pres cs, mrk p ∈ zs ∧ Tx 1 20 (lbl p)) → Rw N (putsK m dn.length cs) (.node m l dn) (.node m l (dn ++ cs))
  | [], dn, zs, st, _, _ => by
    rw [List.append_nil]
    exact .nil ⟨_, st⟩ hN
  | c :: r, dn, zs, st, nd, hm => by
    simp only [pres, List.map_append] at nd
    obtain ⟨nd1, nd2, nd3⟩ := List.nodup_append.mp nd
    have sub1 : ∀ x ∈ (pre c).map mrk, x ∈ zs := fun x hx => by
      obtain ⟨p, hp, rfl⟩ := List.mem_map.mp hx
      exact (hm p (by simp only [pres]; exact List.mem_append_left _ hp)).1
    have ndz : zs.Nodup := (List.nodup_append.mp st.po.nd).2.1
    have pz : ((pre c).map mrk ++ zs.filter (fun z => decide (z ∉ (pre c).map mrk))).Perm zs := by
      rw [List.perm_ext_iff_of_nodup (List.nodup_append.mpr ⟨nd1, ndz.filter _, fun a ha b hb e => by
        subst e
        exact (of_decide_eq_true (List.mem_filter.mp hb).2) ha⟩) ndz]
      intro x
      rw [List.mem_append, List.mem_filter]
      refine ⟨fun h => h.elim (sub1 x) (·.1), fun h => ?_⟩
      by_cases c1 : x ∈ (pre c).map mrk
      · exact .inl c1
      · exact .inr ⟨h, decide_eq_true c1⟩
    have s1 := st.perm pz
    have h1 : sub (.node m l dn) [] = some (.node m l dn) := rfl
    obtain ⟨f, s⟩ := st_put (q := .node m l dn) (s := c) (i := dn.length) (n := ((pre c).map mrk).length) s1 hN (self_pre _) (Nat.le_refl _) (by rw [List.take_left]) (fun p hp => ⟨st.po.tx _ (sub1 _ (List.mem_map_of_mem hp)), (hm p (by simp only [pres]; exact List.mem_append_left _ hp)).2⟩)
    have e : aft (.put m dn.length c) (.node m l dn) = .node m l (dn ++ [c]) := by
      rw [aft_node (p := .put m dn.length c) (.inl ⟨_, _, _, rfl⟩) st.nd h1 rfl]
      show Tr.node m l (if m = m then insT dn dn.length c else dn) = _
      rw [if_pos rfl]
      unfold insT
      rw [List.take_length, List.drop_length]
    have e : aft (.put (mrk (.node m l dn)) dn.length c) (.node m l dn) = .node m l (dn ++ [c]) := e
    rw [e, List.drop_left] at s
    have ih := rw_puts hN r (dn ++ [c]) _ s nd2 (fun p hp => ⟨?_, (hm p (by simp only [pres]; exact List.mem_append_right _ hp)).2⟩)
    · rw [List.length_append, List.length_singleton, List.append_assoc] at ih
      refine Rw.cat (ps := [.put m dn.length c]) (u := .node m l (dn ++ [c])) ?_ ih
      exact ⟨⟨st.gt hN, f, by
        show Gt (aft (.put (mrk (.node m l dn)) dn.length c) (.node m l dn))
        rw [e]
        exact s.gt hN⟩, e, ⟨_, s⟩⟩
    · refine List.mem_filter.mpr ⟨(hm p (by simp only [pres]; exact List.mem_append_right _ hp)).1, decide_eq_true fun h => ?_⟩
      exact nd3 _ h _ (List.mem_map_of_mem hp) rfl
theorem rw_anew {N : List Str} {t u : Tr} (hN : N.length ≤ 60) (w : Wl N t) (w2 : Wl N u) (hm : mrk t = mrk u) : Rw N (dropsK (kids t) ++ ([.say (mrk t) (lbl u)] ++ putsK (mrk t) 0 (kids u))) t u := by
  obtain ⟨m, l, ks⟩ := t
  obtain ⟨m', l', cs⟩ := u
  obtain rfl : m = m' := hm
  have r1 := rw_drops hN ks w
  obtain ⟨zs, st⟩ := r1.wl
  obtain ⟨zu, su⟩ := w2
  have tl := (su.tx _ (self_pre _)).2
  obtain ⟨f, s⟩ := st_say (q := .node m l []) st (self_pre _) (show Tx 1 20 l' from tl)
  have h1 : sub (.node m l []) [] = some (.node m l []) := rfl
  have e : aft (.say (mrk (.node m l [])) l') (.node m l []) = .node m l' [] := by
    show aft (.say m l') (.node m l []) = _
    rw [aft_node (p := .say m l') (.inr ⟨_, _, rfl⟩) st.nd h1 rfl]
    show Tr.node m (if m = m then l' else l) [] = _
    rw [if_pos rfl]
  rw [e] at s
  have r2 : Rw N [.say m l'] (.node m l []) (.node m l' []) := ⟨⟨st.gt hN, f, by
    show Gt (aft (.say (mrk (.node m l [])) l') (.node m l []))
    rw [e]
    exact s.gt hN⟩, e, ⟨_, s⟩⟩
  have nu := su.nd
  rw [pre_eq, List.map_cons, List.nodup_cons] at nu
  have r3 := rw_puts hN cs [] zs s nu.2 (fun p hp => ⟨?_, ?_⟩)
  · rw [List.nil_append] at r3
    exact r1.cat (r2.cat r3)
  · have pm : p ∈ pre (.node m l' cs) := by rw [pre_eq]; exact List.mem_cons_of_mem _ hp
    refine Wl.spare s (su.po.mm _ (List.mem_append_left _ (List.mem_map_of_mem pm))) fun h => ?_
    simp only [pre, pres, List.map_cons, List.map_nil, List.mem_singleton, mrk] at h
    refine nu.1 ?_
    show m ∈ _
    rw [← h]
    exact List.mem_map_of_mem hp
  · exact (su.tx p (by rw [pre_eq]; exact List.mem_cons_of_mem _ hp)).2
/-! ### a flat list is that of a tree -/
theorem lv_adj : ∀ {p : Nat} {r : List Fr3}, Lv p r → ∀ i x y, r[i]? = some x → r[i + 1]? = some y → y.2.2 ≤ x.2.2 + 1 := fun h i x y e1 e2 => lv_next h e1 e2
theorem mem_tw {α : Type} (p : α → Bool) : ∀ (l : List α) (x : α), x ∈ l.takeWhile p → p x = true
  | [], x, h => by simp at h
  | a :: r, x, h => by
    rw [List.takeWhile_cons] at h
    by_cases c : p a = true
    · rw [if_pos c] at h
      rcases List.mem_cons.mp h with rfl | h
      · exact c
      · exact mem_tw p r x h
    · rw [if_neg c] at h
      cases h
theorem ex_stack : ∀ (r : List Fr3), (∀ i x y, r[i]? = some x → r[i + 1]? = some y → y.2.2 ≤ x.2.2 + 1) → ∃ rd : List (Nat × Tr), told rd = r ∧ (rd.map (·.1)).Pairwise (· ≥ ·)
  | [], _ => ⟨[], rfl, .nil⟩
  | x :: r, h => by
    obtain ⟨rd, h1, h2⟩ := ex_stack r fun i a b e1 e2 => h (i + 1) a b (by rw [List.getElem?_cons_succ]; exact e1) (by rw [List.getElem?_cons_succ]; exact e2)
    have esp : rd = rd.takeWhile (fun p => decide (x.2.2 < p.1)) ++ rd.dropWhile (fun p => decide (x.2.2 < p.1)) := List.takeWhile_append_dropWhile.symm
    generalize hpp : rd.takeWhile (fun p => decide (x.2.2 < p.1)) = pp at esp
    generalize hrr : rd.dropWhile (fun p => decide (x.2.2 < p.1)) = rr at esp
    have gt : ∀ p ∈ pp, x.2.2 < p.1 := fun p hp => by
      rw [← hpp] at hp
      exact of_decide_eq_true (mem_tw (fun p : Nat × Tr => decide (x.2.2 < p.1)) rd p hp)
    have hle : ∀ p ∈ rr, p.1 ≤ x.2.2 := by
      cases rr with
      | nil => intro p hp; cases hp
      | cons p0 rt =>
        have h0 : ¬ x.2.2 < p0.1 := fun z => by
          have := List.head?_dropWhile_not (fun p : Nat × Tr => decide (x.2.2 < p.1)) rd
          rw [hrr] at this
          simp at this
          omega
        rw [esp, List.map_append, List.pairwise_append] at h2
        have h3 := h2.2.1
        rw [List.map_cons, List.pairwise_cons] at h3
        intro p hp
        rcases List.mem_cons.mp hp with rfl | hp
        · omega
        · have := h3.1 p.1 (List.mem_map_of_mem hp)
          omega
    have all : ∀ p ∈ pp, p.1 = x.2.2 + 1 := fun p hp => by
      have g := gt p hp
      cases pp with
      | nil => cases hp
      | cons p0 pr =>
        obtain ⟨d0, t0⟩ := p0
        have e0 : d0 ≤ x.2.2 + 1 := by
          have ed := h1
          rw [esp, List.cons_append, told_head] at ed
          have hy : r[0]? = some (mrk t0, lbl t0, d0) := by rw [← ed]; rfl
          exact h 0 x (mrk t0, lbl t0, d0) rfl (by rw [List.getElem?_cons_succ]; exact hy)
        rw [esp, List.cons_append, List.map_cons, List.pairwise_cons] at h2
        rcases List.mem_cons.mp hp with rfl | hp
        · have g : x.2.2 < d0 := g
          show d0 = _
          omega
        · have := h2.1 p.1 (List.mem_map_of_mem (List.mem_append_left _ hp))
          omega
    have ets : pp = (pp.map (·.2)).map (fun t => (x.2.2 + 1, t)) := by
      rw [List.map_map]
      have : pp.map ((fun t => (x.2.2 + 1, t)) ∘ fun p => p.2) = pp.map id := List.map_congr_left fun p hp => by
        show (x.2.2 + 1, p.2) = p
        rw [← all p hp]
      rw [this, List.map_id]
    refine ⟨(x.2.2, .node x.1 x.2.1 (pp.map (·.2))) :: rr, ?_, ?_⟩
    · rw [told_head, ← h1]
      conv => rhs; rw [esp, ets]
      rw [told_same]
      rfl
    · rw [List.map_cons, List.pairwise_cons]
      refine ⟨fun n hn => ?_, ?_⟩
      · obtain ⟨p, hp, rfl⟩ := List.mem_map.mp hn
        exact hle p hp
      · rw [esp, List.map_append, List.pairwise_append] at h2
        exact h2.2.1
theorem flok_ex {fs : List Fr3} (h : FlOk fs) : ∃ t, fl 0 t = fs := by
  obtain ⟨x, r, rfl, hx, hl⟩ := id h
  obtain ⟨rd, h1, h2⟩ := ex_stack (x :: r) fun i a b e1 e2 => fl_next h e1 e2
  cases rd with
  | nil => simp [told] at h1
  | cons p rd =>
    obtain ⟨d, t⟩ := p
    rw [told_head] at h1
    injection h1 with h3 h4
    have hd : d = 0 := by rw [← h3] at hx; exact hx
    have er : rd = [] := by
      cases rd with
      | nil => rfl
      | cons p2 rd =>
        obtain ⟨d2, t2⟩ := p2
        have hm : (mrk t2, lbl t2, d2) ∈ r := by rw [← h4, told_head]; simp
        have h5 := lv_pos hl _ hm
        rw [List.map_cons, List.pairwise_cons] at h2
        have h6 := h2.1 d2 (by simp)
        have h5' : 1 ≤ d2 := h5
        omega
    subst er hd
    refine ⟨t, ?_⟩
    rw [fl_eq, h3, ← h4]
    simp [told]
theorem fl_flok (t : Tr) : FlOk (fl 0 t) := by
  have lv : ∀ n (ts : List Tr) (d p : Nat), (pres ts).length ≤ n → d ≤ p + 1 → 1 ≤ d → ∀ rest, (∀ q, d - 1 ≤ q → Lv q rest) → Lv p (fls d ts ++ rest) := by
    intro n
    induction n with
    | zero =>
      intro ts d p hn h1 h2 rest hr
      have : ts = [] := by
        cases ts with
        | nil => rfl
        | cons s r => have := many_le (s :: r); simp at this; omega
      subst this
      simp only [fls, List.nil_append]
      exact hr p (by omega)
    | succ n ih =>
      intro ts d p hn h1 h2 rest hr
      cases ts with
      | nil =>
        simp only [fls, List.nil_append]
        exact hr p (by omega)
      | cons s r =>
        have e1 : (pres (s :: r)).length = (pres (kids s)).length + 1 + (pres r).length := by
          simp only [pres, List.length_append]
          rw [pre_eq, List.length_cons]
        rw [fls_cons, fl_eq, List.cons_append, List.cons_append, List.append_assoc]
        refine ⟨h2, h1, ?_⟩
        show Lv d (fls (d + 1) (kids s) ++ (fls d r ++ rest))
        refine ih (kids s) (d + 1) d (by omega) (Nat.le_refl _) (by omega) _ fun q hq => ?_
        exact ih r d q (by omega) (by omega) h2 rest hr
  refine ⟨_, _, fl_eq 0 t, rfl, ?_⟩
  have := lv _ (kids t) 1 0 (Nat.le_refl _) (Nat.le_refl _) (Nat.le_refl _) [] (fun q _ => trivial)
  rw [List.append_nil] at this
  exact this
/-- a fresh page -/
theorem wl_fresh {N zs : List Str} {t : Tr} {fs : List Fr3} (ef : fl 0 t = fs) (em : fs.map (·.1) = zs) (nd : zs.Nodup) (sub : ∀ z ∈ zs, z ∈ N) (ndN : N.Nodup) (tx : ∀ z ∈ N, Tx 1 59 z) (tl : ∀ f ∈ fs, Tx 1 20 f.2.1) : Wl N t := by
  have e := fl_pre 0 t
  rw [ef] at e
  have e1 : (pre t).map mrk = zs := by
    have z := congrArg (List.map (·.1)) e
    rw [List.map_map, List.map_map] at z
    rw [← em]
    exact z.symm
  have pz : ((pre t).map mrk ++ N.filter (fun z => decide (z ∉ (pre t).map mrk))).Perm N := by
    rw [e1, List.perm_ext_iff_of_nodup (List.nodup_append.mpr ⟨nd, ndN.filter _, fun a ha b hb e => by
      subst e
      exact (of_decide_eq_true (List.mem_filter.mp hb).2) ha⟩) ndN]
    intro x
    rw [List.mem_append, List.mem_filter]
    refine ⟨fun h => h.elim (sub x) (·.1), fun h => ?_⟩
    by_cases c1 : x ∈ zs
    · exact .inl c1
    · exact .inr ⟨h, decide_eq_true c1⟩
  refine ⟨_, ⟨⟨pz.nodup_iff.mpr ndN, ?_, fun z hz => tx z (List.mem_filter.mp hz).1, fun z hz => pz.mem_iff.mp hz⟩, fun p hp => ⟨tx _ (sub _ ?_), ?_⟩⟩⟩
  · have := pz.length_eq
    rw [List.length_append, List.length_map] at this
    exact this
  · rw [← e1]
    exact List.mem_map_of_mem hp
  · have hm : (mrk p, lbl p) ∈ fs.map (fun x => (x.1, x.2.1)) := by rw [e]; exact List.mem_map_of_mem hp
    obtain ⟨f, hf1, ef⟩ := List.mem_map.mp hm
    have := tl f hf1
    rw [(Prod.mk.inj ef).2] at this
    exact this

end
end K19
set_option Elab.async false
set_option linter.all false
set_option maxRecDepth 100000
set_option maxHeartbeats 4000000
namespace K19
open PySem PySem.Spec PyProof.Rows L2 XL
section
variable {P : Program} {w : World} {K : PySem.W.Frag} {mg : Str → Option Value} {base : Heap}
theorem lv_snoc : ∀ {p : Nat} {r : List Fr3} {y : Fr3}, Lv p r → 1 ≤ y.2.2 → y.2.2 ≤ ((r.getLast?.map (·.2.2)).getD p) + 1 → Lv p (r ++ [y])
  | p, [], y, _, h1, h2 => ⟨h1, h2, trivial⟩
  | p, x :: r, y, h, h1, h2 => by
    refine ⟨h.1, h.2.1, lv_snoc h.2.2 h1 ?_⟩
    cases r with
    | nil => simpa using h2
    | cons z r =>
      cases hw : (z :: r).getLast? with
      | none => simp at hw
      | some w0 =>
        rw [List.getLast?_cons_cons, hw] at h2
        simpa using h2
theorem flok_snoc {fs : List Fr3} {x y : Fr3} (h : FlOk (fs ++ [x])) (h1 : 1 ≤ y.2.2) (h2 : y.2.2 ≤ x.2.2 + 1) : FlOk (fs ++ [x] ++ [y]) := by
  obtain ⟨a, r, e, h0, hl⟩ := h
  refine ⟨a, r ++ [y], by rw [e]; rfl, h0, lv_snoc hl h1 ?_⟩
  have e2 := congrArg List.getLast? e
  rw [List.getLast?_append] at e2
  simp at e2
  cases r with
  | nil =>
    simp at e2
    rw [e2] at h2
    simp
    omega
  | cons z r =>
    rw [List.getLast?_cons_cons] at e2
    rw [← e2]
    simpa using h2
def spFlat : Sp := fun vs H Q _ => ∃ (G : Hp) (M : List (Addr × HO)) (b : Addr) (o : HO) (l : Addr) (zs : List Str) (dp : Nat), vs = [.ref b, .ref l, .int (dp : Nat)] ∧ Sep G ((b, o) :: M) H ∧ Bag G o ∧ G l = some (.lst (zs.map V.str)) ∧ 0 < zs.length ∧ zs.length ≤ 400 ∧ 1 ≤ dp ∧ dp ≤ 100 ∧
  ∀ (D : Addr) (us : List V) (fs : List Fr3) (o' : HO) (G' H' : Hp), Same G G' → G' D = some (.lst us) → Paired (FlAt G') us fs → FlOk fs → fs.map (·.1) = zs → (∀ f ∈ fs, Tx 1 20 f.2.1 ∧ f.2.2 ≤ dp) → Bag G' o' → Sep G' ((b, o') :: M) H' → Q (.ref D) H'
theorem cut_from1 (xs : List V) : cutV xs (some 1) none = xs.drop 1 := by
  unfold cutV
  have e : HT.sIx xs.length 0 (some 1) = min 1 xs.length := HT.sIx_nat xs.length 0 1
  rw [e, HT.sIx_none]
  cases xs with
  | nil => simp
  | cons a r =>
    simp
theorem ok_flat (T : Top K mg w) {k : Nat} (G_pick : FnOk P w K mg base CX0 k T.a_pick T.d_pick ["_law_bag_here", "_law_many"] spPick) (G_label : FnOk P w K mg base CX0 (k + 2) T.a_label T.d_label ["_law_bag_here"] spLabel) : FnOk P w K mg base CX0 (k + 3) T.a_flat T.d_flat ["_law_bag_here", "_law_marks_here", "_law_deepest"] spFlat := by
  refine T.F_flat.ok sc_flat (fun vs H Q E h => ?_) (fun cdv A outer s H vs Q E hr h => ?_)
  · obtain ⟨G, M, b, o, l, zs, dp, rfl, _⟩ := h
    rfl
  · obtain ⟨G, M, b, o, l, zs, dp, rfl, S, B, hl, z0, z4, d1, d100, q⟩ := h
    refine ⟨_, (pss_cons (ps_set (i := 3) sc_flat.nd rfl (.inl rfl) (pe_lst (pa_cons (pe_tup (pa_cons (pe_ix (ix_k K) (xv 1) pe_int (fun _ _ => rfl)) (pa_cons (pe_call G_label (hr.mono (by omega)) (by rfl) T.g_label T.F_label.kp T.b_label .nil pass0 (pa_cons (xv 0) pa_nil)) (pa_cons pe_int pa_nil)))) pa_nil)))
      (pss_cons (ps_for PassesOwn.never rfl (pi_listK K (pe_slice (sl_listK K) (xv 1) (po_some pe_int) po_none)) (pg_name (i := 4) sc_flat.nd rfl (.inl rfl))
      (pss_cons (ps_set (i := 5) sc_flat.nd rfl (.inl rfl) (pe_op op_addY (pe_ix (ix_k K) (pe_ix (ix_k K) (xv 3) (pe_un un_neg pe_int) (fun _ _ => rfl)) pe_int (fun _ _ => rfl)) pe_int))
      (xss_cut (xs_if (xt_cmp op_gtY (xv 5) (xv 2) (nomark _))
      (pss_one (ps_set (i := 5) sc_flat.nd rfl (.inl rfl) (xv 2)))
      pss_nil)
      (pss_one (ps_expr (pe_bmK K PySem.F.plainAttrs_list PySem.F.slot_list_append PySem.F.type_list_append mt_append (xv 3) (pa_cons (pe_tup (pa_cons (xv 4) (pa_cons (pe_call G_label (hr.mono (by omega)) (by rfl) T.g_label T.F_label.kp T.b_label .nil pass0 (pa_cons (xv 0) pa_nil)) (pa_cons (pe_op op_addY pe_int (pe_call G_pick (hr.mono (by omega)) (by rfl) T.g_pick T.F_pick.kp T.b_pick .nil pass0 (pa_cons (xv 0) (pa_cons (xv 5) pa_nil)))) pa_nil)))) pa_nil)))))))
      (pss_one (ps_ret (xv 3))))), ?_⟩
    obtain ⟨z, zr, rfl⟩ : ∃ z zr, zs = z :: zr := List.exists_cons_of_ne_nil (fun e => by rw [e] at z0; exact absurd z0 (by decide))
    refine ⟨_, _, .inl (SqL.of (S.st hl)), atI_nat (j := 0) rfl, G, _, b, o, rfl, S, B, fun z1 o1 G1 H1 t1 s1 B1 S1 => ⟨sz, fun p2 np2 => ?_⟩⟩
    obtain ⟨G2, s2, S2, h2⟩ := Sep.mk (o := .tup [.str z, .str z1, .int 0]) S1 np2
    refine ⟨sz, fun L nL => ?_⟩
    have S3 := (S2.new (o := .lst [.ref p2]) nL).sw
    have s02 := s1.trans s2
    refine ⟨1, rfl, l, _, rfl, SqL.of (S3.st (s02 _ _ hl)), fun p4 np4 => ?_⟩
    rw [cut_from1]
    obtain ⟨G4, s4, S4, h4⟩ := Sep.mk (o := .lst (((z :: zr).map V.str).drop 1)) S3 np4
    have h4 : G4 p4 = some (.lst (zr.map V.str)) := h4
    have s04 := s02.trans s4
    refine ⟨p4, rfl, ⟨_, SqL.of (S4.st h4)⟩, for_list (xs := zr.map V.str) (fun i σ H' => ∃ (y4 y5 : Option V) (o' : HO) (us : List V) (fs : List Fr3) (f : Fr3) (u : V) (G' : Hp), σ = [some (.ref b), some (.ref l), some (.int (dp : Nat)), some (.ref L), y4, y5] ∧ Same G4 G' ∧ Bag G' o' ∧
      Paired (FlAt G') (us ++ [u]) (fs ++ [f]) ∧ FlOk (fs ++ [f]) ∧ (fs ++ [f]).map (·.1) = z :: zr.take i ∧ (∀ x ∈ fs ++ [f], Tx 1 20 x.2.1 ∧ x.2.2 ≤ dp) ∧ us.length = i ∧ Sep G' ((b, o') :: (L, .lst (us ++ [u])) :: M) H')
      ⟨_, _, o1, [], [], (z, z1, 0), .ref p2, G4, rfl, Same.refl _, (B1.same s2).same s4, .cons ⟨p2, rfl, s4 _ _ h2⟩ .nil, ⟨_, [], rfl, rfl, trivial⟩, rfl, fun x hx => ?_, rfl, S4⟩ (fun i σ H' _ h => ?_) (fun i u σ H' hu h => ?_) (fun σ H' h => ?_)⟩
    · have : x = (z, z1, 0) := by simpa using hx
      rw [this]
      exact ⟨t1, Nat.zero_le _⟩
    · obtain ⟨_, _, _, _, _, _, _, G', _, s', _, _, _, _, _, _, S'⟩ := h
      exact SqL.of (S'.st (s' _ _ h4))
    · obtain ⟨y4, y5, o5, us, fs, f, uf, G5, rfl, s5, B5, hus, fok, hmk, hfx, ul, S5⟩ := h
      rw [List.getElem?_map] at hu
      obtain ⟨zm, hzm, rfl⟩ := Option.map_eq_some_iff.mp hu
      have il := (List.getElem?_eq_some_iff.mp hzm).1
      obtain ⟨fs', f', ef, hus', hf⟩ := prd_unsnoc hus
      obtain ⟨rfl, ef2⟩ := List.append_inj' ef rfl
      obtain rfl : f = f' := by simpa using ef2
      obtain ⟨af, rfl, haf⟩ := hf
      have fd := (hfx f (by simp)).2
      refine ⟨1, rfl, _, _, .inl (SqL.of S5.sw.hd), atI_last _ _, _, _, .inr (SqT.of (S5.st haf)), atI_nat (j := 2) rfl, ?_⟩
      refine ⟨fun σ H' => ∃ m : Nat, σ = [some (.ref b), some (.ref l), some (.int (dp : Nat)), some (.ref L), some (.str zm), some (.int (m : Nat))] ∧ H' = _ ∧ 1 ≤ m ∧ m ≤ dp ∧ m ≤ f.2.2 + 1, ⟨fun e => ⟨dp, rfl, rfl, d1, Nat.le_refl _, ?_⟩, fun e => ⟨f.2.2 + 1, rfl, rfl, by omega, ?_, Nat.le_refl _⟩⟩, fun σ H6 h => ?_⟩
      · have := of_decide_eq_true e
        omega
      · have := of_decide_eq_false e
        omega
      obtain ⟨m, rfl, rfl, m1, mdp, mf⟩ := h
      refine ⟨.inl ⟨rfl, _, SqL.of S5.sw.hd⟩, G5, _, b, o5, rfl, S5, B5, fun z7 o7 G7 H7 t7 s7 B7 S7 => ?_⟩
      refine ⟨G7, _, b, o7, _, rfl, S7, B7, by omega, by omega, fun r8 o8 H8 r80 r81 B8 S8 => ⟨sz, fun p9 np9 => ?_⟩⟩
      obtain ⟨j, rfl⟩ := Int.eq_ofNat_of_zero_le r80
      have ej : (1 : Int) + (j : Int) = ((1 + j : Nat) : Int) := by omega
      rw [ej]
      obtain ⟨G9, s9, S9, h9⟩ := Sep.mk (o := .tup [.str zm, .str z7, .int ((1 + j : Nat) : Int)]) S8 np9
      have s59 := s7.trans s9
      refine ⟨L, _, _, rfl, rfl, S9.sw.hd, smallL (by rw [List.length_append, ul]; show i + 1 < _; rw [List.length_cons] at z4; omega), ?_⟩
      refine ⟨_, _, o8, us ++ [.ref af], fs ++ [f], (zm, z7, 1 + j), .ref p9, G9, rfl, s5.trans s59, B8.same s9, prd_app (prd_imp (fun _ _ => FlAt.same s59) hus) (.cons ⟨p9, rfl, h9⟩ .nil), flok_snoc fok (by show 1 ≤ 1 + j; omega) (by show 1 + j ≤ _; omega), ?_, fun x hx => ?_, by rw [List.length_append, ul]; rfl, S9.sw.set.sw⟩
      · rw [List.map_append, hmk, take_snoc hzm]
        rfl
      · rcases List.mem_append.mp hx with k | k
        · exact hfx x k
        · rw [List.mem_singleton.mp k]
          exact ⟨t7, by show 1 + j ≤ dp; omega⟩
    · obtain ⟨y4, y5, o5, us, fs, f, uf, G5, rfl, s5, B5, hus, fok, hmk, hfx, ul, S5⟩ := h
      rw [List.length_map, List.take_length] at hmk
      have S6 := S5.sw
      exact q L _ _ o5 _ _ (s04.trans (s5.trans S6.frzS)) upd_same (prd_imp (fun _ _ => FlAt.same S6.frzS) hus) fok hmk hfx (B5.same S6.frzS) S6.frz

end
end K19
set_option Elab.async false
set_option linter.all false
set_option maxRecDepth 100000
set_option maxHeartbeats 4000000
namespace K19
open PySem PySem.Spec PyProof.Rows L2 XL
section
variable {P : Program} {w : World} {K : PySem.W.Frag} {mg : Str → Option Value} {base : Heap}
/-! ### drawn pages and rows -/
structure PoolOk (N : List Str) : Prop where
  nd : N.Nodup
  ln : N.length ≤ 60
  l2 : 2 ≤ N.length
  tx : ∀ z ∈ N, Tx 1 59 z
/-- a pool in the heap -/
def PlAt (G : Hp) (l : Addr) (N : List Str) : Prop := G l = some (.lst (N.map V.str)) ∧ PoolOk N
theorem PlAt.same {G G' : Hp} (e : Same G G') {l : Addr} {N : List Str} (h : PlAt G l N) : PlAt G' l N := ⟨e _ _ h.1, h.2⟩
theorem prd_take {α β : Type} {F : α → β → Prop} : ∀ {xs : List α} {ys : List β}, Paired F xs ys → ∀ n, Paired F (xs.take n) (ys.take n)
  | _, _, _, 0 => .nil
  | _, _, .nil, n + 1 => .nil
  | _, _, .cons h t, n + 1 => .cons h (prd_take t n)
theorem prd_drop {α β : Type} {F : α → β → Prop} : ∀ {xs : List α} {ys : List β}, Paired F xs ys → ∀ n, Paired F (xs.drop n) (ys.drop n)
  | _, _, h, 0 => h
  | _, _, .nil, n + 1 => .nil
  | _, _, .cons h t, n + 1 => prd_drop t n
theorem bn_len (fs : List Fr3) (k e : Nat) : (bnF fs k e).length ≤ e - (k + 1) := by
  have := List.length_filter_le (fun j => decide (dep fs j = dep fs k + 1)) (List.range' (k + 1) (e - (k + 1)))
  rw [List.length_range'] at this
  exact this
theorem spot_le (fs : List Fr3) (k e i : Nat) (he : IsEnd fs k e) : ((bnF fs k e)[i]?).getD e ≤ fs.length := by
  have h1 := he.le
  cases h : (bnF fs k e)[i]? with
  | none => exact h1
  | some j =>
    have := (List.mem_filter.mp (List.mem_of_getElem? h)).1
    rw [List.mem_range'_1] at this
    show j ≤ _
    have := he.lt
    omega
theorem cutV_mid (xs : List V) (a b : Nat) (h1 : a ≤ b) (h2 : b ≤ xs.length) : cutV xs (some (a : Int)) (some (b : Int)) = (xs.take b).drop a := by
  unfold cutV
  rw [HT.sIx_nat, HT.sIx_nat, Nat.min_eq_left h2, Nat.min_eq_left (by omega), List.drop_take]
def unS : V → Str
  | .str z => z
  | _ => ""
theorem perm_strs {ys : List V} {l : List Str} (h : ys.Perm (l.map V.str)) : ∃ ws : List Str, ys = ws.map V.str ∧ ws.Perm l := by
  refine ⟨ys.map unS, ?_, ?_⟩
  · rw [List.map_map]
    have : ys.map (V.str ∘ unS) = ys.map id := List.map_congr_left fun v hv => by
      obtain ⟨z, _, rfl⟩ := List.mem_map.mp (h.mem_iff.mp hv)
      rfl
    rw [this, List.map_id]
  · have := h.map unS
    rw [List.map_map] at this
    have e : l.map (unS ∘ V.str) = l := by
      have : l.map (unS ∘ V.str) = l.map id := List.map_congr_left fun _ _ => rfl
      rw [this, List.map_id]
    rw [e] at this
    exact this
def spFresh (K : PySem.W.Frag) : Sp := fun vs H Q _ => ∃ (G : Hp) (M : List (Addr × HO)) (b : Addr) (o : HO) (l : Addr) (N : List Str), vs = [.ref b, .ref l] ∧ Sep G ((b, o) :: M) H ∧ Bag G o ∧ PlAt G l N ∧
  ∀ (D : Addr) (t : Tr) (o' : HO) (G' H' : Hp), Same G G' → FlD G' D (fl 0 t) → Wl N t → some (mrk t) = N[0]? → Bag G' o' → Sep G' ((b, o') :: M) H' → Q (.ref D) H'
theorem ok_fresh (T : Top K mg w) {k : Nat} (G_pick : FnOk P w K mg base CX0 k T.a_pick T.d_pick ["_law_bag_here", "_law_many"] spPick) (G_mingled : FnOk P w K mg base CX0 k T.a_mingled T.d_mingled ["_law_bag_here", "_law_things"] (spMingled K)) (G_flat : FnOk P w K mg base CX0 k T.a_flat T.d_flat ["_law_bag_here", "_law_marks_here", "_law_deepest"] spFlat) :
    FnOk P w K mg base CX0 (k + 1) T.a_fresh T.d_fresh ["_law_bag_here", "_law_pool"] (spFresh K) := by
  refine T.F_fresh.ok sc_fresh (fun vs H Q E h => ?_) (fun cdv A outer s H vs Q E hr h => ?_)
  · obtain ⟨G, M, b, o, l, N, rfl, _⟩ := h
    rfl
  · obtain ⟨G, M, b, o, l, N, rfl, S, B, hl, q⟩ := h
    refine ⟨_, (pss_one (ps_ret (pe_call G_flat (hr.mono (by omega)) (by rfl) T.g_flat T.F_flat.kp T.b_flat .nil pass0 (pa_cons (xv 0) (pa_cons (pe_op op_cat (pe_slice (sl_listK K) (xv 1) po_none (po_some pe_int)) (pe_slice (sl_listK K) (pe_call G_mingled (hr.mono (by omega)) (by rfl) T.g_mingled T.F_mingled.kp T.b_mingled .nil pass0 (pa_cons (xv 0) (pa_cons (pe_slice (sl_listK K) (xv 1) (po_some pe_int) po_none) pa_nil))) po_none (po_some (pe_call G_pick (hr.mono (by omega)) (by rfl) T.g_pick T.F_pick.kp T.b_pick .nil pass0 (pa_cons (xv 0) (pa_cons (pe_op op_addY pe_int (pe_op op_divY (pe_callB (cr_lenK K) (by rfl) T.m_len (by decide +kernel) (pa_cons (xv 1) pa_nil)) pe_int)) pa_nil)))))) (pa_cons pe_int pa_nil)))))), ?_⟩
    have hlH := hl.1
    have n2 := hl.2.l2
    have n60 := hl.2.ln
    obtain ⟨z0, z1, zr, eN⟩ : ∃ z0 z1 zr, N = z0 :: z1 :: zr := by
      match N, n2 with
      | z0 :: z1 :: zr, _ => exact ⟨z0, z1, zr, rfl⟩
    have nl : (N.map V.str).length = N.length := List.length_map _
    refine ⟨_, rfl, l, _, rfl, SqL.of (S.st hlH), fun t1 m1 => ?_⟩
    obtain ⟨G1, s1, S1, k1⟩ := Sep.mk (o := .lst (cutV (N.map V.str) none (some 1))) S m1
    refine ⟨_, rfl, l, _, rfl, SqL.of (S1.st (s1 _ _ hlH)), fun t2 m2 => ?_⟩
    obtain ⟨G2, s2, S2, k2⟩ := Sep.mk (o := .lst (cutV (N.map V.str) (some 1) none)) S1 m2
    have s12 := s1.trans s2
    have c1 : cutV (N.map V.str) none (some 1) = [V.str z0] := by
      have := cutV_to (N.map V.str) 1 (by omega)
      rw [show ((1 : Nat) : Int) = 1 from rfl] at this
      rw [this, eN]
      rfl
    have c2 : cutV (N.map V.str) (some 1) none = (z1 :: zr).map V.str := by
      rw [cut_from1, eN]
      rfl
    rw [c1] at k1
    rw [c2] at k2
    have el : N.length = (z1 :: zr).length + 1 := by rw [eN]; rfl
    refine ⟨G2, M, b, o, t2, (z1 :: zr).map V.str, rfl, S2, B.same s12, SqL.of k2, by rw [List.length_map]; omega, fun p ys o3 G3 H3 s3 hp pm B3 S3 => ?_⟩
    obtain ⟨ws, rfl, pw⟩ := perm_strs pm
    have wl := pw.length_eq
    have s13 := s12.trans s3
    refine ⟨_, .inl (SqL.of (S3.st (s13 _ _ hlH))), ⟨by decide, by decide⟩, fun r4 e4 _ => ?_⟩
    have e4 : r4 = ((N.map V.str).length : Int) / 2 := e4
    refine ⟨G3, M, b, o3, 1 + r4, rfl, S3, B3, by omega, by omega, fun r5 o5 H5 r50 r51 B5 S5 => ?_⟩
    refine ⟨r5, rfl, p, _, rfl, SqL.of (S5.st hp), fun t6 m6 => ?_⟩
    obtain ⟨n5, rfl⟩ := Int.eq_ofNat_of_zero_le r50
    have c3 : cutV (ws.map V.str) none (some ((n5 : Nat) : Int)) = (ws.take n5).map V.str := by
      rw [cutV_to _ _ (by rw [List.length_map]; omega), List.map_take]
    rw [c3]
    obtain ⟨G6, s6, S6, k6⟩ := Sep.mk (o := .lst ((ws.take n5).map V.str)) S5 m6
    have s26 := s2.trans (s3.trans s6)
    refine ⟨t1, t6, _, _, rfl, rfl, S6.st (s26 _ _ k1), S6.st k6, by rw [List.length_map, List.length_take, sizeLine_eq]; simp only [List.length_singleton]; omega, fun t7 m7 => ?_⟩
    obtain ⟨G7, s7, S7, k7⟩ := Sep.mk (o := .lst ([V.str z0] ++ (ws.take n5).map V.str)) S6 m7
    have ndN := hl.2.nd
    rw [eN, List.nodup_cons] at ndN
    have sb : ∀ z ∈ ws.take n5, z ∈ z1 :: zr := fun z hz => pw.mem_iff.mp (List.mem_of_mem_take hz)
    have ndz : (z0 :: ws.take n5).Nodup := List.nodup_cons.mpr ⟨fun h => ndN.1 (sb _ h), (List.take_sublist _ _).nodup (pw.nodup_iff.mpr ndN.2)⟩
    have sbN : ∀ z ∈ z0 :: ws.take n5, z ∈ N := fun z hz => by
      rw [eN]
      rcases List.mem_cons.mp hz with rfl | h
      · exact List.mem_cons_self
      · exact List.mem_cons_of_mem _ (sb z h)
    refine ⟨G7, M, b, o5, t7, z0 :: ws.take n5, 5, rfl, S7, B5.same (s6.trans s7), k7, by simp, by rw [List.length_cons, List.length_take]; omega, by decide, by decide, fun D us fs o8 G8 H8 s8 hD hus ok em htx B8 S8 => ?_⟩
    obtain ⟨t, ht⟩ := flok_ex ok
    have w := wl_fresh ht em ndz sbN hl.2.nd hl.2.tx fun f hf => (htx f hf).1
    refine q D t o8 G8 H8 (s13.trans (s6.trans (s7.trans s8))) ⟨us, hD, by rw [ht]; exact hus⟩ w ?_ B8 S8
    rw [← ht, fl_eq, List.map_cons] at em
    rw [eN]
    exact congrArg some (List.cons.inj em).1
def spMoved (K : PySem.W.Frag) : Sp := fun vs H Q _ => ∃ (G : Hp) (M : List (Addr × HO)) (b : Addr) (o : HO) (D : Addr) (t : Tr) (k : Nat) (N : List Str), vs = [.ref b, .ref D, .int (k : Nat)] ∧ Sep G ((b, o) :: M) H ∧ Bag G o ∧ FlD G D (fl 0 t) ∧ Wl N t ∧ PoolOk N ∧ 0 < k ∧ k < (fl 0 t).length ∧
  ∀ (r x D' : Addr) (p : Pt) (o' : HO) (G' H' : Hp), Same G G' → G' r = some (.tup [.ref x, .ref D']) → Dp K G' (.ref x) (ptD p) → Fits p t → Wl N (aft p t) → FlD G' D' (fl 0 (aft p t)) → Bag G' o' → Sep G' ((b, o') :: M) H' → Q (.ref r) H'
theorem ok_moved (T : Top K mg w) {k : Nat} (G_pick : FnOk P w K mg base CX0 k T.a_pick T.d_pick ["_law_bag_here", "_law_many"] spPick) (G_over : FnOk P w K mg base CX0 k T.a_over T.d_over ["_law_flat_here", "_law_k"] spOver) (G_end : FnOk P w K mg base CX0 k T.a_end T.d_end ["_law_flat_here", "_law_k"] spEnd) (G_beneath : FnOk P w K mg base CX0 k T.a_beneath T.d_beneath ["_law_flat_here", "_law_k"] spBn) (G_spot : FnOk P w K mg base CX0 k T.a_spot T.d_spot ["_law_flat_here", "_law_k", "_law_at"] spSpot) :
    FnOk P w K mg base CX0 (k + 1) T.a_moved T.d_moved ["_law_bag_here", "_law_flat_here", "_law_k"] (spMoved K) := by
  refine T.F_moved.ok sc_moved (fun vs H Q E h => ?_) (fun cdv A outer s H vs Q E hr h => ?_)
  · obtain ⟨G, M, b, o, D, t, n, N, rfl, _⟩ := h
    rfl
  · obtain ⟨G, M, b, o, D, t, n, N, rfl, S, B, hD, wl, hN, h0, hk, q⟩ := h
    refine ⟨_, (pss_cons (ps_set (i := 3) sc_moved.nd rfl (.inl rfl) (pe_call G_over (hr.mono (by omega)) (by rfl) T.g_over T.F_over.kp T.b_over .nil pass0 (pa_cons (xv 1) (pa_cons (xv 2) pa_nil))))
      (pss_cons (ps_set (i := 4) sc_moved.nd rfl (.inl rfl) (pe_call G_end (hr.mono (by omega)) (by rfl) T.g_end T.F_end.kp T.b_end .nil pass0 (pa_cons (xv 1) (pa_cons (xv 2) pa_nil))))
      (pss_cons (ps_set (i := 5) sc_moved.nd rfl (.inl rfl) (pe_op op_cat (pe_slice (sl_listK K) (xv 1) po_none (po_some (xv 2))) (pe_slice (sl_listK K) (xv 1) (po_some (xv 4)) po_none)))
      (pss_cons (ps_set (i := 6) sc_moved.nd rfl (.inl rfl) (pe_call G_pick (hr.mono (by omega)) (by rfl) T.g_pick T.F_pick.kp T.b_pick .nil pass0 (pa_cons (xv 0) (pa_cons (pe_op op_addY pe_int (pe_callB (cr_lenK K) (by rfl) T.m_len (by decide +kernel) (pa_cons (pe_call G_beneath (hr.mono (by omega)) (by rfl) T.g_beneath T.F_beneath.kp T.b_beneath .nil pass0 (pa_cons (xv 5) (pa_cons (xv 3) pa_nil))) pa_nil))) pa_nil))))
      (pss_cons (ps_set (i := 7) sc_moved.nd rfl (.inl rfl) (pe_call G_spot (hr.mono (by omega)) (by rfl) T.g_spot T.F_spot.kp T.b_spot .nil pass0 (pa_cons (xv 5) (pa_cons (xv 3) (pa_cons (xv 6) pa_nil)))))
      (pss_one (ps_ret (pe_tup (pa_cons (pe_tup (pa_cons pe_str (pa_cons (pe_ix (ix_k K) (pe_ix (ix_k K) (xv 1) (xv 2) (fun _ _ => rfl)) pe_int (fun _ _ => rfl)) (pa_cons (xv 6) pa_nil)))) (pa_cons (pe_op op_cat (pe_op op_cat (pe_slice (sl_listK K) (xv 5) po_none (po_some (xv 7))) (pe_slice (sl_listK K) (xv 1) (po_some (xv 2)) (po_some (xv 4)))) (pe_slice (sl_listK K) (xv 5) (po_some (xv 7)) po_none)) pa_nil)))))))))), ?_⟩
    have fl60 := wl.len
    have n60 := hN.ln
    obtain ⟨us, hDl, hus⟩ := id hD
    have ul := prd_len hus
    refine ⟨G, D, fl 0 t, n, rfl, S.1, hD, by omega, hk, fun a ho ak => ?_⟩
    refine ⟨G, D, fl 0 t, n, rfl, S.1, hD, by omega, hk, fun e he => ?_⟩
    have elt := he.lt
    have ele := he.le
    refine ⟨_, rfl, D, us, rfl, SqL.of (S.st hDl), fun t1 m1 => ?_⟩
    rw [cutV_to us n (by omega)]
    obtain ⟨G1, s1, S1, k1⟩ := Sep.mk (o := .lst (us.take n)) S m1
    refine ⟨_, rfl, D, us, rfl, SqL.of (S1.st (s1 _ _ hDl)), fun t2 m2 => ?_⟩
    rw [cutV_from us e (by omega)]
    obtain ⟨G2, s2, S2, k2⟩ := Sep.mk (o := .lst (us.drop e)) S1 m2
    refine ⟨t1, t2, _, _, rfl, rfl, S2.st (s2 _ _ k1), S2.st k2, by rw [List.length_take, List.length_drop, sizeLine_eq]; omega, fun R mR => ?_⟩
    obtain ⟨G3, s3, S3, k3⟩ := Sep.mk (o := .lst (us.take n ++ us.drop e)) S2 mR
    have s13 := s1.trans (s2.trans s3)
    have hR : FlD G3 R ((fl 0 t).take n ++ (fl 0 t).drop e) := ⟨_, k3, prd_imp (fun _ _ => FlAt.same s13) (prd_app (prd_take hus n) (prd_drop hus e))⟩
    have rl : ((fl 0 t).take n ++ (fl 0 t).drop e).length ≤ (fl 0 t).length := by rw [List.length_append, List.length_take, List.length_drop]; omega
    have ra : a < ((fl 0 t).take n ++ (fl 0 t).drop e).length := by
      obtain ⟨π, j, q, c, h1, h2, h3, h4⟩ := pos_kid hk h0
      have ea := over_at rfl h1 h2 (by rw [h4]; exact ho)
      have lk := congrArg List.length (lft_snoc (d := 0) h1 h2)
      rw [List.length_append, List.length_cons] at lk
      rw [List.length_append, List.length_take]
      omega
    refine ⟨G3, _, R, _, a, rfl, S3, hR, by omega, ra, fun e2 Lb G4 H4 he2 s4 hLb S4 => ?_⟩
    have hLb4 := SqL.of (K := K) (S4.st hLb)
    have hR4 := hR.same s4
    have hD4 := hD.same (s13.trans s4)
    have bl := bn_len ((fl 0 t).take n ++ (fl 0 t).drop e) a e2
    have e2l := he2.le
    refine ⟨_, .inl hLb4, G4, M, b, o, _, rfl, S4, B.same (s13.trans s4), by omega, by rw [List.length_map]; omega, fun r5 o5 H5 r50 r51 B5 S5 => ?_⟩
    obtain ⟨i, rfl⟩ := Int.eq_ofNat_of_zero_le r50
    rw [List.length_map] at r51
    have hi : i ≤ (bnF ((fl 0 t).take n ++ (fl 0 t).drop e) a e2).length := by omega
    refine ⟨G4, _, R, _, a, i, rfl, S5, hR4, by omega, ra, fun e3 G6 H6 he3 s6 S6 => ?_⟩
    obtain rfl := end_uniq he2 he3
    obtain ⟨m, l, d, hrow, fit, wl', hfl⟩ := ed_move wl hk h0 he ho he2 hi
    have spl := spot_le ((fl 0 t).take n ++ (fl 0 t).drop e) a e2 i he2
    generalize hsp : ((bnF ((fl 0 t).take n ++ (fl 0 t).drop e) a e2)[i]?).getD e2 = sp at *
    obtain ⟨us6, hDl6, hus6⟩ := hD4.same s6
    obtain ⟨rs6, hRl6, hrs6⟩ := hR4.same s6
    have ul6 := prd_len hus6
    have rl6 := prd_len hrs6
    obtain ⟨ak, mk, lk, huk, hak, hrow2⟩ := fld_at (K := K) hus6 hk
    rw [hrow] at hrow2
    obtain ⟨rfl, rfl, ed⟩ : m = mk ∧ l = lk ∧ d = dep (fl 0 t) n := by
      have := Option.some.inj hrow2
      exact ⟨(Prod.mk.inj this).1, (Prod.mk.inj (Prod.mk.inj this).2).1, (Prod.mk.inj (Prod.mk.inj this).2).2⟩
    refine ⟨_, _, .inl (SqL.of (S6.st hDl6)), atI_nat huk, _, _, .inr (SqT.of (S6.st hak)), atI_nat (j := 0) rfl, sz, fun x mx => ?_⟩
    obtain ⟨G7, s7, S7, k7⟩ := Sep.mk (o := .tup [.str "move", .str m, .int (i : Nat)]) S6 mx
    refine ⟨_, rfl, R, rs6, rfl, SqL.of (S7.st (s7 _ _ hRl6)), fun u1 mu1 => ?_⟩
    rw [cutV_to rs6 sp (by omega)]
    obtain ⟨G8, s8, S8, k8⟩ := Sep.mk (o := .lst (rs6.take sp)) S7 mu1
    refine ⟨_, rfl, _, rfl, D, us6, rfl, SqL.of (S8.st ((s7.trans s8) _ _ hDl6)), fun u2 mu2 => ?_⟩
    rw [cutV_mid us6 n e (by omega) (by omega)]
    obtain ⟨G9, s9, S9, k9⟩ := Sep.mk (o := .lst ((us6.take e).drop n)) S8 mu2
    refine ⟨u1, u2, _, _, rfl, rfl, S9.st (s9 _ _ k8), S9.st k9, by rw [List.length_take, List.length_drop, List.length_take, sizeLine_eq]; omega, fun u3 mu3 => ?_⟩
    obtain ⟨G10, s10, S10, k10⟩ := Sep.mk (o := .lst (rs6.take sp ++ (us6.take e).drop n)) S9 mu3
    have s70 := s7.trans (s8.trans (s9.trans s10))
    refine ⟨_, rfl, R, rs6, rfl, SqL.of (S10.st (s70 _ _ hRl6)), fun u4 mu4 => ?_⟩
    rw [cutV_from rs6 sp (by omega)]
    obtain ⟨G11, s11, S11, k11⟩ := Sep.mk (o := .lst (rs6.drop sp)) S10 mu4
    refine ⟨u3, u4, _, _, rfl, rfl, S11.st (s11 _ _ k10), S11.st k11, by rw [List.length_append, List.length_take, List.length_drop, List.length_take, List.length_drop, sizeLine_eq]; omega, fun D' mD => ?_⟩
    obtain ⟨G12, s12, S12, k12⟩ := Sep.mk (o := .lst ((rs6.take sp ++ (us6.take e).drop n) ++ rs6.drop sp)) S11 mD
    refine ⟨sz, fun r mr => ?_⟩
    obtain ⟨G13, s13b, S13, k13⟩ := Sep.mk (o := .tup [.ref x, .ref D']) S12 mr
    have s713 := s8.trans (s9.trans (s10.trans (s11.trans (s12.trans s13b))))
    have s613 := s7.trans s713
    have sAll := s13.trans (s4.trans (s6.trans s613))
    have B13 := B5.same (s6.trans s613)
    refine q r x D' (.move m i) o5 G13 _ sAll k13 ?_ fit wl' ⟨_, s13b _ _ k12, ?_⟩ B13 S13
    · exact .tup (SqT.of (s713 _ _ k7)) (.cons (.str _) (.cons (.str _) (.cons (.int _) .nil)))
    · rw [← hfl, ← List.append_assoc]
      exact prd_imp (fun _ _ => FlAt.same s613) (prd_app (prd_app (prd_take hrs6 sp) (prd_drop (prd_take hus6 e) n)) (prd_drop hrs6 sp))

end
end K19
set_option Elab.async false
set_option linter.all false
set_option maxRecDepth 100000
set_option maxHeartbeats 4000000
namespace K19
open PySem PySem.Spec PyProof.Rows L2 XL
section
variable {P : Program} {w : World} {K : PySem.W.Frag} {mg : Str → Option Value} {base : Heap}
/-! ### grafted -/
theorem cutV_any (xs : List V) (k : Nat) : cutV xs none (some (k : Int)) = xs.take k := by
  unfold cutV
  rw [HT.sIx_none, HT.sIx_nat, List.drop_zero, Nat.sub_zero]
  exact (List.take_eq_take_min ..).symm
theorem st_front {N : List Str} {t : Tr} {zs l : List Str} (st : St N t zs) (nd : l.Nodup) (h : ∀ x ∈ l, x ∈ zs) : ∃ r, St N t (l ++ r) := by
  have ndz : zs.Nodup := (List.nodup_append.mp st.po.nd).2.1
  refine ⟨zs.filter (fun z => decide (z ∉ l)), st.perm ?_⟩
  rw [List.perm_ext_iff_of_nodup (List.nodup_append.mpr ⟨nd, ndz.filter _, fun a ha b hb e => by
    subst e
    exact (of_decide_eq_true (List.mem_filter.mp hb).2) ha⟩) ndz]
  intro x
  rw [List.mem_append, List.mem_filter]
  refine ⟨fun h2 => h2.elim (h x) (·.1), fun h2 => ?_⟩
  by_cases c1 : x ∈ l
  · exact .inl c1
  · exact .inr ⟨h2, decide_eq_true c1⟩
theorem fl_marks {t : Tr} {fs : List Fr3} {zs : List Str} (ef : fl 0 t = fs) (em : fs.map (·.1) = zs) : (pre t).map mrk = zs := by
  have e := fl_pre 0 t
  rw [ef] at e
  have z := congrArg (List.map (·.1)) e
  rw [List.map_map, List.map_map] at z
  rw [← em]
  exact z.symm
theorem fl_labels {t : Tr} {fs : List Fr3} (ef : fl 0 t = fs) (h : ∀ f ∈ fs, Tx 1 20 f.2.1) : ∀ p ∈ pre t, Tx 1 20 (lbl p) := fun p hp => by
  have e := fl_pre 0 t
  rw [ef] at e
  have hm : (mrk p, lbl p) ∈ fs.map (fun x => (x.1, x.2.1)) := by rw [e]; exact List.mem_map_of_mem hp
  obtain ⟨f, hf1, ef⟩ := List.mem_map.mp hm
  have := h f hf1
  rw [(Prod.mk.inj ef).2] at this
  exact this
/-- marks that are spare -/
structure SpareOk (N : List Str) (t : Tr) (zs : List Str) : Prop where
  nd : zs.Nodup
  mm : ∀ z ∈ zs, z ∈ N ∧ z ∉ (pre t).map mrk
  ne : 0 < zs.length
def spGraft (K : PySem.W.Frag) : Sp := fun vs H Q _ => ∃ (G : Hp) (M : List (Addr × HO)) (b : Addr) (o : HO) (D : Addr) (t : Tr) (k : Nat) (N : List Str) (sl : Addr) (zs : List Str), vs = [.ref b, .ref D, .int (k : Nat), .ref sl] ∧ Sep G ((b, o) :: M) H ∧ Bag G o ∧ FlD G D (fl 0 t) ∧ Wl N t ∧ PoolOk N ∧ k < (fl 0 t).length ∧ G sl = some (.lst (zs.map V.str)) ∧ SpareOk N t zs ∧
  ∀ (r x D' : Addr) (p : Pt) (o' : HO) (G' H' : Hp), Same G G' → G' r = some (.tup [.ref x, .ref D']) → Dp K G' (.ref x) (ptD p) → Fits p t → Wl N (aft p t) → FlD G' D' (fl 0 (aft p t)) → Bag G' o' → Sep G' ((b, o') :: M) H' → Q (.ref r) H'
theorem ok_grafted (T : Top K mg w) {k : Nat} (G_pick : FnOk P w K mg base CX0 k T.a_pick T.d_pick ["_law_bag_here", "_law_many"] spPick) (G_beneath : FnOk P w K mg base CX0 k T.a_beneath T.d_beneath ["_law_flat_here", "_law_k"] spBn) (G_spot : FnOk P w K mg base CX0 k T.a_spot T.d_spot ["_law_flat_here", "_law_k", "_law_at"] spSpot) (G_flat : FnOk P w K mg base CX0 k T.a_flat T.d_flat ["_law_bag_here", "_law_marks_here", "_law_deepest"] spFlat) (G_grown : FnOk P w K mg base CX0 k T.a_grown T.d_grown ["_law_flat_here"] (spGrown K)) :
    FnOk P w K mg base CX0 (k + 1) T.a_grafted T.d_grafted ["_law_bag_here", "_law_flat_here", "_law_k", "_law_spare"] (spGraft K) := by
  refine T.F_grafted.ok sc_grafted (fun vs H Q E h => ?_) (fun cdv A outer s H vs Q E hr h => ?_)
  · obtain ⟨G, M, b, o, D, t, n, N, sl, zs, rfl, _⟩ := h
    rfl
  · obtain ⟨G, M, b, o, D, t, n, N, sl, zs, rfl, S, B, hD, wl, hN, hk, hsl, hz, q⟩ := h
    refine ⟨_, (pss_cons (ps_set (i := 4) sc_grafted.nd rfl (.inl rfl) (pe_call G_pick (hr.mono (by omega)) (by rfl) T.g_pick T.F_pick.kp T.b_pick .nil pass0 (pa_cons (xv 0) (pa_cons (pe_op op_addY pe_int (pe_callB (cr_lenK K) (by rfl) T.m_len (by decide +kernel) (pa_cons (pe_call G_beneath (hr.mono (by omega)) (by rfl) T.g_beneath T.F_beneath.kp T.b_beneath .nil pass0 (pa_cons (xv 1) (pa_cons (xv 2) pa_nil))) pa_nil))) pa_nil))))
      (pss_cons (ps_set (i := 5) sc_grafted.nd rfl (.inl rfl) (pe_call G_spot (hr.mono (by omega)) (by rfl) T.g_spot T.F_spot.kp T.b_spot .nil pass0 (pa_cons (xv 1) (pa_cons (xv 2) (pa_cons (xv 4) pa_nil)))))
      (pss_cons (ps_set (i := 6) sc_grafted.nd rfl (.inl rfl) (pe_call G_pick (hr.mono (by omega)) (by rfl) T.g_pick T.F_pick.kp T.b_pick .nil pass0 (pa_cons (xv 0) (pa_cons (pe_callB (cr_lenK K) (by rfl) T.m_len (by decide +kernel) (pa_cons (xv 3) pa_nil)) pa_nil))))
      (pss_cons (ps_set (i := 7) sc_grafted.nd rfl (.inl rfl) (pe_call G_flat (hr.mono (by omega)) (by rfl) T.g_flat T.F_flat.kp T.b_flat .nil pass0 (pa_cons (xv 0) (pa_cons (pe_slice (sl_listK K) (pe_op op_cat (pe_slice (sl_listK K) (xv 3) (po_some (xv 6)) po_none) (pe_slice (sl_listK K) (xv 3) po_none (po_some (xv 6)))) po_none (po_some (pe_op op_addY pe_int (pe_call G_pick (hr.mono (by omega)) (by rfl) T.g_pick T.F_pick.kp T.b_pick .nil pass0 (pa_cons (xv 0) (pa_cons pe_int pa_nil)))))) (pa_cons pe_int pa_nil)))))
      (pss_cons (ps_setLc (i := 8) (own := [("_law_mark", 9), ("_law_label_here", 10), ("_law_depth", 11)]) (by rfl) sc_grafted.nd rfl rfl (sw_true rfl rfl rfl (by decide +kernel)) (pi_listK K (xv 7)) (blkOk_by (N := ["_law_bag_here", "_law_flat_here", "_law_k", "_law_spare", "_law_at", "_law_spot_here", "_law_first", "_law_block", "_law_lower", "_law_mark", "_law_label_here", "_law_depth"]) (sc := defScope s_grafted) (by decide +kernel)) (fun _ _ _ _ _ => (pg_tupK K 3 (pgs_cons (pg_name (i := 9) sc_grafted.nd rfl (.inl rfl)) (pgs_cons (pg_name (i := 10) sc_grafted.nd rfl (.inl rfl)) (pgs_cons (pg_name (i := 11) sc_grafted.nd rfl (.inl rfl)) pgs_nil))))) (fun _ _ _ _ _ => pts_nil) (fun _ _ _ _ _ => (pe_tup (pa_cons (xv 9) (pa_cons (xv 10) (pa_cons (pe_op op_addY (pe_op op_addY (xv 11) (pe_ix (ix_k K) (pe_ix (ix_k K) (xv 1) (xv 2) (fun _ _ => rfl)) pe_int (fun _ _ => rfl))) pe_int) pa_nil))))))
      (pss_one (ps_ret (pe_tup (pa_cons (pe_tup (pa_cons pe_str (pa_cons (pe_ix (ix_k K) (pe_ix (ix_k K) (xv 1) (xv 2) (fun _ _ => rfl)) pe_int (fun _ _ => rfl)) (pa_cons (xv 4) (pa_cons (pe_call G_grown (hr.mono (by omega)) (by rfl) T.g_grown T.F_grown.kp T.b_grown .nil pass0 (pa_cons (xv 7) pa_nil)) pa_nil))))) (pa_cons (pe_op op_cat (pe_op op_cat (pe_slice (sl_listK K) (xv 1) po_none (po_some (xv 5))) (xv 8)) (pe_slice (sl_listK K) (xv 1) (po_some (xv 5)) po_none)) pa_nil)))))))))), ?_⟩
    have fl60 := wl.len
    have n60 := hN.ln
    obtain ⟨us, hDl, hus⟩ := id hD
    have ul := prd_len hus
    have zl := nd_sub hz.nd fun z h => (hz.mm z h).1
    have z0 := hz.ne
    refine ⟨G, _, D, fl 0 t, n, rfl, S, hD, by omega, hk, fun e Lb G1 H1 he s1 hLb S1 => ?_⟩
    have bl := bn_len (fl 0 t) n e
    have ele := he.le
    refine ⟨_, .inl (SqL.of (S1.st hLb)), G1, M, b, o, _, rfl, S1, B.same s1, by omega, by rw [List.length_map]; omega, fun r2 o2 H2 r20 r21 B2 S2 => ?_⟩
    obtain ⟨i, rfl⟩ := Int.eq_ofNat_of_zero_le r20
    rw [List.length_map] at r21
    have hi : i ≤ (bnF (fl 0 t) n e).length := by omega
    refine ⟨G1, _, D, _, n, i, rfl, S2, hD.same s1, by omega, hk, fun e3 G3 H3 he3 s3 S3 => ?_⟩
    obtain rfl := end_uniq he he3
    have spl := spot_le (fl 0 t) n e i he
    have s13 := s1.trans s3
    have hsl3 := s13 _ _ hsl
    refine ⟨_, .inl (SqL.of (S3.st hsl3)), G3, M, b, o2, _, rfl, S3, B2.same s3, by rw [List.length_map]; omega, by rw [List.length_map]; omega, fun r4 o4 H4 r40 r41 B4 S4 => ?_⟩
    obtain ⟨j, rfl⟩ := Int.eq_ofNat_of_zero_le r40
    rw [List.length_map] at r41
    have zml : (zs.map V.str).length = zs.length := List.length_map _
    refine ⟨_, rfl, sl, _, rfl, SqL.of (S4.st hsl3), fun t5 m5 => ?_⟩
    rw [cutV_from (zs.map V.str) j (by omega)]
    obtain ⟨G5, s5, S5, k5⟩ := Sep.mk (o := .lst ((zs.map V.str).drop j)) S4 m5
    refine ⟨_, rfl, sl, _, rfl, SqL.of (S5.st (s5 _ _ hsl3)), fun t6 m6 => ?_⟩
    rw [cutV_to (zs.map V.str) j (by omega)]
    obtain ⟨G6, s6, S6, k6⟩ := Sep.mk (o := .lst ((zs.map V.str).take j)) S5 m6
    refine ⟨t5, t6, _, _, rfl, rfl, S6.st (s6 _ _ k5), S6.st k6, by rw [List.length_drop, List.length_take, sizeLine_eq]; omega, fun t7 m7 => ?_⟩
    obtain ⟨G7, s7, S7, k7⟩ := Sep.mk (o := .lst ((zs.map V.str).drop j ++ (zs.map V.str).take j)) S6 m7
    have s57 := s5.trans (s6.trans s7)
    refine ⟨G7, M, b, o4, 3, rfl, S7, B4.same s57, by decide, by decide, fun r8 o8 H8 r80 r81 B8 S8 => ?_⟩
    obtain ⟨n8, rfl⟩ := Int.eq_ofNat_of_zero_le r80
    refine ⟨_, rfl, t7, _, rfl, SqL.of (S8.st k7), fun t9 m9 => ?_⟩
    have e8 : (1 : Int) + ((n8 : Nat) : Int) = ((1 + n8 : Nat) : Int) := by omega
    have c9 : cutV ((zs.map V.str).drop j ++ (zs.map V.str).take j) none (some ((1 : Int) + ((n8 : Nat) : Int))) = ((zs.drop j ++ zs.take j).take (1 + n8)).map V.str := by
      rw [e8, cutV_any, List.map_take, List.map_append, List.map_drop, List.map_take]
    rw [c9]
    have pz : (zs.drop j ++ zs.take j).Perm zs := List.perm_append_comm.trans (by rw [List.take_append_drop])
    have zzm : ∀ z ∈ (zs.drop j ++ zs.take j).take (1 + n8), z ∈ zs := fun z h => pz.mem_iff.mp (List.mem_of_mem_take h)
    have zzn : ((zs.drop j ++ zs.take j).take (1 + n8)).Nodup := (List.take_sublist _ _).nodup (pz.nodup_iff.mpr hz.nd)
    have zzl := pz.length_eq
    have zz1 : 0 < ((zs.drop j ++ zs.take j).take (1 + n8)).length := by rw [List.length_take]; omega
    have zz2 : ((zs.drop j ++ zs.take j).take (1 + n8)).length ≤ 60 := by rw [List.length_take]; omega
    generalize (zs.drop j ++ zs.take j).take (1 + n8) = zz at *
    obtain ⟨G9, s9, S9, k9⟩ := Sep.mk (o := .lst (zz.map V.str)) S8 m9
    refine ⟨G9, M, b, o8, t9, zz, 2, rfl, S9, B8.same s9, k9, zz1, by omega, by decide, by decide, fun BD bus bfs o10 G10 H10 s10 hBD hbus bok bem btx B10 S10 => ?_⟩
    have s010 := s13.trans (s57.trans (s9.trans s10))
    obtain ⟨us6, hDl6, hus6⟩ := hD.same s010
    have ul6 := prd_len hus6
    obtain ⟨ak, mk, lk, huk, hak, hrow2⟩ := fld_at (K := K) hus6 hk
    have bul := prd_len hbus
    have bfl : bfs.length = zz.length := by rw [← bem, List.length_map]
    refine ⟨BD, rfl, ⟨bus, SqL.of (S10.st hBD)⟩, fun O nO => lc_list (xs := bus) (fun i' H' => ∃ (G' : Hp) (lw : List V), Same G10 G' ∧ Paired (FlAt G') lw ((bfs.take i').map fun x => (x.1, x.2.1, x.2.2 + dep (fl 0 t) n + 1)) ∧ Sep G' ((O, .lst lw) :: (b, o10) :: M) H')
      ⟨G10, [], Same.refl _, .nil, S10.new nO⟩ (fun i' H' _ p => ?_) (fun i' x H' hx p => ?_) (fun H' p => ?_)⟩
    · obtain ⟨G', lw, s', _, S'⟩ := p
      exact SqL.of (S'.st (s' _ _ hBD))
    · obtain ⟨G', lw, s', hlw, S'⟩ := p
      obtain ⟨f, hf, af, rfl, haf⟩ := prd_get hbus hx
      have il := (List.getElem?_eq_some_iff.mp hf).1
      have lwl := prd_len hlw
      rw [List.length_map, List.length_take] at lwl
      refine ⟨af, _, rfl, SqT.of (S'.st (s' _ _ haf)), rfl, _, _, rfl, _, _, rfl, _, _, rfl, rfl, rfl, _, _, .inl (SqL.of (S'.st (s' _ _ hDl6))), atI_nat huk, _, _, .inr (SqT.of (S'.st (s' _ _ hak))), atI_nat (j := 2) rfl, sz, fun y my => ?_⟩
      have ec : ((f.2.2 : Nat) : Int) + ((dep (fl 0 t) n : Nat) : Int) + 1 = ((f.2.2 + dep (fl 0 t) n + 1 : Nat) : Int) := by omega
      rw [ec]
      obtain ⟨G11, s11, S11, k11⟩ := Sep.mk (o := .tup [.str f.1, .str f.2.1, .int ((f.2.2 + dep (fl 0 t) n + 1 : Nat) : Int)]) S' my
      refine ⟨lw, S11.hd, smallL (by omega), G11, lw ++ [.ref y], s'.trans s11, ?_, S11.set⟩
      rw [take_snoc hf, List.map_append]
      exact prd_app (prd_imp (fun _ _ => FlAt.same s11) hlw) (.cons ⟨y, rfl, k11⟩ .nil)
    · obtain ⟨G11, lw, s11, hlw, S11⟩ := p
      rw [bul, List.take_length] at hlw
      obtain ⟨G12, s12, S12, kO⟩ := Sep.keep S11
      have s1012 := s11.trans s12
      have lwl := prd_len hlw
      rw [List.length_map] at lwl
      have hak2 := s1012 _ _ hak
      refine ⟨_, _, .inl (SqL.of (S12.st (s1012 _ _ hDl6))), atI_nat huk, _, _, .inr (SqT.of (S12.st hak2)), atI_nat (j := 0) rfl, ?_⟩
      refine ⟨G12, _, BD, bus, bfs, rfl, S12, s1012 _ _ hBD, prd_imp (fun _ _ => FlAt.same s1012) hbus, bok, by omega, fun gv g G13 H13 s13b hgv hgf S13 => ?_⟩
      refine ⟨sz, fun x mx => ?_⟩
      obtain ⟨G14, s14, S14, k14⟩ := Sep.mk (o := .tup [.str "put", .str mk, .int (i : Nat), gv]) S13 mx
      have s1014 := s1012.trans (s13b.trans s14)
      generalize hsp : ((bnF (fl 0 t) n e)[i]?).getD e = sp at *
      refine ⟨_, rfl, D, us6, rfl, SqL.of (S14.st (s1014 _ _ hDl6)), fun u1 mu1 => ?_⟩
      rw [cutV_to us6 sp (by omega)]
      obtain ⟨G15, s15, S15, k15⟩ := Sep.mk (o := .lst (us6.take sp)) S14 mu1
      have kO15 := (s13b.trans (s14.trans s15)) _ _ kO
      refine ⟨u1, O, _, _, rfl, rfl, S15.st k15, S15.st kO15, by rw [List.length_take, sizeLine_eq]; omega, fun u3 mu3 => ?_⟩
      obtain ⟨G16, s16, S16, k16⟩ := Sep.mk (o := .lst (us6.take sp ++ lw)) S15 mu3
      refine ⟨_, rfl, D, us6, rfl, SqL.of (S16.st ((s1014.trans (s15.trans s16)) _ _ hDl6)), fun u4 mu4 => ?_⟩
      rw [cutV_from us6 sp (by omega)]
      obtain ⟨G17, s17, S17, k17⟩ := Sep.mk (o := .lst (us6.drop sp)) S16 mu4
      refine ⟨u3, u4, _, _, rfl, rfl, S17.st (s17 _ _ k16), S17.st k17, by rw [List.length_append, List.length_take, List.length_drop, sizeLine_eq]; omega, fun D' mD => ?_⟩
      obtain ⟨G18, s18, S18, k18⟩ := Sep.mk (o := .lst ((us6.take sp ++ lw) ++ us6.drop sp)) S17 mD
      refine ⟨sz, fun r mr => ?_⟩
      obtain ⟨G19, s19, S19, k19⟩ := Sep.mk (o := .tup [.ref x, .ref D']) S18 mr
      have s1419 := s15.trans (s16.trans (s17.trans (s18.trans s19)))
      have s1019 := s1014.trans s1419
      have s1219 := s13b.trans (s14.trans s1419)
      obtain ⟨zs1, st⟩ := wl
      obtain ⟨rr, st2⟩ := st_front st zzn (fun z h => Wl.spare st (hz.mm z (zzm z h)).1 (hz.mm z (zzm z h)).2)
      have gm := fl_marks hgf bem
      have gl := fl_labels hgf fun f hf => (btx f hf).1
      obtain ⟨m, l, d, hrow, fit, st3, hfl⟩ := ed_put (n := zz.length) (s := g) st2 hN.ln hk he hi (by rw [gm, List.take_left]) (fun p hp => ⟨hN.tx _ (hz.mm _ (zzm _ (by rw [← gm]; exact List.mem_map_of_mem hp))).1, gl p hp⟩)
      rw [hrow] at hrow2
      obtain ⟨rfl, rfl, ed⟩ : m = mk ∧ l = lk ∧ d = dep (fl 0 t) n := by
        have := Option.some.inj hrow2
        exact ⟨(Prod.mk.inj this).1, (Prod.mk.inj (Prod.mk.inj this).2).1, (Prod.mk.inj (Prod.mk.inj this).2).2⟩
      rw [hsp, hgf, ed] at hfl
      refine q r x D' (.put m i g) o10 G19 _ (s010.trans s1019) k19 ?_ fit ⟨_, st3⟩ ⟨_, s19 _ _ k18, ?_⟩ (B10.same s1019) S19
      · exact .tup (SqT.of (s1419 _ _ k14)) (.cons (.str _) (.cons (.str _) (.cons (.int _) (.cons (dp_same (s14.trans s1419) hgv) .nil))))
      · rw [← hfl, ← List.append_assoc]
        exact prd_app (prd_app (prd_imp (fun _ _ => FlAt.same s1019) (prd_take hus6 sp)) (prd_imp (fun _ _ => FlAt.same (s12.trans s1219)) hlw)) (prd_imp (fun _ _ => FlAt.same s1019) (prd_drop hus6 sp))

end
end K19
set_option Elab.async false
set_option linter.all false
set_option maxRecDepth 100000
set_option maxHeartbeats 4000000
namespace K19
open PySem PySem.Spec PyProof.Rows L2 XL
section
variable {P : Program} {w : World} {K : PySem.W.Frag} {mg : Str → Option Value} {base : Heap}
/-! ### edited -/
theorem inS19 {x : Str} (xs : List Str) : inV (.str x) (xs.map V.str) = decide (x ∈ xs) := by
  unfold inV
  induction xs with
  | nil => rfl
  | cons y r ih =>
    rw [List.map_cons, List.any_cons, ih]
    show ((y == x) || decide (x ∈ r)) = decide (x ∈ y :: r)
    by_cases e : x = y
    · subst e; simp
    · have e2 : ¬ y = x := fun q => e q.symm
      simp [e, e2]
theorem flS19 (xs : List Str) : (xs.map V.str).all flatV = true := by
  rw [List.all_eq_true]
  intro x hx
  obtain ⟨n, _, rfl⟩ := List.mem_map.mp hx
  rfl
theorem cut_last_len (z : Str) : (cutS z none (some (-1))).length = z.length - 1 := by
  rw [len_tl]
  show ((z.cps.toList.drop (HT.sIx z.length 0 none)).take (HT.sIx z.length z.length (some (-1)) - HT.sIx z.length 0 none)).toArray.toList.length = _
  have e : HT.sIx z.length z.length (some (-1)) = z.length - 1 := by
    simp [HT.sIx]
    omega
  rw [e, HT.sIx_none, Nat.sub_zero, List.drop_zero, List.length_take, ← len_tl]
  omega
theorem last_tx {z : Str} (h : Tx 1 20 z) (l : 1 < z.length) : Tx 1 19 (cutS z none (some (-1))) :=
  ⟨by rw [cut_last_len]; omega, by rw [cut_last_len]; have := h.hi; omega, fun c hc => h.ch c (cut_mem hc)⟩
theorem lab_at {N : List Str} {t : Tr} {k : Nat} {m l : Str} {d : Nat} (w : Wl N t) (h : (fl 0 t)[k]? = some (m, l, d)) : Tx 1 20 l ∧ Tx 1 59 m := by
  obtain ⟨zs, st⟩ := w
  have e := fl_pre 0 t
  have hm : (m, l) ∈ (fl 0 t).map (fun x => (x.1, x.2.1)) := List.mem_map_of_mem (f := fun x : Fr3 => (x.1, x.2.1)) (List.mem_of_getElem? h)
  rw [e] at hm
  obtain ⟨p, hp, ep⟩ := List.mem_map.mp hm
  have := st.tx p hp
  rw [(Prod.mk.inj ep).1, (Prod.mk.inj ep).2] at this
  exact ⟨this.2, this.1⟩
def spEdited (K : PySem.W.Frag) : Sp := fun vs H Q _ => ∃ (G : Hp) (M : List (Addr × HO)) (b : Addr) (o : HO) (D : Addr) (t : Tr) (N : List Str) (l : Addr), vs = [.ref b, .ref D, .ref l] ∧ Sep G ((b, o) :: M) H ∧ Bag G o ∧ FlD G D (fl 0 t) ∧ Wl N t ∧ PlAt G l N ∧
  ∀ (r x D' : Addr) (p : Pt) (o' : HO) (G' H' : Hp), Same G G' → G' r = some (.tup [.ref x, .ref D']) → Dp K G' (.ref x) (ptD p) → Fits p t → Wl N (aft p t) → FlD G' D' (fl 0 (aft p t)) → Bag G' o' → Sep G' ((b, o') :: M) H' → Q (.ref r) H'
theorem fl_mrks (t : Tr) : (fl 0 t).map (·.1) = (pre t).map mrk := by
  have e := congrArg (List.map (·.1)) (fl_pre 0 t)
  rw [List.map_map, List.map_map] at e
  exact e
theorem ok_edited (T : Top K mg w) {k : Nat} (G_pick : FnOk P w K mg base CX0 k T.a_pick T.d_pick ["_law_bag_here", "_law_many"] spPick) (G_choice : FnOk P w K mg base CX0 k T.a_choice T.d_choice ["_law_bag_here", "_law_things"] (spChoice K)) (G_label : FnOk P w K mg base CX0 k T.a_label T.d_label ["_law_bag_here"] spLabel) (G_end : FnOk P w K mg base CX0 k T.a_end T.d_end ["_law_flat_here", "_law_k"] spEnd) (G_moved : FnOk P w K mg base CX0 k T.a_moved T.d_moved ["_law_bag_here", "_law_flat_here", "_law_k"] (spMoved K)) (G_grafted : FnOk P w K mg base CX0 k T.a_grafted T.d_grafted ["_law_bag_here", "_law_flat_here", "_law_k", "_law_spare"] (spGraft K)) :
    FnOk P w K mg base CX0 (k + 1) T.a_edited T.d_edited ["_law_bag_here", "_law_flat_here", "_law_pool"] (spEdited K) := by
  refine T.F_edited.ok sc_edited (fun vs H Q E h => ?_) (fun cdv A outer s H vs Q E hr h => ?_)
  · obtain ⟨G, M, b, o, D, t, N, l, rfl, _⟩ := h
    rfl
  · obtain ⟨G, M, b, o, D, t, N, l, rfl, S, B, hD, wl, hl, q⟩ := h
    refine ⟨_, (pss_cons (ps_set (i := 3) sc_edited.nd rfl (.inl rfl) (pe_call G_pick (hr.mono (by omega)) (by rfl) T.g_pick T.F_pick.kp T.b_pick .nil pass0 (pa_cons (xv 0) (pa_cons pe_int pa_nil))))
      (pss_cons (ps_set (i := 4) sc_edited.nd rfl (.inl rfl) (pe_call G_pick (hr.mono (by omega)) (by rfl) T.g_pick T.F_pick.kp T.b_pick .nil pass0 (pa_cons (xv 0) (pa_cons (pe_callB (cr_lenK K) (by rfl) T.m_len (by decide +kernel) (pa_cons (xv 1) pa_nil)) pa_nil))))
      (pss_cons (ps_set (i := 5) sc_edited.nd rfl (.inr rfl) (pe_lc (own := [("_law_row", 8)]) (by rfl) sc_edited.nd (pi_listK K (xv 1)) (blkOk_by (N := ["_law_bag_here", "_law_flat_here", "_law_pool", "_law_way", "_law_k", "_law_shown", "_law_spare", "_law_label_here", "_law_row", "_law_mark"]) (sc := defScope s_edited) (by decide +kernel)) (fun _ _ _ _ _ => (pg_name (i := 8) sc_edited.nd rfl (.inl rfl))) (fun _ _ _ _ _ => pts_nil) (fun _ _ _ _ _ => (pe_ix (ix_k K) (xv 8) pe_int (fun _ _ => rfl)))))
      (pss_cons (ps_setLc (i := 6) (own := [("_law_mark", 9)]) (by rfl) sc_edited.nd rfl rfl (sw_true rfl rfl rfl (by decide +kernel)) (pi_listK K (xv 2)) (blkOk_by (N := ["_law_bag_here", "_law_flat_here", "_law_pool", "_law_way", "_law_k", "_law_shown", "_law_spare", "_law_label_here", "_law_row", "_law_mark"]) (sc := defScope s_edited) (by decide +kernel)) (fun _ _ _ _ _ => (pg_name (i := 9) sc_edited.nd rfl (.inl rfl))) (fun _ _ _ _ _ => (pts_one (xt_cmp (notin_seqK K) (xv 9) (xv 5) (by rfl)))) (fun _ _ _ _ _ => (xv 9)))
      (xss_cut (xs_if (PW.pt (xw_and (xt_cmp (op_eqLK K hr.u190) (xv 3) pe_int (nomark _)) (pw_and1 (xt_cmp op_gtY (xv 4) pe_int (nomark _)))))
      (pss_one (ps_ret (pe_tup (pa_cons (pe_tup (pa_cons pe_str (pa_cons (pe_ix (ix_k K) (pe_ix (ix_k K) (xv 1) (xv 4) (fun _ _ => rfl)) pe_int (fun _ _ => rfl)) pa_nil))) (pa_cons (pe_op op_cat (pe_slice (sl_listK K) (xv 1) po_none (po_some (xv 4))) (pe_slice (sl_listK K) (xv 1) (po_some (pe_call G_end (hr.mono (by omega)) (by rfl) T.g_end T.F_end.kp T.b_end .nil pass0 (pa_cons (xv 1) (pa_cons (xv 4) pa_nil)))) po_none)) pa_nil)))))
      pss_nil)
      (xss_cut (xs_if (PW.pt (xw_and (xt_cmp (op_eqLK K hr.u190) (xv 3) pe_int (nomark _)) (pw_and1 (xt_cmp op_gtY (xv 4) pe_int (nomark _)))))
      (pss_one (ps_ret (pe_call G_moved (hr.mono (by omega)) (by rfl) T.g_moved T.F_moved.kp T.b_moved .nil pass0 (pa_cons (xv 0) (pa_cons (xv 1) (pa_cons (xv 4) pa_nil))))))
      pss_nil)
      (xss_cut (xs_if (PW.pt (xw_and (xt_cmp (op_eqLK K hr.u190) (xv 3) pe_int (nomark _)) (pw_and1 (xt_truK K (xv 6)))))
      (pss_one (ps_ret (pe_call G_grafted (hr.mono (by omega)) (by rfl) T.g_grafted T.F_grafted.kp T.b_grafted .nil pass0 (pa_cons (xv 0) (pa_cons (xv 1) (pa_cons (xv 4) (pa_cons (xv 6) pa_nil)))))))
      pss_nil)
      (pss_cons (ps_set (i := 7) sc_edited.nd rfl (.inl rfl) (pe_call G_label (hr.mono (by omega)) (by rfl) T.g_label T.F_label.kp T.b_label .nil pass0 (pa_cons (xv 0) pa_nil)))
      (xss_cut (xs_if (PW.pt (xw_and (xt_cmp (op_eqLK K hr.u190) (xv 3) pe_int (nomark _)) (pw_and1 (xt_cmp op_gtY (pe_callB (cr_lenK K) (by rfl) T.m_len (by decide +kernel) (pa_cons (pe_ix (ix_k K) (pe_ix (ix_k K) (xv 1) (xv 4) (fun _ _ => rfl)) pe_int (fun _ _ => rfl)) pa_nil)) pe_int (nomark _)))))
      (pss_one (ps_set (i := 7) sc_edited.nd rfl (.inl rfl) (pe_op op_addY (pe_slice sl_str (pe_ix (ix_k K) (pe_ix (ix_k K) (xv 1) (xv 4) (fun _ _ => rfl)) pe_int (fun _ _ => rfl)) po_none (po_some (pe_un un_neg pe_int))) (pe_call G_choice (hr.mono (by omega)) (by rfl) T.g_choice T.F_choice.kp T.b_choice .nil pass0 (pa_cons (xv 0) (pa_cons (pe_lst (pa_cons pe_str (pa_cons pe_str (pa_cons pe_str (pa_cons pe_str pa_nil))))) pa_nil))))))
      pss_nil)
      (pss_one (ps_ret (pe_tup (pa_cons (pe_tup (pa_cons pe_str (pa_cons (pe_ix (ix_k K) (pe_ix (ix_k K) (xv 1) (xv 4) (fun _ _ => rfl)) pe_int (fun _ _ => rfl)) (pa_cons (xv 7) pa_nil)))) (pa_cons (pe_op op_cat (pe_op op_cat (pe_slice (sl_listK K) (xv 1) po_none (po_some (xv 4))) (pe_lst (pa_cons (pe_tup (pa_cons (pe_ix (ix_k K) (pe_ix (ix_k K) (xv 1) (xv 4) (fun _ _ => rfl)) pe_int (fun _ _ => rfl)) (pa_cons (xv 7) (pa_cons (pe_ix (ix_k K) (pe_ix (ix_k K) (xv 1) (xv 4) (fun _ _ => rfl)) pe_int (fun _ _ => rfl)) pa_nil)))) pa_nil))) (pe_slice (sl_listK K) (xv 1) (po_some (pe_op op_addY (xv 4) pe_int)) po_none)) pa_nil)))))))))))))), ?_⟩
    have fl60 := wl.len
    have n60 := hl.2.ln
    obtain ⟨us, hDl, hus⟩ := id hD
    have ul := prd_len hus
    have f1 : 0 < (fl 0 t).length := by rw [fl_eq]; simp
    refine ⟨G, M, b, o, 5, rfl, S, B, by decide, by decide, fun way o1 H1 w0 w5 B1 S1 => ?_⟩
    refine ⟨_, .inl (SqL.of (S1.st hDl)), G, M, b, o1, _, rfl, S1, B1, by omega, by omega, fun r2 o2 H2 r20 r21 B2 S2 => ?_⟩
    obtain ⟨n, rfl⟩ := Int.eq_ofNat_of_zero_le r20
    have hk : n < (fl 0 t).length := by omega
    obtain ⟨ak, mk, lk, huk, hak, hrow⟩ := fld_at (K := K) hus hk
    refine ⟨D, rfl, ⟨us, SqL.of (S2.st hDl)⟩, fun O nO => lc_list (xs := us) (fun i H' => Sep G ((O, .lst ((((fl 0 t).take i).map (·.1)).map V.str)) :: (b, o2) :: M) H') (S2.new nO) (fun i H' _ p => SqL.of (p.st hDl)) (fun i x H' hx p => ⟨rfl, ?_⟩) (fun H3 p => ?_)⟩
    · obtain ⟨f, hf, af, rfl, haf⟩ := prd_get hus hx
      have il := (List.getElem?_eq_some_iff.mp hf).1
      refine ⟨_, _, .inr (SqT.of (p.st haf)), atI_nat (j := 0) rfl, _, p.hd, by rw [List.length_map, List.length_map, List.length_take]; exact smallL (by omega), ?_⟩
      rw [take_snoc hf, List.map_append, List.map_append]
      exact p.set
    · rw [ul, List.take_length, fl_mrks] at p
      obtain ⟨G3, s3, S3, kO⟩ := Sep.keep p
      have ml : ((pre t).map mrk).length ≤ 60 := by rw [← fl_mrks, List.length_map]; omega
      refine ⟨l, rfl, ⟨_, SqL.of (S3.st (s3 _ _ hl.1))⟩, fun W nW => lc_list (xs := N.map V.str) (fun i H' => Sep G3 ((W, .lst (((N.take i).filter fun z => decide (z ∉ (pre t).map mrk)).map V.str)) :: (b, o2) :: M) H') (S3.new nW) (fun i H' _ p => SqL.of (p.st (s3 _ _ hl.1))) (fun i x H' hx p => ⟨rfl, ?_⟩) (fun H4 p => ?_)⟩
      · rw [List.getElem?_map] at hx
        obtain ⟨z, hz, rfl⟩ := Option.map_eq_some_iff.mp hx
        have il := (List.getElem?_eq_some_iff.mp hz).1
        refine ⟨O, _, rfl, .inl (SqL.of (p.st kO)), rfl, flS19 _, ?_⟩
        rw [inS19]
        refine tst (fun e => ?_) (fun e => ?_)
        · have e : (!decide (z ∈ (pre t).map mrk)) = true := e
          have h3 := List.length_filter_le (fun z => decide (z ∉ (pre t).map mrk)) (N.take i)
          rw [List.length_take] at h3
          refine ⟨_, p.hd, by rw [List.length_map]; exact smallL (by omega), ?_⟩
          rw [take_snoc hz, List.filter_append, List.map_append, show ([z].filter fun z => decide (z ∉ (pre t).map mrk)) = [z] by simp only [List.filter]; rw [decide_not, e]]
          exact p.set
        · have e : (!decide (z ∈ (pre t).map mrk)) = false := e
          rw [take_snoc hz, List.filter_append, show ([z].filter fun z => decide (z ∉ (pre t).map mrk)) = [] by simp only [List.filter]; rw [decide_not, e], List.append_nil]
          exact p
      · rw [List.length_map, List.take_length] at p
        obtain ⟨G4, s4, S4, kW⟩ := Sep.keep p
        have s34 := s3.trans s4
        have B4 := B2.same s34
        have hD4 := hD.same s34
        have hDl4 := s34 _ _ hDl
        have hak4 := s34 _ _ hak
        have hus4 := prd_imp (fun _ _ => FlAt.same s34) hus
        have hlx := lab_at wl hrow
        refine ⟨fun σ H' => σ = [some (.ref b), some (.ref D), some (.ref l), some (.int way), some (.int (n : Nat)), some (.ref O), some (.ref W), none, none, none] ∧ H4 = H', ⟨fun e0 => ⟨fun e1 => ?_, fun _ => ⟨rfl, rfl⟩⟩, fun _ => ⟨ff, fun _ => ⟨rfl, rfl⟩⟩⟩, fun σ H' h => ?_⟩
        · have n0 : 0 < n := by
            have := of_decide_eq_true e1
            omega
          refine ⟨_, _, .inl (SqL.of (S4.st hDl4)), atI_nat huk, _, _, .inr (SqT.of (S4.st hak4)), atI_nat (j := 0) rfl, sz, fun x mx => ?_⟩
          obtain ⟨G5, s5, S5, k5⟩ := Sep.mk (o := .tup [.str "drop", .str mk]) S4 mx
          have s45 := s34.trans s5
          refine ⟨_, rfl, D, us, rfl, SqL.of (S5.st (s45 _ _ hDl)), fun u1 mu1 => ?_⟩
          rw [cutV_to us n (by omega)]
          obtain ⟨G6, s6, S6, k6⟩ := Sep.mk (o := .lst (us.take n)) S5 mu1
          refine ⟨G6, D, fl 0 t, n, rfl, S6.1, hD.same (s45.trans s6), by omega, hk, fun e he => ⟨_, rfl, D, us, rfl, SqL.of (S6.st ((s45.trans s6) _ _ hDl)), fun u2 mu2 => ?_⟩⟩
          have ele := he.le
          rw [cutV_from us e (by omega)]
          obtain ⟨G7, s7, S7, k7⟩ := Sep.mk (o := .lst (us.drop e)) S6 mu2
          refine ⟨u1, u2, _, _, rfl, rfl, S7.st (s7 _ _ k6), S7.st k7, by rw [List.length_take, List.length_drop, sizeLine_eq]; omega, fun D' mD => ?_⟩
          obtain ⟨G8, s8, S8, k8⟩ := Sep.mk (o := .lst (us.take n ++ us.drop e)) S7 mD
          refine ⟨sz, fun r mr => ?_⟩
          obtain ⟨G9, s9, S9, k9⟩ := Sep.mk (o := .tup [.ref x, .ref D']) S8 mr
          have s59 := s6.trans (s7.trans (s8.trans s9))
          have s49 := s45.trans s59
          obtain ⟨m, lb, d, hr1, fit, wl', hfl⟩ := ed_drop wl hk n0 he
          rw [hrow] at hr1
          obtain ⟨rfl, rfl, ed⟩ : mk = m ∧ lk = lb ∧ dep (fl 0 t) n = d := by
            have := Option.some.inj hr1
            exact ⟨(Prod.mk.inj this).1, (Prod.mk.inj (Prod.mk.inj this).2).1, (Prod.mk.inj (Prod.mk.inj this).2).2⟩
          refine q r x D' (.drop mk) o2 G9 _ s49 k9 (.tup (SqT.of (s59 _ _ k5)) (.cons (.str _) (.cons (.str _) .nil))) fit wl' ⟨_, s9 _ _ k8, ?_⟩ (B2.same s49) S9
          rw [← hfl]
          exact prd_imp (fun _ _ => FlAt.same s49) (prd_app (prd_take hus n) (prd_drop hus e))
        obtain ⟨rfl, rfl⟩ := h
        refine ⟨fun σ H' => σ = [some (.ref b), some (.ref D), some (.ref l), some (.int way), some (.int (n : Nat)), some (.ref O), some (.ref W), none, none, none] ∧ H4 = H', ⟨fun e0 => ⟨fun e1 => ?_, fun _ => ⟨rfl, rfl⟩⟩, fun _ => ⟨ff, fun _ => ⟨rfl, rfl⟩⟩⟩, fun σ H' h => ?_⟩
        · have n0 : 0 < n := by
            have := of_decide_eq_true e1
            omega
          exact ⟨G4, M, b, o2, D, t, n, N, rfl, S4, B4, hD4, wl, hl.2, n0, hk, fun r x D' p o' G' H' s' hr' hx' fit wl' hD' B' S' => q r x D' p o' G' H' (s34.trans s') hr' hx' fit wl' hD' B' S'⟩
        obtain ⟨rfl, rfl⟩ := h
        refine ⟨fun σ H' => σ = [some (.ref b), some (.ref D), some (.ref l), some (.int way), some (.int (n : Nat)), some (.ref O), some (.ref W), none, none, none] ∧ H4 = H', ⟨fun e0 => ⟨!(((N.filter fun z => decide (z ∉ (pre t).map mrk)).map V.str)).isEmpty, .inl ⟨_, SqL.of (S4.st kW), rfl⟩, fun e1 => ?_, fun _ => ⟨rfl, rfl⟩⟩, fun _ => ⟨ff, fun _ => ⟨rfl, rfl⟩⟩⟩, fun σ H' h => ?_⟩
        · have so : SpareOk N t (N.filter fun z => decide (z ∉ (pre t).map mrk)) := ⟨hl.2.nd.filter _, fun z hz => ⟨(List.mem_filter.mp hz).1, of_decide_eq_true (List.mem_filter.mp hz).2⟩, by
            cases hc : N.filter fun z => decide (z ∉ (pre t).map mrk) with
            | nil => rw [hc] at e1; exact nomatch e1
            | cons _ _ => simp⟩
          exact ⟨G4, M, b, o2, D, t, n, N, W, _, rfl, S4, B4, hD4, wl, hl.2, hk, kW, so, fun r x D' p o' G' H' s' hr' hx' fit wl' hD' B' S' => q r x D' p o' G' H' (s34.trans s') hr' hx' fit wl' hD' B' S'⟩
        obtain ⟨rfl, rfl⟩ := h
        refine ⟨G4, M, b, o2, rfl, S4, B4, fun z1 o5 G5 H5 tz1 s5 B5 S5 => ?_⟩
        have s45 := s34.trans s5
        refine ⟨fun σ H' => ∃ (z : Str) (o6 : HO) (G6 : Hp), σ = [some (.ref b), some (.ref D), some (.ref l), some (.int way), some (.int (n : Nat)), some (.ref O), some (.ref W), some (.str z), none, none] ∧ Same G5 G6 ∧ Tx 1 20 z ∧ Bag G6 o6 ∧ Sep G6 ((b, o6) :: M) H', ⟨fun e0 => ⟨_, _, .inl (SqL.of (S5.st (s45 _ _ hDl))), atI_nat huk, _, _, .inr (SqT.of (S5.st (s45 _ _ hak))), atI_nat (j := 1) rfl, small (by have := hlx.1.hi; omega), fun e1 => ?_, fun _ => ⟨z1, o5, G5, rfl, Same.refl _, tz1, B5, S5⟩⟩, fun _ => ⟨ff, fun _ => ⟨z1, o5, G5, rfl, Same.refl _, tz1, B5, S5⟩⟩⟩, fun σ H6 h => ?_⟩
        · have l1 : 1 < lk.length := by
            have := of_decide_eq_true e1
            omega
          refine ⟨_, _, .inl (SqL.of (S5.st (s45 _ _ hDl))), atI_nat huk, _, _, .inr (SqT.of (S5.st (s45 _ _ hak))), atI_nat (j := 1) rfl, 1, rfl, _, rfl, lk, rfl, small (by have := hlx.1.hi; omega), sz, fun t6 m6 => ?_⟩
          have S6 := S5.newG (o := .lst [.str "1", .str "2", .str "w", .str "l"]) m6
          have s6 := S5.grow (o := .lst [.str "1", .str "2", .str "w", .str "l"]) m6
          refine ⟨_, _, b, o5, t6, [.str "1", .str "2", .str "w", .str "l"], rfl, S6, B5.same s6, SqL.of upd_same, by decide, by decide, fun v o7 H7 hv B7 S7 => ?_⟩
          obtain ⟨z7, rfl, tz7⟩ : ∃ z, v = .str z ∧ Tx 1 1 z := by
            simp only [List.mem_cons, List.not_mem_nil, or_false] at hv
            rcases hv with rfl | rfl | rfl | rfl <;> exact ⟨_, rfl, Tx.lit _ (by decide +kernel)⟩
          have tl := last_tx hlx.1 l1
          refine ⟨small (by have := tl.hi; have := tz7.hi; omega), fun z8 e8 => ?_⟩
          have e8 : z8 = cutS lk none (some (-1)) ++ z7 := e8
          exact ⟨z8, o7, _, rfl, s6, by rw [e8]; exact (tl.app tz7).wide (by decide) (by decide), B7, S7⟩
        · obtain ⟨z, o6, G6, rfl, s6, tz, B6, S6⟩ := h
          have s46 := s45.trans s6
          have hDl6 := s46 _ _ hDl
          have hak6 := s46 _ _ hak
          refine ⟨_, _, .inl (SqL.of (S6.st hDl6)), atI_nat huk, _, _, .inr (SqT.of (S6.st hak6)), atI_nat (j := 0) rfl, sz, fun x mx => ?_⟩
          obtain ⟨G7, s7, S7, k7⟩ := Sep.mk (o := .tup [.str "say", .str mk, .str z]) S6 mx
          refine ⟨_, rfl, D, us, rfl, SqL.of (S7.st (s7 _ _ hDl6)), fun u1 mu1 => ?_⟩
          rw [cutV_to us n (by omega)]
          obtain ⟨G8, s8, S8, k8⟩ := Sep.mk (o := .lst (us.take n)) S7 mu1
          have s78 := s7.trans s8
          refine ⟨_, _, .inl (SqL.of (S8.st (s78 _ _ hDl6))), atI_nat huk, _, _, .inr (SqT.of (S8.st (s78 _ _ hak6))), atI_nat (j := 0) rfl, _, _, .inl (SqL.of (S8.st (s78 _ _ hDl6))), atI_nat huk, _, _, .inr (SqT.of (S8.st (s78 _ _ hak6))), atI_nat (j := 2) rfl, sz, fun y my => ?_⟩
          obtain ⟨G9, s9, S9, k9⟩ := Sep.mk (o := .tup [.str mk, .str z, .int (dep (fl 0 t) n : Nat)]) S8 my
          refine ⟨sz, fun u2 mu2 => ?_⟩
          obtain ⟨G10, s10, S10, k10⟩ := Sep.mk (o := .lst [.ref y]) S9 mu2
          refine ⟨u1, u2, _, _, rfl, rfl, S10.st ((s9.trans s10) _ _ k8), S10.st k10, by rw [List.length_take, sizeLine_eq]; simp only [List.length_singleton]; omega, fun u3 mu3 => ?_⟩
          obtain ⟨G11, s11, S11, k11⟩ := Sep.mk (o := .lst (us.take n ++ [.ref y])) S10 mu3
          have s711 := s78.trans (s9.trans (s10.trans s11))
          refine ⟨_, rfl, D, us, rfl, SqL.of (S11.st (s711 _ _ hDl6)), fun u4 mu4 => ?_⟩
          have e1n : ((n : Nat) : Int) + 1 = ((n + 1 : Nat) : Int) := by omega
          rw [e1n, cutV_from us (n + 1) (by omega)]
          obtain ⟨G12, s12, S12, k12⟩ := Sep.mk (o := .lst (us.drop (n + 1))) S11 mu4
          refine ⟨u3, u4, _, _, rfl, rfl, S12.st (s12 _ _ k11), S12.st k12, by rw [List.length_append, List.length_take, List.length_drop, sizeLine_eq]; simp only [List.length_singleton]; omega, fun D' mD => ?_⟩
          obtain ⟨G13, s13, S13, k13⟩ := Sep.mk (o := .lst ((us.take n ++ [.ref y]) ++ us.drop (n + 1))) S12 mD
          refine ⟨sz, fun r mr => ?_⟩
          obtain ⟨G14, s14, S14, k14⟩ := Sep.mk (o := .tup [.ref x, .ref D']) S13 mr
          have s914 := s10.trans (s11.trans (s12.trans (s13.trans s14)))
          have s714 := s8.trans (s9.trans s914)
          have s614 := s7.trans s714
          obtain ⟨m, lb, d, hr1, fit, wl', hfl⟩ := ed_say wl hk tz
          rw [hrow] at hr1
          obtain ⟨rfl, rfl, ed⟩ : mk = m ∧ lk = lb ∧ dep (fl 0 t) n = d := by
            have := Option.some.inj hr1
            exact ⟨(Prod.mk.inj this).1, (Prod.mk.inj (Prod.mk.inj this).2).1, (Prod.mk.inj (Prod.mk.inj this).2).2⟩
          refine q r x D' (.say mk z) o6 G14 _ (s46.trans s614) k14 (.tup (SqT.of (s714 _ _ k7)) (.cons (.str _) (.cons (.str _) (.cons (.str _) .nil)))) fit wl' ⟨_, s14 _ _ k13, ?_⟩ (B6.same s614) S14
          rw [← hfl, ← ed]
          have st := s46.trans s614
          have z1 := prd_app (prd_app (prd_imp (fun _ _ => FlAt.same st) (prd_take hus n)) (Paired.cons (show FlAt G14 (.ref y) (mk, z, dep (fl 0 t) n) from ⟨y, rfl, s914 _ _ k9⟩) .nil)) (prd_imp (fun _ _ => FlAt.same st) (prd_drop hus (n + 1)))
          rw [List.append_assoc, List.append_assoc] at z1
          rw [List.append_assoc]
          exact z1

end
end K19
set_option Elab.async false
set_option linter.all false
set_option maxRecDepth 100000
set_option maxHeartbeats 4000000
namespace K19
open PySem PySem.Spec PyProof.Rows L2 XL
section
variable {P : Program} {w : World} {K : PySem.W.Frag} {mg : Str → Option Value} {base : Heap}
/-! ### renewed, and led on -/
/-- a row of patches and the flat list behind it, in the heap -/
def OnAt (K : PySem.W.Frag) (G : Hp) (N : List Str) (t : Tr) (r : Addr) (ps : List Pt) (u : Tr) : Prop := ∃ X D' xs, G r = some (.tup [.ref X, .ref D']) ∧ G X = some (.lst xs) ∧ DpAll K G xs (ps.map ptD) ∧ ps.length ≤ 200 ∧ Rw N ps t u ∧ FlD G D' (fl 0 u)
theorem yAdd_at {a b c : Int} {H : Hp} {Q : VK} (h : a + b = c) (q : Q (.int c) H) : yAdd (.int a) (.int b) H Q := by
  rw [← h] at q
  exact q
theorem end_ex {fs : List Fr3} {k : Nat} (hk : k < fs.length) : ∃ e, IsEnd fs k e := by
  have all : ∀ n e, fs.length - e = n → k < e → e ≤ fs.length → (∀ j, k < j → j < e → dep fs k < dep fs j) → ∃ e, IsEnd fs k e := by
    intro n
    induction n with
    | zero => exact fun e h1 h2 h3 h4 => ⟨e, h2, h3, h4, fun h => by omega⟩
    | succ n ih =>
      intro e h1 h2 h3 h4
      by_cases c : dep fs k < dep fs e
      · refine ih (e + 1) (by omega) (by omega) (by omega) fun j j1 j2 => ?_
        by_cases c2 : j = e
        · rw [c2]; exact c
        · exact h4 j j1 (by omega)
      · exact ⟨e, h2, h3, h4, fun _ => by omega⟩
  exact all _ (k + 1) rfl (by omega) (by omega) fun j j1 j2 => by omega
def spRenew (K : PySem.W.Frag) : Sp := fun vs H Q _ => ∃ (G : Hp) (M : List (Addr × HO)) (b : Addr) (o : HO) (D : Addr) (t : Tr) (N : List Str) (l : Addr), vs = [.ref b, .ref D, .ref l] ∧ Sep G ((b, o) :: M) H ∧ Bag G o ∧ FlD G D (fl 0 t) ∧ Wl N t ∧ PlAt G l N ∧ 1 < (fl 0 t).length ∧
  ∀ (r : Addr) (ps : List Pt) (u : Tr) (o' : HO) (G' H' : Hp), Same G G' → OnAt K G' N t r ps u → Bag G' o' → Sep G' ((b, o') :: M) H' → Q (.ref r) H'
theorem ok_renewed (T : Top K mg w) {k : Nat} (G_pick : FnOk P w K mg base CX0 k T.a_pick T.d_pick ["_law_bag_here", "_law_many"] spPick) (G_choice : FnOk P w K mg base CX0 k T.a_choice T.d_choice ["_law_bag_here", "_law_things"] (spChoice K)) (G_over : FnOk P w K mg base CX0 k T.a_over T.d_over ["_law_flat_here", "_law_k"] spOver) (G_end : FnOk P w K mg base CX0 k T.a_end T.d_end ["_law_flat_here", "_law_k"] spEnd) (G_beneath : FnOk P w K mg base CX0 k T.a_beneath T.d_beneath ["_law_flat_here", "_law_k"] spBn) :
    FnOk P w K mg base CX0 (k + 1) T.a_renewed T.d_renewed ["_law_bag_here", "_law_flat_here", "_law_pool"] (spRenew K) := by
  refine T.F_renewed.ok sc_renewed (fun vs H Q E h => ?_) (fun cdv A outer s H vs Q E hr h => ?_)
  · obtain ⟨G, M, b, o, D, t, N, l, rfl, _⟩ := h
    rfl
  · obtain ⟨G, M, b, o, D, t, N, l, rfl, S, B, hD, wl, hl, f2, q⟩ := h
    refine ⟨_, (pss_cons (ps_set (i := 3) sc_renewed.nd rfl (.inl rfl) (pe_op op_addY pe_int (pe_call G_pick (hr.mono (by omega)) (by rfl) T.g_pick T.F_pick.kp T.b_pick .nil pass0 (pa_cons (xv 0) (pa_cons (pe_op op_subY (pe_callB (cr_lenK K) (by rfl) T.m_len (by decide +kernel) (pa_cons (xv 1) pa_nil)) pe_int) pa_nil)))))
      (pss_cons (ps_set (i := 4) sc_renewed.nd rfl (.inl rfl) (pe_call G_over (hr.mono (by omega)) (by rfl) T.g_over T.F_over.kp T.b_over .nil pass0 (pa_cons (xv 1) (pa_cons (xv 3) pa_nil))))
      (pss_cons (ps_set (i := 5) sc_renewed.nd rfl (.inr rfl) (pe_lc (own := [("_law_row", 9)]) (by rfl) sc_renewed.nd (pi_listK K (xv 1)) (blkOk_by (N := ["_law_bag_here", "_law_flat_here", "_law_pool", "_law_k", "_law_above", "_law_shown", "_law_mark", "_law_at", "_law_rows", "_law_row", "_law_one"]) (sc := defScope s_renewed) (by decide +kernel)) (fun _ _ _ _ _ => (pg_name (i := 9) sc_renewed.nd rfl (.inl rfl))) (fun _ _ _ _ _ => pts_nil) (fun _ _ _ _ _ => (pe_ix (ix_k K) (xv 9) pe_int (fun _ _ => rfl)))))
      (pss_cons (ps_set (i := 6) sc_renewed.nd rfl (.inl rfl) (pe_call G_choice (hr.mono (by omega)) (by rfl) T.g_choice T.F_choice.kp T.b_choice .nil pass0 (pa_cons (xv 0) (pa_cons (pe_op op_cat (pe_lst (pa_cons (pe_ix (ix_k K) (pe_ix (ix_k K) (xv 1) (xv 3) (fun _ _ => rfl)) pe_int (fun _ _ => rfl)) pa_nil)) (pe_lc (own := [("_law_one", 10)]) (by rfl) sc_renewed.nd (pi_listK K (xv 2)) (blkOk_by (N := ["_law_bag_here", "_law_flat_here", "_law_pool", "_law_k", "_law_above", "_law_shown", "_law_mark", "_law_at", "_law_rows", "_law_row", "_law_one"]) (sc := defScope s_renewed) (by decide +kernel)) (fun _ _ _ _ _ => (pg_name (i := 10) sc_renewed.nd rfl (.inl rfl))) (fun _ _ _ _ _ => (pts_one (xt_cmp (notin_seqK K) (xv 10) (xv 5) (by rfl)))) (fun _ _ _ _ _ => (xv 10)))) pa_nil))))
      (pss_cons (ps_set (i := 7) sc_renewed.nd rfl (.inl rfl) (pe_bmK K PySem.F.plainAttrs_list PySem.F.slot_list_index PySem.F.type_list_index (mt_indexK K) (pe_call G_beneath (hr.mono (by omega)) (by rfl) T.g_beneath T.F_beneath.kp T.b_beneath .nil pass0 (pa_cons (xv 1) (pa_cons (xv 4) pa_nil))) (pa_cons (xv 3) pa_nil)))
      (pss_cons (ps_set (i := 8) sc_renewed.nd rfl (.inl rfl) (pe_lst (pa_cons (pe_tup (pa_cons pe_str (pa_cons (pe_ix (ix_k K) (pe_ix (ix_k K) (xv 1) (xv 3) (fun _ _ => rfl)) pe_int (fun _ _ => rfl)) pa_nil))) (pa_cons (pe_tup (pa_cons pe_str (pa_cons (pe_ix (ix_k K) (pe_ix (ix_k K) (xv 1) (xv 4) (fun _ _ => rfl)) pe_int (fun _ _ => rfl)) (pa_cons (xv 7) (pa_cons (pe_tup (pa_cons (xv 6) (pa_cons (pe_ix (ix_k K) (pe_ix (ix_k K) (xv 1) (xv 3) (fun _ _ => rfl)) pe_int (fun _ _ => rfl)) (pa_cons (pe_tup pa_nil) pa_nil)))) pa_nil))))) pa_nil))))
      (pss_one (ps_ret (pe_tup (pa_cons (xv 8) (pa_cons (pe_op op_cat (pe_op op_cat (pe_slice (sl_listK K) (xv 1) po_none (po_some (xv 3))) (pe_lst (pa_cons (pe_tup (pa_cons (xv 6) (pa_cons (pe_ix (ix_k K) (pe_ix (ix_k K) (xv 1) (xv 3) (fun _ _ => rfl)) pe_int (fun _ _ => rfl)) (pa_cons (pe_ix (ix_k K) (pe_ix (ix_k K) (xv 1) (xv 3) (fun _ _ => rfl)) pe_int (fun _ _ => rfl)) pa_nil)))) pa_nil))) (pe_slice (sl_listK K) (xv 1) (po_some (pe_call G_end (hr.mono (by omega)) (by rfl) T.g_end T.F_end.kp T.b_end .nil pass0 (pa_cons (xv 1) (pa_cons (xv 3) pa_nil)))) po_none)) pa_nil))))))))))), ?_⟩
    have fl60 := wl.len
    have n60 := hl.2.ln
    obtain ⟨us, hDl, hus⟩ := id hD
    have ul := prd_len hus
    refine ⟨_, .inl (SqL.of (S.st hDl)), G, M, b, o, _, rfl, S, B, by omega, by omega, fun r2 o2 H2 r20 r21 B2 S2 => ?_⟩
    obtain ⟨n1, rfl⟩ := Int.eq_ofNat_of_zero_le r20
    have e1n : (1 : Int) + ((n1 : Nat) : Int) = ((1 + n1 : Nat) : Int) := by omega
    have hk : 1 + n1 < (fl 0 t).length := by omega
    have n0 : 0 < 1 + n1 := by omega
    generalize 1 + n1 = n at e1n hk n0
    obtain ⟨ak, mk, lk, huk, hak, hrow⟩ := fld_at (K := K) hus hk
    refine yAdd_at e1n ?_
    refine ⟨G, D, fl 0 t, n, rfl, S2.1, hD, by omega, hk, fun a ho ak2 => ?_⟩
    refine ⟨D, rfl, ⟨us, SqL.of (S2.st hDl)⟩, fun O nO => lc_list (xs := us) (fun i H' => Sep G ((O, .lst ((((fl 0 t).take i).map (·.1)).map V.str)) :: (b, o2) :: M) H') (S2.new nO) (fun i H' _ p => SqL.of (p.st hDl)) (fun i x H' hx p => ⟨rfl, ?_⟩) (fun H3 p => ?_)⟩
    · obtain ⟨f, hf, af, rfl, haf⟩ := prd_get hus hx
      have il := (List.getElem?_eq_some_iff.mp hf).1
      refine ⟨_, _, .inr (SqT.of (p.st haf)), atI_nat (j := 0) rfl, _, p.hd, by rw [List.length_map, List.length_map, List.length_take]; exact smallL (by omega), ?_⟩
      rw [take_snoc hf, List.map_append, List.map_append]
      exact p.set
    rw [ul, List.take_length, fl_mrks] at p
    obtain ⟨G3, s3, S3, kO⟩ := Sep.keep p
    have ml : ((pre t).map mrk).length ≤ 60 := by rw [← fl_mrks, List.length_map]; omega
    refine ⟨_, _, .inl (SqL.of (S3.st (s3 _ _ hDl))), atI_nat huk, _, _, .inr (SqT.of (S3.st (s3 _ _ hak))), atI_nat (j := 0) rfl, sz, fun y1 m1 => ?_⟩
    obtain ⟨G4, s4, S4, k4⟩ := Sep.mk (o := .lst [.str mk]) S3 m1
    have s34 := s3.trans s4
    refine ⟨l, rfl, ⟨_, SqL.of (S4.st (s34 _ _ hl.1))⟩, fun W nW => lc_list (xs := N.map V.str) (fun i H' => Sep G4 ((W, .lst (((N.take i).filter fun z => decide (z ∉ (pre t).map mrk)).map V.str)) :: (b, o2) :: M) H') (S4.new nW) (fun i H' _ p => SqL.of (p.st (s34 _ _ hl.1))) (fun i x H' hx p => ⟨rfl, ?_⟩) (fun H4 p => ?_)⟩
    · rw [List.getElem?_map] at hx
      obtain ⟨z, hz, rfl⟩ := Option.map_eq_some_iff.mp hx
      have il := (List.getElem?_eq_some_iff.mp hz).1
      refine ⟨O, _, rfl, .inl (SqL.of (p.st (s4 _ _ kO))), rfl, flS19 _, ?_⟩
      rw [inS19]
      refine tst (fun e => ?_) (fun e => ?_)
      · have e : (!decide (z ∈ (pre t).map mrk)) = true := e
        have h3 := List.length_filter_le (fun z => decide (z ∉ (pre t).map mrk)) (N.take i)
        rw [List.length_take] at h3
        refine ⟨_, p.hd, by rw [List.length_map]; exact smallL (by omega), ?_⟩
        rw [take_snoc hz, List.filter_append, List.map_append, show ([z].filter fun z => decide (z ∉ (pre t).map mrk)) = [z] by simp only [List.filter]; rw [decide_not, e]]
        exact p.set
      · have e : (!decide (z ∈ (pre t).map mrk)) = false := e
        rw [take_snoc hz, List.filter_append, show ([z].filter fun z => decide (z ∉ (pre t).map mrk)) = [] by simp only [List.filter]; rw [decide_not, e], List.append_nil]
        exact p
    rw [List.length_map, List.take_length] at p
    obtain ⟨G5, s5, S5, kW⟩ := Sep.keep p
    have s45 := s4.trans s5
    have s35 := s3.trans s45
    have fll := List.length_filter_le (fun z => decide (z ∉ (pre t).map mrk)) N
    refine ⟨y1, W, _, _, rfl, rfl, S5.st (s5 _ _ k4), S5.st kW, by rw [List.length_map, sizeLine_eq]; simp only [List.length_singleton]; omega, fun y2 m2 => ?_⟩
    obtain ⟨G6, s6, S6, k6⟩ := Sep.mk (o := .lst ([.str mk] ++ (N.filter fun z => decide (z ∉ (pre t).map mrk)).map V.str)) S5 m2
    have s36 := s35.trans s6
    refine ⟨G6, M, b, o2, y2, _, rfl, S6, B2.same s36, SqL.of k6, by simp, by rw [List.length_append, List.length_map]; simp only [List.length_singleton]; omega, fun v o3 H7 hv B3 S7 => ?_⟩
    obtain ⟨m', rfl, hm'⟩ : ∃ m', v = .str m' ∧ (m' = mk ∨ (m' ∈ N ∧ m' ∉ (pre t).map mrk)) := by
      rcases List.mem_append.mp hv with h | h
      · exact ⟨mk, List.mem_singleton.mp h, .inl rfl⟩
      · obtain ⟨z, hz, rfl⟩ := List.mem_map.mp h
        exact ⟨z, rfl, .inr ⟨(List.mem_filter.mp hz).1, of_decide_eq_true (List.mem_filter.mp hz).2⟩⟩
    have ha : a < (fl 0 t).length := by omega
    obtain ⟨e, he⟩ := end_ex (fs := fl 0 t) hk
    obtain ⟨m, lb, ma, la, d, da, j, u, hr1, hra, hj, rw2, hfl⟩ := ed_renew wl n60 hk n0 he ho (m' := m') fun l d m hm => by
      rw [hrow] at hm
      have := (Prod.mk.inj (Option.some.inj hm)).1
      rw [← this]
      exact hm'
    rw [hrow] at hr1
    obtain ⟨rfl, rfl, rfl⟩ : mk = m ∧ lk = lb ∧ dep (fl 0 t) n = d := by
      have := Option.some.inj hr1
      exact ⟨(Prod.mk.inj this).1, (Prod.mk.inj (Prod.mk.inj this).2).1, (Prod.mk.inj (Prod.mk.inj this).2).2⟩
    obtain ⟨aa, ma', la', hua, haa, hra'⟩ := fld_at (K := K) hus ha
    rw [hra] at hra'
    obtain ⟨rfl, rfl, rfl⟩ : ma = ma' ∧ la = la' ∧ da = dep (fl 0 t) a := by
      have := Option.some.inj hra'
      exact ⟨(Prod.mk.inj this).1, (Prod.mk.inj (Prod.mk.inj this).2).1, (Prod.mk.inj (Prod.mk.inj this).2).2⟩
    refine ⟨G6, (b, o3) :: M, D, fl 0 t, a, rfl, S7, hD.same s36, by omega, ha, fun e2 L G8 H8 he2 s8 hL S8 => ?_⟩
    obtain ⟨hj1, hj2⟩ := hj e2 he2
    refine ⟨.inl ⟨rfl, _, SqL.of (S8.st hL)⟩, L, _, .int (n : Nat), j, .int (n : Nat), rfl, rfl, SqL.of (S8.st hL), rfl, ?_, by rw [List.getElem?_map, hj1]; rfl, ?_, fun i z' hi hz => ?_, ?_⟩
    · rw [List.all_eq_true]
      intro x hx
      obtain ⟨_, _, rfl⟩ := List.mem_map.mp hx
      rfl
    · show decide (((n : Nat) : Int) = n) = true
      exact decide_eq_true rfl
    · rw [List.getElem?_map] at hz
      obtain ⟨i', hi', rfl⟩ := Option.map_eq_some_iff.mp hz
      show decide (((i' : Nat) : Int) = n) = false
      refine decide_eq_false fun h => hj2 i hi ?_
      rw [hi']
      exact congrArg some (Int.ofNat.inj h)
    have s38 := s36.trans s8
    have hDl8 := s38 _ _ hDl
    have hak8 := s38 _ _ hak
    have haa8 := s38 _ _ haa
    refine ⟨_, _, .inl (SqL.of (S8.st hDl8)), atI_nat huk, _, _, .inr (SqT.of (S8.st hak8)), atI_nat (j := 0) rfl, sz, fun x1 q1 => ?_⟩
    obtain ⟨G9, s9, S9, k9⟩ := Sep.mk (o := .tup [.str "drop", .str mk]) S8 q1
    refine ⟨_, _, .inl (SqL.of (S9.st (s9 _ _ hDl8))), atI_nat hua, _, _, .inr (SqT.of (S9.st (s9 _ _ haa8))), atI_nat (j := 0) rfl, ?_⟩
    refine ⟨_, _, .inl (SqL.of (S9.st (s9 _ _ hDl8))), atI_nat huk, _, _, .inr (SqT.of (S9.st (s9 _ _ hak8))), atI_nat (j := 1) rfl, sz, fun x2 q2 => ?_⟩
    obtain ⟨G10, s10, S10, k10⟩ := Sep.mk (o := .tup []) S9 q2
    refine ⟨sz, fun x3 q3 => ?_⟩
    obtain ⟨G11, s11, S11, k11⟩ := Sep.mk (o := .tup [.str m', .str lk, .ref x2]) S10 q3
    refine ⟨sz, fun x4 q4 => ?_⟩
    obtain ⟨G12, s12, S12, k12⟩ := Sep.mk (o := .tup [.str "put", .str ma, .int (j : Nat), .ref x3]) S11 q4
    refine ⟨sz, fun X mX => ?_⟩
    obtain ⟨G13, s13, S13, k13⟩ := Sep.mk (o := .lst [.ref x1, .ref x4]) S12 mX
    have s912 := s10.trans (s11.trans s12)
    have s813 := s9.trans (s912.trans s13)
    refine ⟨_, rfl, D, us, rfl, SqL.of (S13.st (s813 _ _ hDl8)), fun u1 mu1 => ?_⟩
    rw [cutV_to us n (by omega)]
    obtain ⟨G14, s14, S14, k14⟩ := Sep.mk (o := .lst (us.take n)) S13 mu1
    have s814 := s813.trans s14
    refine ⟨_, _, .inl (SqL.of (S14.st (s814 _ _ hDl8))), atI_nat huk, _, _, .inr (SqT.of (S14.st (s814 _ _ hak8))), atI_nat (j := 1) rfl, _, _, .inl (SqL.of (S14.st (s814 _ _ hDl8))), atI_nat huk, _, _, .inr (SqT.of (S14.st (s814 _ _ hak8))), atI_nat (j := 2) rfl, sz, fun y my => ?_⟩
    obtain ⟨G15, s15, S15, k15⟩ := Sep.mk (o := .tup [.str m', .str lk, .int (dep (fl 0 t) n : Nat)]) S14 my
    refine ⟨sz, fun u2 mu2 => ?_⟩
    obtain ⟨G16, s16, S16, k16⟩ := Sep.mk (o := .lst [.ref y]) S15 mu2
    refine ⟨u1, u2, _, _, rfl, rfl, S16.st ((s15.trans s16) _ _ k14), S16.st k16, by rw [List.length_take, sizeLine_eq]; simp only [List.length_singleton]; omega, fun u3 mu3 => ?_⟩
    obtain ⟨G17, s17, S17, k17⟩ := Sep.mk (o := .lst (us.take n ++ [.ref y])) S16 mu3
    have s817 := s814.trans (s15.trans (s16.trans s17))
    have s317 := s38.trans s817
    refine ⟨G17, D, fl 0 t, n, rfl, S17.1, hD.same s317, by omega, hk, fun e3 he3 => ⟨_, rfl, D, us, rfl, SqL.of (S17.st (s817 _ _ hDl8)), fun u4 mu4 => ?_⟩⟩
    obtain rfl := end_uniq he he3
    have ele := he.le
    rw [cutV_from us e (by omega)]
    obtain ⟨G18, s18, S18, k18⟩ := Sep.mk (o := .lst (us.drop e)) S17 mu4
    refine ⟨u3, u4, _, _, rfl, rfl, S18.st (s18 _ _ k17), S18.st k18, by rw [List.length_append, List.length_take, List.length_drop, sizeLine_eq]; simp only [List.length_singleton]; omega, fun D' mD => ?_⟩
    obtain ⟨G19, s19, S19, k19⟩ := Sep.mk (o := .lst ((us.take n ++ [.ref y]) ++ us.drop e)) S18 mD
    refine ⟨sz, fun r mr => ?_⟩
    obtain ⟨G20, s20, S20, k20⟩ := Sep.mk (o := .tup [.ref X, .ref D']) S19 mr
    have s1720 := s18.trans (s19.trans s20)
    have s1520 := s16.trans (s17.trans s1720)
    have s1320 := s14.trans (s15.trans s1520)
    have s1220 := s13.trans s1320
    have s1120 := s12.trans s1220
    have s1020 := s11.trans s1120
    have s920 := s10.trans s1020
    have st := s317.trans s1720
    refine q r _ _ o3 G20 _ st ⟨X, D', _, k20, s1320 _ _ k13, .cons (.tup (SqT.of (s920 _ _ k9)) (.cons (.str _) (.cons (.str _) .nil))) (.cons (.tup (SqT.of (s1220 _ _ k12)) (.cons (.str _) (.cons (.str _) (.cons (.int _) (.cons (.tup (SqT.of (s1120 _ _ k11)) (.cons (.str _) (.cons (.str _) (.cons (.tup (SqT.of (s1020 _ _ k10)) .nil) .nil)))) .nil))))) .nil), by simp, rw2, _, s20 _ _ k19, ?_⟩ (B3.same (s8.trans (s817.trans s1720))) S20
    rw [← hfl]
    have z1 := prd_app (prd_app (prd_imp (fun _ _ => FlAt.same st) (prd_take hus n)) (Paired.cons (show FlAt G20 (.ref y) (m', lk, dep (fl 0 t) n) from ⟨y, rfl, s1520 _ _ k15⟩) .nil)) (prd_imp (fun _ _ => FlAt.same st) (prd_drop hus e))
    rw [List.append_assoc, List.append_assoc] at z1
    rw [List.append_assoc]
    exact z1

end
end K19
set_option Elab.async false
set_option linter.all false
set_option maxRecDepth 100000
set_option maxHeartbeats 4000000
namespace K19
open PySem PySem.Spec PyProof.Rows L2 XL
section
variable {P : Program} {w : World} {K : PySem.W.Frag} {mg : Str → Option Value} {base : Heap}
/-! ### led on -/
theorem lc_enumT {K : PySem.W.Frag} {a : Addr} {xs : List V} {tt : TT} {te : TE} {vs : List Nat} {σ : L2.St} {H1 : Hp} {D : Addr} {Qd : Hp → Prop} {i0 j0 : Nat} (Pv : Nat → Hp → Prop) (h0 : Pv 0 (upd H1 D (.lst []))) (hl : ∀ i H, i ≤ xs.length → Pv i H → SqT K H a xs)
    (hs : ∀ (i : Nat) x H T, xs[i]? = some x → Pv i H → H T = none → wipe (((wipe σ vs).set i0 (some (.int (i : Nat)))).set j0 (some x)) vs = wipe σ vs ∧ tt (((wipe σ vs).set i0 (some (.int (i : Nat)))).set j0 (some x)) (upd H T (.tup [.int (i : Nat), x])) fun b H3 =>
      if b = true then te (((wipe σ vs).set i0 (some (.int (i : Nat)))).set j0 (some x)) H3 fun y H4 => ∃ acc, H4 D = some (.lst acc) ∧ acc.length < sizeLine ∧ Pv (i + 1) (upd H4 D (.lst (acc ++ [y]))) else Pv (i + 1) H3) (hd : ∀ H, Pv xs.length H → Qd H) :
    ∃ W : Nat → Nat → Hp → Prop, (∃ m, W 0 m (upd H1 D (.lst []))) ∧ ∀ i m H, W i m H →
      ((IteT K a).stop i H ∧ Qd H) ∨ ((IteT K a).go i H ∧ ∃ Nx : Hp → Prop, (∀ H', Nx H' → ∃ m', m' < m ∧ W (i + 1) m' H') ∧ ∀ x H', (IteT K a).yld i H x H' → gTup K 2 (gCons (gName i0) (gCons (gName j0) gNil)) x (wipe σ vs) H' fun σ2 H2 => wipe σ2 vs = wipe σ vs ∧ tt σ2 H2 fun b H3 =>
        if b = true then te σ2 H3 fun y H4 => ∃ acc, H4 D = some (.lst acc) ∧ acc.length < sizeLine ∧ Nx (upd H4 D (.lst (acc ++ [y]))) else Nx H3) := by
  refine ⟨fun i m H => m = xs.length - i ∧ i ≤ xs.length ∧ Pv i H, ⟨xs.length, by simp, Nat.zero_le _, h0⟩, ?_⟩
  rintro i m H ⟨rfl, hi, p⟩
  have q := hl i H hi p
  by_cases hlt : i < xs.length
  · refine .inr ⟨⟨xs, xs[i], q, by simp [hlt]⟩, Pv (i + 1), fun H' p' => ⟨xs.length - (i + 1), by omega, rfl, hlt, p'⟩, fun v H' y => ?_⟩
    obtain ⟨T, x, rfl, nT, rfl, hx⟩ := y
    refine ⟨T, _, rfl, SqT.of upd_same, rfl, _, _, rfl, _, _, rfl, rfl, ?_⟩
    exact hs i x H T (hx xs q) p nT
  · have e : i = xs.length := by omega
    subst e
    exact .inl ⟨⟨xs, q, Nat.le_refl _⟩, hd H p⟩
theorem putsK_get (m : Str) : ∀ (cs : List Tr) (j i : Nat), (putsK m j cs)[i]? = (cs[i]?).map fun c => Pt.put m (j + i) c
  | [], _, _ => rfl
  | c :: r, j, 0 => rfl
  | c :: r, j, i + 1 => by
    show (putsK m (j + 1) r)[i]? = (r[i]?).map _
    rw [putsK_get m r (j + 1) i, show j + 1 + i = j + (i + 1) by omega]
theorem putsK_len (m : Str) : ∀ (cs : List Tr) (j : Nat), (putsK m j cs).length = cs.length
  | [], _ => rfl
  | c :: r, j => by simp only [putsK, List.length_cons, putsK_len m r]
theorem bn0 {t : Tr} {e : Nat} (he : IsEnd (fl 0 t) 0 e) : bnF (fl 0 t) 0 e = kpos 1 (kids t) := by
  have h1 : sub t [] = some t := rfl
  exact bn_at rfl h1 (end_at rfl h1 he)
theorem kid_row {t : Tr} {i j : Nat} (h : (kpos 1 (kids t))[i]? = some j) : ∃ c, (kids t)[i]? = some c ∧ (fl 0 t)[j]? = some (mrk c, lbl c, 1) := by
  have il := (List.getElem?_eq_some_iff.mp h).1
  rw [kpos_len] at il
  obtain ⟨c, hc⟩ : ∃ c, (kids t)[i]? = some c := ⟨_, List.getElem?_eq_getElem il⟩
  have h1 : sub t [] = some t := rfl
  have h2 := (sub_snc i h1).trans hc
  have rr := row_at h2
  have ll := congrArg List.length (lft_snoc (d := 0) h1 hc)
  rw [List.length_append, List.length_cons, fls_len] at ll
  have ll : (lft 0 t ([] ++ [i])).length = 0 + ((pres ((kids t).take i)).length + 1) := ll
  rw [kpos_get _ _ _ il] at h
  have e := Option.some.inj h
  refine ⟨c, hc, ?_⟩
  rw [ll] at rr
  rw [show j = 0 + ((pres ((kids t).take i)).length + 1) by omega]
  exact rr
theorem runs_mrk : ∀ (ps : List Pt) (t : Tr), mrk (runs ps t) = mrk t
  | [], _ => rfl
  | p :: r, t => (runs_mrk r (aft p t)).trans (aft_mrk p t)
theorem Rw.mk0 {N : List Str} {ps : List Pt} {t u : Tr} (h : Rw N ps t u) : mrk u = mrk t := by rw [← h.ru]; exact runs_mrk ps t
def spOnw (K : PySem.W.Frag) : Sp := fun vs H Q _ => ∃ (G : Hp) (M : List (Addr × HO)) (b : Addr) (o : HO) (D : Addr) (t : Tr) (N : List Str) (l : Addr), vs = [.ref b, .ref D, .ref l] ∧ Sep G ((b, o) :: M) H ∧ Bag G o ∧ FlD G D (fl 0 t) ∧ Wl N t ∧ some (mrk t) = N[0]? ∧ PlAt G l N ∧
  ∀ (r : Addr) (ps : List Pt) (u : Tr) (o' : HO) (G' H' : Hp), Same G G' → OnAt K G' N t r ps u → Bag G' o' → Sep G' ((b, o') :: M) H' → Q (.ref r) H'
theorem ok_onward (T : Top K mg w) {k : Nat} (G_pick : FnOk P w K mg base CX0 k T.a_pick T.d_pick ["_law_bag_here", "_law_many"] spPick) (G_choice : FnOk P w K mg base CX0 k T.a_choice T.d_choice ["_law_bag_here", "_law_things"] (spChoice K)) (G_fresh : FnOk P w K mg base CX0 k T.a_fresh T.d_fresh ["_law_bag_here", "_law_pool"] (spFresh K)) (G_beneath : FnOk P w K mg base CX0 k T.a_beneath T.d_beneath ["_law_flat_here", "_law_k"] spBn) (G_grown : FnOk P w K mg base CX0 k T.a_grown T.d_grown ["_law_flat_here"] (spGrown K)) (G_renewed : FnOk P w K mg base CX0 k T.a_renewed T.d_renewed ["_law_bag_here", "_law_flat_here", "_law_pool"] (spRenew K)) (G_moved : FnOk P w K mg base CX0 k T.a_moved T.d_moved ["_law_bag_here", "_law_flat_here", "_law_k"] (spMoved K)) (G_edited : FnOk P w K mg base CX0 k T.a_edited T.d_edited ["_law_bag_here", "_law_flat_here", "_law_pool"] (spEdited K)) :
    FnOk P w K mg base CX0 (k + 1) T.a_onward T.d_onward ["_law_bag_here", "_law_flat_here", "_law_pool"] (spOnw K) := by
  refine T.F_onward.ok sc_onward (fun vs H Q E h => ?_) (fun cdv A outer s H vs Q E hr h => ?_)
  · obtain ⟨G, M, b, o, D, t, N, l, rfl, _⟩ := h
    rfl
  · obtain ⟨G, M, b, o, D, t, N, l, rfl, S, B, hD, wl, h0, hl, q⟩ := h
    refine ⟨_, (pss_cons (ps_set (i := 3) sc_onward.nd rfl (.inl rfl) (pe_call G_pick (hr.mono (by omega)) (by rfl) T.g_pick T.F_pick.kp T.b_pick .nil pass0 (pa_cons (xv 0) (pa_cons pe_int pa_nil))))
      (pss_cons (ps_set (i := 4) sc_onward.nd rfl (.inl rfl) (pe_lst pa_nil))
      (pss_cons (xs_if (xt_cmp (op_eqLK K hr.u190) (xv 3) pe_int (nomark _))
      (pss_cons (ps_set (i := 5) sc_onward.nd rfl (.inl rfl) (pe_call G_fresh (hr.mono (by omega)) (by rfl) T.g_fresh T.F_fresh.kp T.b_fresh .nil pass0 (pa_cons (xv 0) (pa_cons (xv 2) pa_nil))))
      (pss_cons (ps_set (i := 4) sc_onward.nd rfl (.inl rfl) (pe_op op_cat (pe_lc (own := [("_law_k", 8)]) (by rfl) sc_onward.nd (pi_listK K (pe_call G_beneath (hr.mono (by omega)) (by rfl) T.g_beneath T.F_beneath.kp T.b_beneath .nil pass0 (pa_cons (xv 1) (pa_cons pe_int pa_nil)))) (blkOk_by (N := ["_law_bag_here", "_law_flat_here", "_law_pool", "_law_way", "_law_rows", "_law_after", "_law_step", "_law_patch", "_law_k", "_law_at", "_law_child"]) (sc := defScope s_onward) (by decide +kernel)) (fun _ _ _ _ _ => (pg_name (i := 8) sc_onward.nd rfl (.inl rfl))) (fun _ _ _ _ _ => pts_nil) (fun _ _ _ _ _ => (pe_tup (pa_cons pe_str (pa_cons (pe_ix (ix_k K) (pe_ix (ix_k K) (xv 1) (xv 8) (fun _ _ => rfl)) pe_int (fun _ _ => rfl)) pa_nil))))) (pe_lst (pa_cons (pe_tup (pa_cons pe_str (pa_cons (pe_ix (ix_k K) (xv 2) pe_int (fun _ _ => rfl)) (pa_cons (pe_ix (ix_k K) (pe_ix (ix_k K) (xv 5) pe_int (fun _ _ => rfl)) pe_int (fun _ _ => rfl)) pa_nil)))) pa_nil))))
      (pss_cons (ps_expr (pe_bmK K PySem.F.plainAttrs_list PySem.F.slot_list_extend PySem.F.type_list_extend mt_extend (xv 4) (pa_cons (pe_lc (own := [("_law_at", 9), ("_law_child", 10)]) (by rfl) sc_onward.nd (pi_enumT (by rfl) T.m_enumerate (pa_cons (pe_ix (ix_k K) (pe_call G_grown (hr.mono (by omega)) (by rfl) T.g_grown T.F_grown.kp T.b_grown .nil pass0 (pa_cons (xv 5) pa_nil)) pe_int (fun _ _ => rfl)) pa_nil)) (blkOk_by (N := ["_law_bag_here", "_law_flat_here", "_law_pool", "_law_way", "_law_rows", "_law_after", "_law_step", "_law_patch", "_law_k", "_law_at", "_law_child"]) (sc := defScope s_onward) (by decide +kernel)) (fun _ _ _ _ _ => (pg_tupK K 2 (pgs_cons (pg_name (i := 9) sc_onward.nd rfl (.inl rfl)) (pgs_cons (pg_name (i := 10) sc_onward.nd rfl (.inl rfl)) pgs_nil)))) (fun _ _ _ _ _ => pts_nil) (fun _ _ _ _ _ => (pe_tup (pa_cons pe_str (pa_cons (pe_ix (ix_k K) (xv 2) pe_int (fun _ _ => rfl)) (pa_cons (xv 9) (pa_cons (xv 10) pa_nil))))))) pa_nil)))
      (pss_one (ps_ret (pe_tup (pa_cons (xv 4) (pa_cons (xv 5) pa_nil))))))))
      pss_nil)
      (xss_cut (xs_if (PW.pt (xw_and (xt_cmp (op_eqLK K hr.u190) (xv 3) pe_int (nomark _)) (pw_and1 (xt_cmp op_gtY (pe_callB (cr_lenK K) (by rfl) T.m_len (by decide +kernel) (pa_cons (xv 1) pa_nil)) pe_int (nomark _)))))
      (pss_one (ps_ret (pe_call G_renewed (hr.mono (by omega)) (by rfl) T.g_renewed T.F_renewed.kp T.b_renewed .nil pass0 (pa_cons (xv 0) (pa_cons (xv 1) (pa_cons (xv 2) pa_nil))))))
      pss_nil)
      (pss_cons (ps_for PassesOwn.never rfl (pi_range1 (by rfl) T.m_range (pa_cons (pe_call G_choice (hr.mono (by omega)) (by rfl) T.g_choice T.F_choice.kp T.b_choice .nil pass0 (pa_cons (xv 0) (pa_cons (pe_lst (pa_cons pe_int (pa_cons pe_int (pa_cons pe_int (pa_cons pe_int (pa_cons pe_int (pa_cons pe_int pa_nil))))))) pa_nil))) pa_nil)) (pg_name (i := 6) sc_onward.nd rfl (.inl rfl))
      (xss_cut (xs_if (PW.pt (xw_and (xt_cmp (op_eqLK K hr.u190) (xv 3) pe_int (nomark _)) (pw_and1 (xt_cmp op_gtY (pe_callB (cr_lenK K) (by rfl) T.m_len (by decide +kernel) (pa_cons (xv 1) pa_nil)) pe_int (nomark _)))))
      (pss_one (ps_asg (pe_call G_moved (hr.mono (by omega)) (by rfl) T.g_moved T.F_moved.kp T.b_moved .nil pass0 (pa_cons (xv 0) (pa_cons (xv 1) (pa_cons (pe_op op_addY pe_int (pe_call G_pick (hr.mono (by omega)) (by rfl) T.g_pick T.F_pick.kp T.b_pick .nil pass0 (pa_cons (xv 0) (pa_cons (pe_op op_subY (pe_callB (cr_lenK K) (by rfl) T.m_len (by decide +kernel) (pa_cons (xv 1) pa_nil)) pe_int) pa_nil)))) pa_nil)))) (pg_tupK K 2 (pgs_cons (pg_name (i := 7) sc_onward.nd rfl (.inl rfl)) (pgs_cons (pg_name (i := 1) sc_onward.nd rfl (.inr rfl)) pgs_nil)))))
      (pss_one (ps_asg (pe_call G_edited (hr.mono (by omega)) (by rfl) T.g_edited T.F_edited.kp T.b_edited .nil pass0 (pa_cons (xv 0) (pa_cons (xv 1) (pa_cons (xv 2) pa_nil)))) (pg_tupK K 2 (pgs_cons (pg_name (i := 7) sc_onward.nd rfl (.inl rfl)) (pgs_cons (pg_name (i := 1) sc_onward.nd rfl (.inr rfl)) pgs_nil))))))
      (pss_one (ps_expr (pe_bmK K PySem.F.plainAttrs_list PySem.F.slot_list_append PySem.F.type_list_append mt_append (xv 4) (pa_cons (xv 7) pa_nil))))))
      (pss_one (ps_ret (pe_tup (pa_cons (xv 4) (pa_cons (xv 1) pa_nil)))))))))), ?_⟩
    have fl60 := wl.len
    have n60 := hl.2.ln
    refine ⟨G, M, b, o, 6, rfl, S, B, by decide, by decide, fun way o1 H1 w0 w6 B1 S1 => ?_⟩
    refine ⟨sz, fun R nR => ?_⟩
    have SR := S1.new (o := .lst []) nR
    obtain ⟨us, hDl, hus⟩ := id hD
    have ul := prd_len hus
    have f1 : 0 < (fl 0 t).length := by rw [fl_eq]; simp
    refine ⟨fun e0 => ?_, fun _ => ?_⟩
    · refine ⟨G, M, b, o1, l, N, rfl, SR.drop, B1, hl, fun D2 u o2 G2 H2 s2 hD2 wl2 h02 B2 S2 => ?_⟩
      refine ⟨G2, (b, o2) :: M, D, fl 0 t, 0, rfl, S2, hD.same s2, by omega, f1, fun e L G3 H3 he s3 hL S3 => ?_⟩
      rw [bn0 he] at hL
      have s23 := s2.trans s3
      have hDl3 := s23 _ _ hDl
      refine ⟨L, rfl, ⟨_, SqL.of (S3.st hL)⟩, fun O nO => lc_list (xs := (kpos 1 (kids t)).map fun j => V.int (j : Nat)) (fun i H' => ∃ G' xs, Same G3 G' ∧ DpAll K G' xs (((dropsK (kids t)).take i).map ptD) ∧ Sep G' ((O, .lst xs) :: (b, o2) :: M) H') ⟨G3, [], Same.refl _, .nil, S3.new nO⟩ (fun i H' _ ⟨G', xs, s', _, p⟩ => SqL.of (p.st (s' _ _ hL))) (fun i x H' hx ⟨G', xs, s', hd, p⟩ => ⟨rfl, ?_⟩) (fun H4 p => ?_)⟩
      · rw [List.getElem?_map] at hx
        obtain ⟨j, hj, rfl⟩ := Option.map_eq_some_iff.mp hx
        obtain ⟨c, hc, hr⟩ := kid_row hj
        have jl := (List.getElem?_eq_some_iff.mp hr).1
        obtain ⟨aj, mj, lj, huj, haj, hr'⟩ := fld_at (K := K) hus jl
        rw [hr] at hr'
        have em := (Prod.mk.inj (Option.some.inj hr')).1
        subst em
        have dl := dpa_len hd
        refine ⟨_, _, .inl (SqL.of (p.st (s' _ _ hDl3))), atI_nat huj, _, _, .inr (SqT.of (p.st (s' _ _ (s23 _ _ haj)))), atI_nat (j := 0) rfl, sz, fun y my => ?_⟩
        obtain ⟨G5, s5, S5, k5⟩ := Sep.mk (o := .tup [.str "drop", .str (mrk c)]) p my
        have kl : (kids t).length ≤ (fl 0 t).length := by
          rw [fl_eq, List.length_cons, fls_len]
          have := many_le (kids t)
          omega
        refine ⟨_, S5.hd, ?_, G5, xs ++ [.ref y], s'.trans s5, ?_, S5.set⟩
        · rw [dl, List.length_map, List.length_take]
          unfold dropsK
          rw [List.length_map]
          exact smallL (by omega)
        · have hdk : (dropsK (kids t))[i]? = some (.drop (mrk c)) := by
            unfold dropsK
            rw [List.getElem?_map, hc]
            rfl
          rw [take_snoc hdk, List.map_append]
          exact dpa_app (dpa_same s5 hd) (dpa_one (.tup (SqT.of k5) (.cons (.str _) (.cons (.str _) .nil))))
      obtain ⟨G4, xs, s4, hd, S4⟩ := p
      have s24 := s23.trans s4
      have lN0 : (N.map V.str)[0]? = some (.str (mrk t)) := by rw [List.getElem?_map, ← h0]; rfl
      have em : mrk t = mrk u := Option.some.inj (h0.trans h02.symm)
      obtain ⟨us2, hDl2, hus2⟩ := id hD2
      have u1 : 0 < (fl 0 u).length := by rw [fl_eq]; simp
      obtain ⟨a0, m0, l0, hu0, ha0, hr0⟩ := fld_at (K := K) hus2 u1
      have el0 : lbl u = l0 := by
        rw [fl_eq] at hr0
        exact (Prod.mk.inj (Prod.mk.inj (Option.some.inj hr0)).2).1
      subst el0
      have s34 := s3.trans s4
      obtain ⟨G5, s5, S5, kO⟩ := Sep.keep S4
      have s35 := s34.trans s5
      have s25 := s2.trans s35
      refine ⟨_, _, .inl (SqL.of (S5.st (s25 _ _ hl.1))), atI_nat (j := 0) lN0, _, _, .inl (SqL.of (S5.st (s35 _ _ hDl2))), atI_nat (j := 0) hu0, _, _, .inr (SqT.of (S5.st (s35 _ _ ha0))), atI_nat (j := 1) rfl, sz, fun y6 m6 => ?_⟩
      obtain ⟨G6, s6, S6, k6⟩ := Sep.mk (o := .tup [.str "say", .str (mrk t), .str (lbl u)]) S5 m6
      refine ⟨sz, fun y7 m7 => ?_⟩
      obtain ⟨G7, s7, S7, k7⟩ := Sep.mk (o := .lst [.ref y6]) S6 m7
      have kl : (kids t).length ≤ 60 := by
        have := many_le (kids t)
        have e := fl60
        rw [fl_eq, List.length_cons, fls_len] at e
        omega
      have ku : (kids u).length ≤ 60 := by
        have := many_le (kids u)
        have e := wl2.len
        rw [fl_eq, List.length_cons, fls_len] at e
        omega
      have dk : (dropsK (kids t)).length = (kids t).length := by unfold dropsK; rw [List.length_map]
      rw [List.length_map (as := kpos 1 (kids t)), kpos_len, ← dk, List.take_length] at hd
      have dl := dpa_len hd
      rw [List.length_map, dk] at dl
      refine ⟨O, y7, _, _, rfl, rfl, S7.st ((s6.trans s7) _ _ kO), S7.st k7, by rw [dl, sizeLine_eq]; simp only [List.length_singleton]; omega, fun R2 nR2 => ?_⟩
      have S8 := S7.new (o := .lst (xs ++ [.ref y6])) nR2
      have s57 := s6.trans s7
      have s37 := s35.trans s57
      have s27 := s2.trans s37
      refine ⟨.inl ⟨rfl, _, SqL.of S8.hd⟩, G7, _, D2, us2, fl 0 u, rfl, S8, s37 _ _ hDl2, prd_imp (fun _ _ => FlAt.same s37) hus2, fl_flok u, by have := wl2.len; omega, fun v t' G9 H9 s9 hv et S9 => ?_⟩
      obtain rfl := fl_inj et
      obtain ⟨av, kv, ks, rfl, qv, qk, hks⟩ := node_at hv
      have kln := dpa_len hks
      rw [List.length_map] at kln
      refine ⟨_, _, .inr (S9.t qv), atI_nat (j := 2) rfl, kv, ks, rfl, S9.t qk, fun Z nZ => lc_enumT (xs := ks) (fun i H' => ∃ G' zs, Same G9 G' ∧ DpAll K G' zs (((putsK (mrk t) 0 (kids t')).take i).map ptD) ∧ Sep G' ((Z, .lst zs) :: (R2, .lst (xs ++ [.ref y6])) :: (b, o2) :: M) H') ⟨G9, [], Same.refl _, .nil, S9.new nZ⟩ (fun i H' _ ⟨G', zs, s', _, p⟩ => p.t (same_t s' qk)) (fun i x H' T hx ⟨G', zs, s', hd', p⟩ nT => ⟨rfl, ?_⟩) (fun H10 p => ?_)⟩
      · have dl' := dpa_len hd'
        obtain ⟨d, hd1, hd2⟩ := dpa_get hks hx
        rw [List.getElem?_map] at hd1
        obtain ⟨c, hc, rfl⟩ := Option.map_eq_some_iff.mp hd1
        have sT := p.grow (o := .tup [.int (i : Nat), x]) nT
        have pT := p.newG (o := .tup [.int (i : Nat), x]) nT
        have s2' := s27.trans (s9.trans (s'.trans sT))
        refine ⟨_, _, .inl (SqL.of (pT.st (s2' _ _ hl.1))), atI_nat (j := 0) lN0, sz, fun y my => ?_⟩
        obtain ⟨G11, s11, S11, k11⟩ := Sep.mk (o := .tup [.str "put", .str (mrk t), .int (i : Nat), x]) pT my
        have st' := sT.trans s11
        refine ⟨_, S11.hd, ?_, G11, zs ++ [.ref y], s'.trans st', ?_, S11.set⟩
        · rw [dl', List.length_map, List.length_take, putsK_len]
          exact smallL (by omega)
        · have hpk : (putsK (mrk t) 0 (kids t'))[i]? = some (.put (mrk t) i c) := by
            rw [putsK_get, hc, Nat.zero_add]
            rfl
          rw [take_snoc hpk, List.map_append]
          exact dpa_app (dpa_same st' hd') (dpa_one (.tup (SqT.of k11) (.cons (.str _) (.cons (.str _) (.cons (.int _) (.cons (dp_same (s'.trans st') hd2) .nil))))))
      obtain ⟨G10, zs, s10, hz, S10⟩ := p
      rw [kln, ← putsK_len (mrk t) (kids t') 0, List.take_length] at hz
      have zl := dpa_len hz
      rw [List.length_map, putsK_len] at zl
      have S11 := S10.sw
      refine ⟨R2, Z, _, _, rfl, rfl, S11.hd, S10.hd, by rw [List.length_append, dl, zl, sizeLine_eq]; simp only [List.length_singleton]; omega, ?_⟩
      have S12 := (S11.set (o' := .lst ((xs ++ [.ref y6]) ++ zs))).sw.drop
      obtain ⟨G13, s13, S13, k13⟩ := Sep.keep S12
      refine ⟨sz, fun r mr => ?_⟩
      obtain ⟨G14, s14, S14, k14⟩ := Sep.mk (o := .tup [.ref R2, .ref D2]) S13 mr
      have s1014 := s13.trans s14
      have s714 := s9.trans (s10.trans s1014)
      have s514 := s57.trans s714
      have s414 := s5.trans s514
      have s314 := s4.trans s414
      have rw3 := rw_anew n60 wl wl2 em
      refine q r _ _ o2 G14 _ (s2.trans (s3.trans s314)) ⟨R2, D2, _, k14, s14 _ _ k13, ?_, ?_, rw3, hD2.same (s3.trans s314)⟩ (B2.same (s3.trans s314)) S14
      · have a1 := dpa_same s414 hd
        have a2 : DpAll K G14 [.ref y6] ([Pt.say (mrk t) (lbl t')].map ptD) := dpa_one (.tup (SqT.of ((s7.trans s714) _ _ k6)) (.cons (.str _) (.cons (.str _) (.cons (.str _) .nil))))
        have a3 := dpa_same s1014 hz
        have a4 := dpa_app a1 (dpa_app a2 a3)
        rw [← List.map_append, ← List.map_append, ← List.append_assoc] at a4
        exact a4
      · rw [List.length_append, List.length_append, dk, putsK_len]
        simp only [List.length_singleton]
        omega
    generalize upd H1 R (.lst []) = HR at SR
    refine ⟨fun σ H' => σ = [some (.ref b), some (.ref D), some (.ref l), some (.int way), some (.ref R), none, none, none, none, none, none] ∧ HR = H', ⟨fun e0 => ⟨_, .inl (SqL.of (SR.st hDl)), fun e1 => ?_, fun _ => ⟨rfl, rfl⟩⟩, fun _ => ⟨ff, fun _ => ⟨rfl, rfl⟩⟩⟩, fun σ H' h => ?_⟩
    · have e1 := of_decide_eq_true e1
      exact ⟨G, M, b, o1, D, t, N, l, rfl, SR.drop, B1, hD, wl, hl, by omega, fun r ps u o' G' H' s' on B' S' => q r ps u o' G' H' s' on B' S'⟩
    obtain ⟨rfl, rfl⟩ := h
    refine ⟨sz, fun t6 m6 => ?_⟩
    obtain ⟨G2, s2, S2, k2⟩ := Sep.mk (o := .lst [.int 0, .int 1, .int 1, .int 2, .int 3, .int 5]) SR m6
    refine ⟨G2, (R, .lst []) :: M, b, o1, t6, _, rfl, S2.sw, B1.same s2, SqL.of k2, by decide, by decide, fun v o3 H3 hv B3 S3 => ?_⟩
    obtain ⟨c, rfl, c5⟩ : ∃ c : Nat, v = .int (c : Nat) ∧ c ≤ 5 := by
      simp only [List.mem_cons, List.not_mem_nil, or_false] at hv
      rcases hv with rfl | rfl | rfl | rfl | rfl | rfl
      · exact ⟨0, rfl, by decide⟩
      · exact ⟨1, rfl, by decide⟩
      · exact ⟨1, rfl, by decide⟩
      · exact ⟨2, rfl, by decide⟩
      · exact ⟨3, rfl, by decide⟩
      · exact ⟨5, rfl, by decide⟩
    refine ⟨((c : Nat) : Int), rfl, by omega, by omega, for_range (lo := 0) (n := ((c : Nat) : Int).toNat) (fun i σ H' => ∃ (D' : Addr) (y6 y7 : Option V) (G' : Hp) (o' : HO) (xs : List V) (ps : List Pt) (u : Tr), σ = [some (.ref b), some (.ref D'), some (.ref l), some (.int way), some (.ref R), none, y6, y7, none, none, none] ∧ Same G G' ∧ DpAll K G' xs (ps.map ptD) ∧ ps.length ≤ i ∧ Rw N ps t u ∧ FlD G' D' (fl 0 u) ∧ Bag G' o' ∧ Sep G' ((R, .lst xs) :: (b, o') :: M) H')
      ⟨D, _, _, G2, o3, [], [], t, rfl, s2, .nil, Nat.zero_le _, .nil wl n60, hD.same s2, B3, S3.sw⟩ (fun i σ H' hi p => ?_) (fun σ H' p => ?_)⟩
    · obtain ⟨D', y6, y7, G', o', xs, ps, u, rfl, s', hps, pl, rw1, hD', B', S'⟩ := p
      have hi : i < c := by have := Int.toNat_natCast c; omega
      have wlu := rw1.wl
      have fu60 := wlu.len
      obtain ⟨us', hDl', hus'⟩ := id hD'
      have ul' := prd_len hus'
      have xl := dpa_len hps
      rw [List.length_map] at xl
      refine ⟨fun σ H' => ∃ (x D2 : Addr) (y6 : Option V) (G' : Hp) (o' : HO) (p : Pt), σ = [some (.ref b), some (.ref D2), some (.ref l), some (.int way), some (.ref R), none, y6, some (.ref x), none, none, none] ∧ Same G G' ∧ DpAll K G' xs (ps.map ptD) ∧ Dp K G' (.ref x) (ptD p) ∧ Fits p u ∧ Wl N (aft p u) ∧ FlD G' D2 (fl 0 (aft p u)) ∧ Bag G' o' ∧ Sep G' ((R, .lst xs) :: (b, o') :: M) H',
        ⟨fun e0 => ⟨_, .inl (SqL.of (S'.st hDl')), fun e1 => ?_, fun _ => ?_⟩, fun _ => ⟨ff, fun _ => ?_⟩⟩, fun σ H2 h => ?_⟩
      · have e1 := of_decide_eq_true e1
        refine ⟨_, .inl (SqL.of (S'.st hDl')), G', (R, .lst xs) :: M, b, o', _, rfl, S'.sw, B', by omega, by omega, fun r2 o2 H2 r20 r21 B2 S2 => ?_⟩
        obtain ⟨n1, rfl⟩ := Int.eq_ofNat_of_zero_le r20
        have e1n : (1 : Int) + ((n1 : Nat) : Int) = ((1 + n1 : Nat) : Int) := by omega
        refine yAdd_at e1n ?_
        refine ⟨G', (R, .lst xs) :: M, b, o2, D', u, 1 + n1, N, rfl, S2, B2, hD', wlu, hl.2, by omega, by omega, fun r x D2 p o4 G4 H4 s4 hr hx fit wl' hD2 B4 S4 => ?_⟩
        exact ⟨r, _, rfl, SqT.of (S4.st hr), rfl, _, _, rfl, _, _, rfl, rfl, x, D2, _, G4, o4, p, rfl, s'.trans s4, dpa_same s4 hps, hx, fit, wl', hD2, B4, S4.sw⟩
      · refine ⟨G', (R, .lst xs) :: M, b, o', D', u, N, l, rfl, S'.sw, B', hD', wlu, hl.same s', fun r x D2 p o4 G4 H4 s4 hr hx fit wl' hD2 B4 S4 => ?_⟩
        exact ⟨r, _, rfl, SqT.of (S4.st hr), rfl, _, _, rfl, _, _, rfl, rfl, x, D2, _, G4, o4, p, rfl, s'.trans s4, dpa_same s4 hps, hx, fit, wl', hD2, B4, S4.sw⟩
      · refine ⟨G', (R, .lst xs) :: M, b, o', D', u, N, l, rfl, S'.sw, B', hD', wlu, hl.same s', fun r x D2 p o4 G4 H4 s4 hr hx fit wl' hD2 B4 S4 => ?_⟩
        exact ⟨r, _, rfl, SqT.of (S4.st hr), rfl, _, _, rfl, _, _, rfl, rfl, x, D2, _, G4, o4, p, rfl, s'.trans s4, dpa_same s4 hps, hx, fit, wl', hD2, B4, S4.sw⟩
      · obtain ⟨x, D2, y6', G4, o4, p, rfl, s4, hps4, hx, fit, wl', hD2, B4, S4⟩ := h
        refine ⟨.inl ⟨rfl, _, SqL.of S4.hd⟩, R, _, _, rfl, rfl, S4.hd, by rw [xl, sizeLine_eq]; omega, ?_⟩
        refine ⟨D2, _, _, G4, o4, xs ++ [.ref x], ps ++ [p], aft p u, rfl, s4, ?_, by rw [List.length_append, List.length_singleton]; omega, rw1.snoc n60 fit wl', hD2, B4, S4.set⟩
        rw [List.map_append]
        exact dpa_app hps4 (dpa_one hx)
    · obtain ⟨D', y6, y7, G', o', xs, ps, u, rfl, s', hps, pl, rw1, hD', B', S'⟩ := p
      have pl : ps.length ≤ 5 := by have := Int.toNat_natCast c; omega
      obtain ⟨G5, s5, S5, k5⟩ := Sep.keep S'
      refine ⟨sz, fun r mr => ?_⟩
      obtain ⟨G6, s6, S6, k6⟩ := Sep.mk (o := .tup [.ref R, .ref D']) S5 mr
      have s56 := s5.trans s6
      exact q r ps u o' G6 _ (s'.trans s56) ⟨R, D', xs, k6, s6 _ _ k5, dpa_same s56 hps, by omega, rw1, hD'.same s56⟩ (B'.same s56) S6

end
end K19
set_option Elab.async false
set_option linter.all false
set_option maxRecDepth 100000
set_option maxHeartbeats 4000000
namespace K19
open PySem PySem.Spec PyProof.Rows L2 XL
section
variable {P : Program} {w : World} {K : PySem.W.Frag} {mg : Str → Option Value} {base : Heap}
/-! ### drawn marks, flat lists -/
theorem num3 : ∀ n : Nat, n < 997 → PySem.intText? ((toString ((n : Nat) : Int) : String) : Str) = some ((n : Nat) : Int) ∧ (Nat.ble 1 ((toString ((n : Nat) : Int) : String) : Str).length && Nat.ble ((toString ((n : Nat) : Int) : String) : Str).length 3 && ((toString ((n : Nat) : Int) : String) : Str).cps.toList.all fun c => decide (c < 128)) = true := by decide +kernel
theorem cop997 : ∀ s : Nat, s < 997 → 0 < s → Nat.gcd 997 s = 1 := by decide +kernel
def nOf (a b : Nat) (k : Nat) : Nat := (a + k * b) % 997
theorem nOf_inj {a b i j : Nat} (hb : b < 997) (hb0 : 0 < b) (hi : i < 997) (hj : j < 997) (h : nOf a b i = nOf a b j) : i = j := by
  have key : ∀ {i j : Nat}, i < 997 → j ≤ i → nOf a b i = nOf a b j → i = j := fun {i j} hi hji h => by
    unfold nOf at h
    have e : a + i * b = (a + j * b) + (i - j) * b := by
      rw [Nat.sub_mul]
      have := Nat.mul_le_mul_right b hji
      omega
    rw [e] at h
    have h2 : 997 ∣ (i - j) * b := by
      refine Nat.dvd_of_mod_eq_zero ?_
      generalize a + j * b = u at *
      generalize (i - j) * b = v at *
      omega
    have h5 : 997 ∣ (i - j) := Nat.Coprime.dvd_of_dvd_mul_right (show Nat.Coprime 997 b from cop997 b hb hb0) h2
    obtain ⟨c, hc⟩ := h5
    cases c with
    | zero => omega
    | succ c => omega
  rcases Nat.le_total j i with h1 | h1
  · exact key hi h1 h
  · exact (key hj h1 h.symm).symm
def mkO (l r : Str) (a b k : Nat) : Str := l ++ ((toString ((nOf a b k : Nat) : Int) : String) : Str) ++ r
theorem nOf_lt (a b k : Nat) : nOf a b k < 997 := Nat.mod_lt _ (by decide)
theorem num_tx3 (a b k : Nat) : Tx 1 3 ((toString ((nOf a b k : Nat) : Int) : String) : Str) := Tx.lit _ (num3 _ (nOf_lt a b k)).2
theorem mkO_inj {l r : Str} {a b i j : Nat} (hb : b < 997) (hb0 : 0 < b) (hi : i < 997) (hj : j < 997) (h : mkO l r a b i = mkO l r a b j) : i = j := by
  have e := congrArg (fun z : Str => z.cps.toList) h
  unfold mkO at e
  simp only [app_tl] at e
  have e2 := List.append_cancel_left (List.append_cancel_right e)
  have e3 : ((toString ((nOf a b i : Nat) : Int) : String) : Str) = ((toString ((nOf a b j : Nat) : Int) : String) : Str) := by
    have : ∀ x y : Str, x.cps.toList = y.cps.toList → x = y := fun x y h => by
      cases x; cases y
      simp at h
      rw [h]
    exact this _ _ e2
  have e4 := (num3 _ (nOf_lt a b i)).1
  rw [e3, (num3 _ (nOf_lt a b j)).1] at e4
  exact nOf_inj (a := a) hb hb0 hi hj (by
    have := Option.some.inj e4
    omega)
theorem nd_map {α β : Type} {f : α → β} : ∀ {l : List α}, (∀ i j, i ∈ l → j ∈ l → f i = f j → i = j) → l.Nodup → (l.map f).Nodup
  | [], _, _ => List.nodup_nil
  | x :: l, h, nd => by
    rw [List.nodup_cons] at nd
    rw [List.map_cons, List.nodup_cons]
    refine ⟨fun hm => ?_, nd_map (fun i j hi hj => h i j (List.mem_cons_of_mem _ hi) (List.mem_cons_of_mem _ hj)) nd.2⟩
    obtain ⟨y, hy, e⟩ := List.mem_map.mp hm
    have := h y x (List.mem_cons_of_mem _ hy) List.mem_cons_self e
    rw [this] at hy
    exact nd.1 hy
theorem lg997 {n : Nat} (h : n < 997) : ((n : Nat) : Int).natAbs.log2 < 1920 := by
  have : ∀ n : Nat, n < 997 → n.log2 < 1920 := by decide +kernel
  exact this n h
theorem num_q : ∀ n : Nat, n < 997 → List.count 39 ((toString ((n : Nat) : Int) : String) : Str).cps.toList = 0 := by decide +kernel
theorem mkO_ne {l r : Str} {a b i j : Nat} : mkO l r a b i ++ ("'" : Str) ≠ mkO l r a b j := fun h => by
  have e := congrArg (fun z : Str => List.count 39 z.cps.toList) h
  unfold mkO at e
  simp only [app_tl, List.count_append, num_q _ (nOf_lt _ _ _)] at e
  have : List.count 39 (("'" : Str)).cps.toList = 1 := by decide +kernel
  rw [this] at e
  omega
def spMarks : Sp := fun vs H Q _ => ∃ (G : Hp) (M : List (Addr × HO)) (b : Addr) (o : HO) (c : Nat), vs = [.ref b, .int (c : Nat)] ∧ Sep G ((b, o) :: M) H ∧ Bag G o ∧ c ≤ 400 ∧
  ∀ (D : Addr) (zs : List Str) (o' : HO) (G' H' : Hp), Same G G' → G' D = some (.lst (zs.map V.str)) → zs.length = c → zs.Nodup → (∀ z ∈ zs, Tx 1 59 z) → (∀ z ∈ zs, ∀ y ∈ zs, z ++ ("'" : Str) ≠ y) → Bag G' o' → Sep G' ((b, o') :: M) H' → Q (.ref D) H'
theorem ok_marks (T : Top K mg w) {k : Nat} (G_pick : FnOk P w K mg base CX0 k T.a_pick T.d_pick ["_law_bag_here", "_law_many"] spPick) (G_text : FnOk P w K mg base CX0 (k + 1) T.a_text T.d_text ["_law_bag_here", "_law_least", "_law_most"] spText) : FnOk P w K mg base CX0 (k + 2) T.a_marks T.d_marks ["_law_bag_here", "_law_count"] spMarks := by
  refine T.F_marks.ok sc_marks (fun vs H Q E h => ?_) (fun cdv A outer s H vs Q E hr h => ?_)
  · obtain ⟨G, M, b, o, c, rfl, _⟩ := h
    rfl
  · obtain ⟨G, M, b, o, c, rfl, S, B, c4, q⟩ := h
    refine ⟨_, (pss_cons (ps_set (i := 2) sc_marks.nd rfl (.inl rfl) (pe_ix (ix_k K) (pe_lst (pa_cons pe_int (pa_cons pe_int (pa_cons pe_int (pa_cons pe_int pa_nil))))) (pe_call G_pick (hr.mono (by omega)) (by rfl) T.g_pick T.F_pick.kp T.b_pick .nil pass0 (pa_cons (xv 0) (pa_cons pe_int pa_nil))) (fun _ _ => rfl)))
      (pss_cons (ps_set (i := 3) sc_marks.nd rfl (.inr rfl) (pe_call G_text (hr.mono (by omega)) (by rfl) T.g_text T.F_text.kp T.b_text .nil pass0 (pa_cons (xv 0) (pa_cons pe_int (pa_cons (xv 2) pa_nil)))))
      (pss_cons (ps_set (i := 4) sc_marks.nd rfl (.inr rfl) (pe_call G_text (hr.mono (by omega)) (by rfl) T.g_text T.F_text.kp T.b_text .nil pass0 (pa_cons (xv 0) (pa_cons pe_int (pa_cons (xv 2) pa_nil)))))
      (pss_cons (ps_set (i := 5) sc_marks.nd rfl (.inr rfl) (pe_op op_addY pe_int (pe_call G_pick (hr.mono (by omega)) (by rfl) T.g_pick T.F_pick.kp T.b_pick .nil pass0 (pa_cons (xv 0) (pa_cons pe_int pa_nil)))))
      (pss_cons (ps_set (i := 6) sc_marks.nd rfl (.inr rfl) (pe_call G_pick (hr.mono (by omega)) (by rfl) T.g_pick T.F_pick.kp T.b_pick .nil pass0 (pa_cons (xv 0) (pa_cons pe_int pa_nil))))
      (pss_one (ps_ret (pe_lc (own := [("_law_k", 7)]) (by rfl) sc_marks.nd (pi_range1 (by rfl) T.m_range (pa_cons (xv 1) pa_nil)) (blkOk_by (N := ["_law_bag_here", "_law_count", "_law_most", "_law_left", "_law_right", "_law_step", "_law_start", "_law_k"]) (sc := defScope s_marks) (by decide +kernel)) (fun _ _ _ _ _ => (pg_name (i := 7) sc_marks.nd rfl (.inl rfl))) (fun _ _ _ _ _ => pts_nil) (fun _ _ _ _ _ => (pe_op op_addY (pe_op op_addY (xv 3) (pe_callTy cr_strI (by rfl) T.m_str (by decide +kernel) (pa_cons (pe_op op_modY (pe_callTy cr_int (by rfl) T.m_int (by decide +kernel) (pa_cons (pe_op op_addY (xv 6) (pe_op op_mulY (xv 7) (xv 5))) pa_nil)) pe_int) pa_nil))) (xv 4))))))))))), ?_⟩
    refine ⟨sz, fun l1 nl1 => ?_⟩
    obtain ⟨G1, s1, S1, h1⟩ := Sep.mk (o := .lst [.int 3, .int 3, .int 3, .int 28]) S nl1
    refine ⟨G1, _, b, o, 4, rfl, S1, B.same s1, by decide, by decide, fun r2 o2 H2 r20 r21 B2 S2 => ?_⟩
    obtain ⟨m, hm, m28⟩ : ∃ m : Nat, atI [V.int 3, .int 3, .int 3, .int 28] r2 = some (.int (m : Nat)) ∧ m ≤ 28 := by
      rcases (by omega : r2 = 0 ∨ r2 = 1 ∨ r2 = 2 ∨ r2 = 3) with rfl | rfl | rfl | rfl
      · exact ⟨3, atI_nat (j := 0) rfl, by decide⟩
      · exact ⟨3, atI_nat (j := 1) rfl, by decide⟩
      · exact ⟨3, atI_nat (j := 2) rfl, by decide⟩
      · exact ⟨28, atI_nat (j := 3) rfl, by decide⟩
    refine ⟨_, _, .inl (SqL.of (S2.st h1)), hm, ?_⟩
    refine ⟨G1, _, b, o2, 0, m, rfl, S2, B2, Nat.zero_le _, by omega, fun z3 o3 H3 t3 B3 S3 => ?_⟩
    refine ⟨G1, _, b, o3, 0, m, rfl, S3, B3, Nat.zero_le _, by omega, fun z4 o4 H4 t4 B4 S4 => ?_⟩
    refine ⟨G1, _, b, o4, 996, rfl, S4, B4, by decide, by decide, fun r5 o5 H5 r50 r51 B5 S5 => ?_⟩
    refine ⟨G1, _, b, o5, 997, rfl, S5, B5, by decide, by decide, fun r6 o6 H6 r60 r61 B6 S6 => ?_⟩
    obtain ⟨st, rfl⟩ := Int.eq_ofNat_of_zero_le r50
    obtain ⟨a, rfl⟩ := Int.eq_ofNat_of_zero_le r60
    have t3h := t3.hi
    have t4h := t4.hi
    refine ⟨_, rfl, by omega, by omega, fun D nD => lc_range (lo := 0) (n := ((c : Nat) : Int).toNat) (fun i H' => Sep G1 ((D, .lst (((List.range i).map (mkO z3 z4 a (1 + st))).map V.str)) :: (b, o6) :: M) H') (S6.new nD) (fun i H' hi p => ?_) (fun H7 S7 => ?_)⟩
    · refine ⟨rfl, .inr ⟨by omega, by omega⟩, by decide, fun r7 e7 r70 r71 => ?_⟩
      have e8 : r7 = ((nOf a (1 + st) i : Nat) : Int) := by
        rw [e7]
        unfold nOf
        have : ((a : Int) + (0 + (i : Nat)) * (1 + (st : Int))) = ((a + i * (1 + st) : Nat) : Int) := by
          rw [Int.zero_add]
          push_cast
          omega
        rw [this]
        omega
      have tx3 := num_tx3 a (1 + st) i
      have tx3h := tx3.hi
      rw [e8]
      refine ⟨lg997 (nOf_lt _ _ _), small (by omega), fun t8 et8 => ⟨?_, fun t9 et9 => ?_⟩⟩
      · rw [et8, app_len]
        exact small (by omega)
      · refine ⟨_, p.hd, smallL (by rw [List.length_map, List.length_map, List.length_range]; omega), ?_⟩
        rw [List.range_succ, List.map_append, List.map_append]
        have : t9 = mkO z3 z4 a (1 + st) i := by rw [et9, et8]; rfl
        rw [this]
        exact p.set
    · have S8 := S7.frz
      have ec : ((c : Nat) : Int).toNat = c := by omega
      rw [ec] at S7 S8
      refine q D _ o6 _ _ (s1.trans S7.frzS) upd_same (by rw [List.length_map, List.length_range]) ?_ (fun z hz => ?_) (fun z hz y hy => ?_) (B6.same S7.frzS) S8
      · refine nd_map (fun i j hi hj h => mkO_inj (by omega) (by omega) ?_ ?_ h) List.nodup_range
        · have := List.mem_range.mp hi; omega
        · have := List.mem_range.mp hj; omega
      · obtain ⟨i, hi, rfl⟩ := List.mem_map.mp hz
        exact ((t3.app (num_tx3 a (1 + st) i)).app t4).wide (by omega) (by omega)
      · obtain ⟨i, _, rfl⟩ := List.mem_map.mp hz
        obtain ⟨j, _, rfl⟩ := List.mem_map.mp hy
        exact mkO_ne

end
end K19
set_option Elab.async false
set_option linter.all false
set_option maxRecDepth 100000
set_option maxHeartbeats 4000000
namespace K19
open PySem PySem.Spec PyProof.Rows L2 XL
section
variable {P : Program} {w : World} {K : PySem.W.Frag} {mg : Str → Option Value} {base : Heap}
/-! ### a strange page -/
theorem row_fl {t q : Tr} {π : List Nat} (m l : Str) (h : sub t π = some q) :
    (fl 0 t).take (lft 0 t π).length ++ ((m, l, π.length) :: (fl 0 t).drop ((lft 0 t π).length + 1)) = fl 0 (setAt t π (.node m l (kids q))) := by
  have e1 : fl 0 t = lft 0 t π ++ (mrk q, lbl q, 0 + π.length) :: (fls (0 + π.length + 1) (kids q) ++ rgt 0 t π) := by
    rw [fl_split 0 h, fl_eq]
    simp only [List.cons_append]
  have e2 : (fl 0 t).drop ((lft 0 t π).length + 1) = fls (0 + π.length + 1) (kids q) ++ rgt 0 t π := by
    rw [e1, show lft 0 t π ++ (mrk q, lbl q, 0 + π.length) :: (fls (0 + π.length + 1) (kids q) ++ rgt 0 t π) = (lft 0 t π ++ [(mrk q, lbl q, 0 + π.length)]) ++ (fls (0 + π.length + 1) (kids q) ++ rgt 0 t π) by simp]
    exact List.drop_left' (by simp)
  rw [e2, fl_setAt 0 _ h, fl]
  rw [e1, List.take_left, Nat.zero_add]
  simp only [List.cons_append]
theorem strange {N : List Str} {t : Tr} {n d : Nat} {m l m' l' : Str} (w : Wl N t) (hN : N.length ≤ 60) (hr : (fl 0 t)[n]? = some (m, l, d)) (hm : m' = m ∨ m' ∉ N) (tm : Tx 1 60 m') (tl : Tx 1 20 l') (ne : ¬ (m' = m ∧ l' = l)) :
    ∃ t', (fl 0 t).take n ++ ((m', l', d) :: (fl 0 t).drop (n + 1)) = fl 0 t' ∧ t' ≠ t ∧ Gt t' ∧ (fl 0 t').length = (fl 0 t).length := by
  have hn := (List.getElem?_eq_some_iff.mp hr).1
  obtain ⟨zs, st⟩ := w
  obtain ⟨π, q, h, rfl⟩ := at_pos 0 t n hn
  have rr := row_at h
  rw [hr] at rr
  obtain ⟨rfl, rfl, rfl⟩ : m = mrk q ∧ l = lbl q ∧ d = π.length := by
    have := Option.some.inj rr
    exact ⟨(Prod.mk.inj this).1, (Prod.mk.inj (Prod.mk.inj this).2).1, (Prod.mk.inj (Prod.mk.inj this).2).2⟩
  obtain ⟨R, p1, p2⟩ := ml_set h
  have p2 := p2 (.node m' l' (kids q))
  rw [ml_eq q, List.cons_append] at p1
  rw [ml_eq (.node m' l' (kids q)), List.cons_append] at p2
  have p2 : (ml (setAt t π (.node m' l' (kids q)))).Perm ((m', l') :: (mls (kids q) ++ R)) := p2
  have nd : ((ml t).map (·.1)).Nodup := ml_nd.mp st.nd
  rw [(p1.map (·.1)).nodup_iff, List.map_cons, List.nodup_cons] at nd
  have lm := p1.length_eq.trans p2.length_eq.symm
  rw [ml_len, ml_len] at lm
  have l1 := st.po.ln
  refine ⟨_, row_fl m' l' h, fun e => ne ?_, ⟨?_, by omega, ⟨?_, ml_tx (A := fun a b => Tx 1 60 a ∧ Tx 1 20 b) fun x hx => ?_⟩⟩, ?_⟩
  · have r2 := row_at (sub_set (.node m' l' (kids q)) h)
    rw [lft_set _ h, e, hr] at r2
    have := Option.some.inj r2
    exact ⟨(Prod.mk.inj this).1.symm, (Prod.mk.inj (Prod.mk.inj this).2).1.symm⟩
  · rw [ml_nd, (p2.map (·.1)).nodup_iff, List.map_cons, List.nodup_cons]
    refine ⟨fun hx => ?_, nd.2⟩
    rcases hm with hm | hm
    · rw [hm] at hx
      exact nd.1 hx
    · refine hm (st.po.mm _ (List.mem_append_left _ ?_))
      rw [← ml_mrk]
      exact (p1.map (·.1)).mem_iff.mpr (List.mem_cons_of_mem _ hx)
  · have := hgt_pre (setAt t π (.node m' l' (kids q)))
    omega
  · rcases List.mem_cons.mp (p2.mem_iff.mp hx) with rfl | hx
    · exact ⟨tm, tl⟩
    · have := st.mx x (p1.mem_iff.mpr (List.mem_cons_of_mem _ hx))
      exact ⟨this.1.wide (Nat.le_refl _) (by decide), this.2⟩
  · rw [fl_len, fl_len]
    exact lm.symm
theorem last_ne {z x : Str} {c : Nat} (h : z.cps.toList.getLast? = some c) (hx : x.cps.toList.length = 1) (ne : x ≠ ⟨#[c]⟩) : cutS z none (some (-1)) ++ x ≠ z := fun e => by
  obtain ⟨y, hy⟩ := List.length_eq_one_iff.mp hx
  have e2 := congrArg (fun z : Str => z.cps.toList.getLast?) e
  simp only [app_tl, hy, List.getLast?_append, List.getLast?_singleton, Option.some_or, h] at e2
  refine ne ?_
  cases x with
  | mk a =>
    have hy : a.toList = [y] := hy
    have : a = #[y] := by rw [← Array.toArray_toList (xs := a), hy]
    rw [this, Option.some.inj e2]
def spStrange (K : PySem.W.Frag) : Sp := fun vs H Q _ => ∃ (G : Hp) (M : List (Addr × HO)) (b : Addr) (o : HO) (D : Addr) (t : Tr) (N : List Str), vs = [.ref b, .ref D] ∧ Sep G ((b, o) :: M) H ∧ Bag G o ∧ FlD G D (fl 0 t) ∧ Wl N t ∧ N.length ≤ 60 ∧ (∀ z ∈ N, ∀ y ∈ N, z ++ ("'" : Str) ≠ y) ∧
  ∀ (D' : Addr) (t' : Tr) (o' : HO) (G' H' : Hp), Same G G' → FlD G' D' (fl 0 t') → t' ≠ t → Gt t' → (fl 0 t').length = (fl 0 t).length → Bag G' o' → Sep G' ((b, o') :: M) H' → Q (.ref D') H'
theorem ok_stranger (T : Top K mg w) {k : Nat} (G_pick : FnOk P w K mg base CX0 k T.a_pick T.d_pick ["_law_bag_here", "_law_many"] spPick) :
    FnOk P w K mg base CX0 (k + 1) T.a_stranger T.d_stranger ["_law_bag_here", "_law_flat_here"] (spStrange K) := by
  refine T.F_stranger.ok sc_stranger (fun vs H Q E h => ?_) (fun cdv A outer s H vs Q E hr h => ?_)
  · obtain ⟨G, M, b, o, D, t, N, rfl, _⟩ := h
    rfl
  · obtain ⟨G, M, b, o, D, t, N, rfl, S, B, hD, wl, n60, hq, q⟩ := h
    refine ⟨_, (pss_cons (ps_set (i := 2) sc_stranger.nd rfl (.inl rfl) (pe_call G_pick (hr.mono (by omega)) (by rfl) T.g_pick T.F_pick.kp T.b_pick .nil pass0 (pa_cons (xv 0) (pa_cons (pe_callB (cr_lenK K) (by rfl) T.m_len (by decide +kernel) (pa_cons (xv 1) pa_nil)) pa_nil))))
      (pss_cons (ps_asg (pe_ix (ix_k K) (xv 1) (xv 2) (fun _ _ => rfl)) (pg_tupK K 3 (pgs_cons (pg_name (i := 3) sc_stranger.nd rfl (.inl rfl)) (pgs_cons (pg_name (i := 4) sc_stranger.nd rfl (.inl rfl)) (pgs_cons (pg_name (i := 5) sc_stranger.nd rfl (.inl rfl)) pgs_nil)))))
      (pss_cons (xs_if (xt_cmp (op_eqLK K hr.u190) (pe_call G_pick (hr.mono (by omega)) (by rfl) T.g_pick T.F_pick.kp T.b_pick .nil pass0 (pa_cons (xv 0) (pa_cons pe_int pa_nil))) pe_int (nomark _))
      (pss_one (ps_ret (pe_op op_cat (pe_op op_cat (pe_slice (sl_listK K) (xv 1) po_none (po_some (xv 2))) (pe_lst (pa_cons (pe_tup (pa_cons (pe_op op_addY (xv 3) pe_str) (pa_cons (xv 4) (pa_cons (xv 5) pa_nil)))) pa_nil))) (pe_slice (sl_listK K) (xv 1) (po_some (pe_op op_addY (xv 2) pe_int)) po_none))))
      pss_nil)
      (pss_one (ps_ret (pe_op op_cat (pe_op op_cat (pe_slice (sl_listK K) (xv 1) po_none (po_some (xv 2))) (pe_lst (pa_cons (pe_tup (pa_cons (xv 3) (pa_cons (pe_op op_addY (pe_slice sl_str (xv 4) po_none (po_some (pe_un un_neg pe_int))) (xe_if (xt_cmp (op_neLK K hr.u190) (pe_ix (ix_k K) (xv 4) (pe_un un_neg pe_int) (fun _ _ => rfl)) pe_str (nomark _)) pe_str pe_str)) (pa_cons (xv 5) pa_nil)))) pa_nil))) (pe_slice (sl_listK K) (xv 1) (po_some (pe_op op_addY (xv 2) pe_int)) po_none))))))), ?_⟩
    have fl60 := wl.len
    obtain ⟨us, hDl, hus⟩ := id hD
    have ul := prd_len hus
    have f1 : 0 < (fl 0 t).length := by rw [fl_eq]; simp
    refine ⟨_, .inl (SqL.of (S.st hDl)), G, M, b, o, _, rfl, S, B, by omega, by omega, fun r1 o1 H1 r10 r11 B1 S1 => ?_⟩
    obtain ⟨n, rfl⟩ := Int.eq_ofNat_of_zero_le r10
    have hk : n < (fl 0 t).length := by omega
    obtain ⟨ak, mk, lk, huk, hak, hrow⟩ := fld_at (K := K) hus hk
    have hlx := lab_at wl hrow
    refine ⟨_, _, .inl (SqL.of (S1.st hDl)), atI_nat huk, ak, _, rfl, SqT.of (S1.st hak), rfl, _, _, rfl, _, _, rfl, _, _, rfl, rfl, ?_⟩
    refine ⟨G, M, b, o1, 2, rfl, S1, B1, by decide, by decide, fun r2 o2 H2 r20 r21 B2 S2 => ?_⟩
    have mem : mk ∈ N := by
      obtain ⟨zs, st⟩ := id wl
      refine st.po.mm _ (List.mem_append_left _ ?_)
      rw [← fl_mrks]
      exact List.mem_map_of_mem (f := fun x : Fr3 => x.1) (List.mem_of_getElem? hrow)
    have cut : ∀ u1 (mu1 : H2 u1 = none), ∃ G4, Same G G4 ∧ Sep G4 ((b, o2) :: M) (upd H2 u1 (.lst (us.take n))) ∧ G4 u1 = some (.lst (us.take n)) := fun u1 mu1 => Sep.mk (o := .lst (us.take n)) S2 mu1
    refine ⟨fun e0 => ?_, fun e0 => ?_⟩
    · refine ⟨_, rfl, D, us, rfl, SqL.of (S2.st hDl), fun u1 mu1 => ?_⟩
      rw [cutV_to us n (by omega)]
      obtain ⟨G4, s4, S4, k4⟩ := cut u1 mu1
      have q1 : ("'" : Str).length = 1 := by decide +kernel
      refine ⟨small (by have := hlx.2.hi; omega), fun m' em => ?_⟩
      have em : m' = mk ++ ("'" : Str) := em
      have hm' : m' = mk ∨ m' ∉ N := .inr fun h => hq mk mem m' h em.symm
      have tm' : Tx 1 60 m' := by
        rw [em]
        exact (hlx.2.app (Tx.lit ("'" : Str) (by decide +kernel) : Tx 1 1 ("'" : Str))).wide (by decide) (by decide)
      have tl' := hlx.1
      have hne : ¬ (m' = mk ∧ lk = lk) := fun h => hq mk mem mk mem (em.symm.trans h.1)
      refine ⟨sz, fun y my => ?_⟩
      obtain ⟨G5, s5, S5, k5⟩ := Sep.mk (o := .tup [.str m', .str lk, .int (dep (fl 0 t) n : Nat)]) S4 my
      refine ⟨sz, fun u2 mu2 => ?_⟩
      obtain ⟨G6, s6, S6, k6⟩ := Sep.mk (o := .lst [.ref y]) S5 mu2
      refine ⟨u1, u2, _, _, rfl, rfl, S6.st ((s5.trans s6) _ _ k4), S6.st k6, by rw [List.length_take, sizeLine_eq]; simp only [List.length_singleton]; omega, fun u3 mu3 => ?_⟩
      obtain ⟨G7, s7, S7, k7⟩ := Sep.mk (o := .lst (us.take n ++ [.ref y])) S6 mu3
      have s47 := s5.trans (s6.trans s7)
      have s07 := s4.trans s47
      refine ⟨_, rfl, D, us, rfl, SqL.of (S7.st (s07 _ _ hDl)), fun u4 mu4 => ?_⟩
      have e1n : ((n : Nat) : Int) + 1 = ((n + 1 : Nat) : Int) := by omega
      rw [e1n, cutV_from us (n + 1) (by omega)]
      obtain ⟨G8, s8, S8, k8⟩ := Sep.mk (o := .lst (us.drop (n + 1))) S7 mu4
      refine ⟨u3, u4, _, _, rfl, rfl, S8.st (s8 _ _ k7), S8.st k8, by rw [List.length_append, List.length_take, List.length_drop, sizeLine_eq]; simp only [List.length_singleton]; omega, fun D' mD => ?_⟩
      obtain ⟨G9, s9, S9, k9⟩ := Sep.mk (o := .lst ((us.take n ++ [.ref y]) ++ us.drop (n + 1))) S8 mD
      have s59 := s6.trans (s7.trans (s8.trans s9))
      have s09 := s07.trans (s8.trans s9)
      obtain ⟨t', hf, tne, gt, ln⟩ := strange (d := dep (fl 0 t) n) wl n60 hrow hm' tm' tl' hne
      refine q D' t' o2 G9 _ s09 ⟨_, k9, ?_⟩ tne gt ln (B2.same s09) S9
      rw [← hf]
      have z1 := prd_app (prd_app (prd_imp (fun _ _ => FlAt.same s09) (prd_take hus n)) (Paired.cons (show FlAt G9 (.ref y) (m', lk, dep (fl 0 t) n) from ⟨y, rfl, s59 _ _ k5⟩) .nil)) (prd_imp (fun _ _ => FlAt.same s09) (prd_drop hus (n + 1)))
      rw [List.append_assoc, List.append_assoc] at z1
      rw [List.append_assoc]
      exact z1
    · refine ⟨_, rfl, D, us, rfl, SqL.of (S2.st hDl), fun u1 mu1 => ?_⟩
      rw [cutV_to us n (by omega)]
      obtain ⟨G4, s4, S4, k4⟩ := cut u1 mu1
      have ll := hlx.1.lo
      have lh := hlx.1.hi
      obtain ⟨c, hc⟩ : ∃ c, lk.cps.toList.getLast? = some c := by
        cases h : lk.cps.toList.getLast? with
        | some c => exact ⟨c, rfl⟩
        | none =>
          have := List.getLast?_eq_none_iff.mp h
          rw [len_tl, this] at ll
          exact absurd ll (by decide)
      have hat : atI lk.cps.toList (-1) = some c := by
        obtain ⟨ys, hy⟩ := List.getLast?_eq_some_iff.mp hc
        rw [hy, atI_last]
      refine ⟨1, rfl, _, rfl, lk, rfl, small (by omega), ?_⟩
      refine ⟨1, rfl, _, small (by omega), hat, ?_⟩
      refine ⟨fun e => ?_, fun e => ?_⟩
      · have hx : Tx 1 1 ("!" : Str) := Tx.lit ("!" : Str) (by decide +kernel)
        have hxn : ("!" : Str) ≠ ⟨#[c]⟩ := by
          intro h
          rw [← h] at e
          exact absurd e (by decide)
        have x1 : ("!" : Str).length = 1 := by decide +kernel
        have cl := cut_last_len lk
        refine ⟨small (by rw [cl]; omega), fun l' el => ?_⟩
        have el : l' = cutS lk none (some (-1)) ++ ("!" : Str) := el
        have tl' : Tx 1 20 l' := by
          rw [el]
          have a : Tx 0 19 (cutS lk none (some (-1))) := ⟨Nat.zero_le _, by omega, fun c hc => hlx.1.ch c (cut_mem hc)⟩
          exact (a.app hx).wide (by decide) (by decide)
        have hm' : mk = mk ∨ mk ∉ N := .inl rfl
        have tm' : Tx 1 60 mk := hlx.2.wide (Nat.le_refl _) (by decide)
        have hne : ¬ (mk = mk ∧ l' = lk) := fun h => last_ne hc (by rw [← len_tl]; exact x1) hxn (el.symm.trans h.2)
        refine ⟨sz, fun y my => ?_⟩
        obtain ⟨G5, s5, S5, k5⟩ := Sep.mk (o := .tup [.str mk, .str l', .int (dep (fl 0 t) n : Nat)]) S4 my
        refine ⟨sz, fun u2 mu2 => ?_⟩
        obtain ⟨G6, s6, S6, k6⟩ := Sep.mk (o := .lst [.ref y]) S5 mu2
        refine ⟨u1, u2, _, _, rfl, rfl, S6.st ((s5.trans s6) _ _ k4), S6.st k6, by rw [List.length_take, sizeLine_eq]; simp only [List.length_singleton]; omega, fun u3 mu3 => ?_⟩
        obtain ⟨G7, s7, S7, k7⟩ := Sep.mk (o := .lst (us.take n ++ [.ref y])) S6 mu3
        have s47 := s5.trans (s6.trans s7)
        have s07 := s4.trans s47
        refine ⟨_, rfl, D, us, rfl, SqL.of (S7.st (s07 _ _ hDl)), fun u4 mu4 => ?_⟩
        have e1n : ((n : Nat) : Int) + 1 = ((n + 1 : Nat) : Int) := by omega
        rw [e1n, cutV_from us (n + 1) (by omega)]
        obtain ⟨G8, s8, S8, k8⟩ := Sep.mk (o := .lst (us.drop (n + 1))) S7 mu4
        refine ⟨u3, u4, _, _, rfl, rfl, S8.st (s8 _ _ k7), S8.st k8, by rw [List.length_append, List.length_take, List.length_drop, sizeLine_eq]; simp only [List.length_singleton]; omega, fun D' mD => ?_⟩
        obtain ⟨G9, s9, S9, k9⟩ := Sep.mk (o := .lst ((us.take n ++ [.ref y]) ++ us.drop (n + 1))) S8 mD
        have s59 := s6.trans (s7.trans (s8.trans s9))
        have s09 := s07.trans (s8.trans s9)
        obtain ⟨t', hf, tne, gt, ln⟩ := strange (d := dep (fl 0 t) n) wl n60 hrow hm' tm' tl' hne
        refine q D' t' o2 G9 _ s09 ⟨_, k9, ?_⟩ tne gt ln (B2.same s09) S9
        rw [← hf]
        have z1 := prd_app (prd_app (prd_imp (fun _ _ => FlAt.same s09) (prd_take hus n)) (Paired.cons (show FlAt G9 (.ref y) (mk, l', dep (fl 0 t) n) from ⟨y, rfl, s59 _ _ k5⟩) .nil)) (prd_imp (fun _ _ => FlAt.same s09) (prd_drop hus (n + 1)))
        rw [List.append_assoc, List.append_assoc] at z1
        rw [List.append_assoc]
        exact z1
      · have hx : Tx 1 1 ("?" : Str) := Tx.lit ("?" : Str) (by decide +kernel)
        have hxn : ("?" : Str) ≠ ⟨#[c]⟩ := by
          intro h
          rw [← h] at e
          exact absurd e (by decide)
        have x1 : ("?" : Str).length = 1 := by decide +kernel
        have cl := cut_last_len lk
        refine ⟨small (by rw [cl]; omega), fun l' el => ?_⟩
        have el : l' = cutS lk none (some (-1)) ++ ("?" : Str) := el
        have tl' : Tx 1 20 l' := by
          rw [el]
          have a : Tx 0 19 (cutS lk none (some (-1))) := ⟨Nat.zero_le _, by omega, fun c hc => hlx.1.ch c (cut_mem hc)⟩
          exact (a.app hx).wide (by decide) (by decide)
        have hm' : mk = mk ∨ mk ∉ N := .inl rfl
        have tm' : Tx 1 60 mk := hlx.2.wide (Nat.le_refl _) (by decide)
        have hne : ¬ (mk = mk ∧ l' = lk) := fun h => last_ne hc (by rw [← len_tl]; exact x1) hxn (el.symm.trans h.2)
        refine ⟨sz, fun y my => ?_⟩
        obtain ⟨G5, s5, S5, k5⟩ := Sep.mk (o := .tup [.str mk, .str l', .int (dep (fl 0 t) n : Nat)]) S4 my
        refine ⟨sz, fun u2 mu2 => ?_⟩
        obtain ⟨G6, s6, S6, k6⟩ := Sep.mk (o := .lst [.ref y]) S5 mu2
        refine ⟨u1, u2, _, _, rfl, rfl, S6.st ((s5.trans s6) _ _ k4), S6.st k6, by rw [List.length_take, sizeLine_eq]; simp only [List.length_singleton]; omega, fun u3 mu3 => ?_⟩
        obtain ⟨G7, s7, S7, k7⟩ := Sep.mk (o := .lst (us.take n ++ [.ref y])) S6 mu3
        have s47 := s5.trans (s6.trans s7)
        have s07 := s4.trans s47
        refine ⟨_, rfl, D, us, rfl, SqL.of (S7.st (s07 _ _ hDl)), fun u4 mu4 => ?_⟩
        have e1n : ((n : Nat) : Int) + 1 = ((n + 1 : Nat) : Int) := by omega
        rw [e1n, cutV_from us (n + 1) (by omega)]
        obtain ⟨G8, s8, S8, k8⟩ := Sep.mk (o := .lst (us.drop (n + 1))) S7 mu4
        refine ⟨u3, u4, _, _, rfl, rfl, S8.st (s8 _ _ k7), S8.st k8, by rw [List.length_append, List.length_take, List.length_drop, sizeLine_eq]; simp only [List.length_singleton]; omega, fun D' mD => ?_⟩
        obtain ⟨G9, s9, S9, k9⟩ := Sep.mk (o := .lst ((us.take n ++ [.ref y]) ++ us.drop (n + 1))) S8 mD
        have s59 := s6.trans (s7.trans (s8.trans s9))
        have s09 := s07.trans (s8.trans s9)
        obtain ⟨t', hf, tne, gt, ln⟩ := strange (d := dep (fl 0 t) n) wl n60 hrow hm' tm' tl' hne
        refine q D' t' o2 G9 _ s09 ⟨_, k9, ?_⟩ tne gt ln (B2.same s09) S9
        rw [← hf]
        have z1 := prd_app (prd_app (prd_imp (fun _ _ => FlAt.same s09) (prd_take hus n)) (Paired.cons (show FlAt G9 (.ref y) (mk, l', dep (fl 0 t) n) from ⟨y, rfl, s59 _ _ k5⟩) .nil)) (prd_imp (fun _ _ => FlAt.same s09) (prd_drop hus (n + 1)))
        rw [List.append_assoc, List.append_assoc] at z1
        rw [List.append_assoc]
        exact z1

end
end K19
set_option Elab.async false
set_option linter.all false
set_option maxRecDepth 100000
set_option maxHeartbeats 4000000
namespace K19
open PySem PySem.Spec PyProof.Rows L2 XL
section
variable {P : Program} {w : World} {K : PySem.W.Frag} {mg : Str → Option Value} {base : Heap}
/-! ### refused -/
def spRef (K : PySem.W.Frag) (C CP CQ : Addr) : Sp := fun vs H Q _ => ∃ (G : Hp) (M : List (Addr × HO)) (x pt : Addr) (o : HO) (t t0 : Tr) (ps : List Pt), vs = [.ref x, .ref pt, .str (mrk t0)] ∧ Sep G ((x, o) :: M) H ∧ LdO K C CP G o t ∧ PtcAt K CQ CP G pt t0 ps ∧ Gt t ∧ Chn ps t0 ∧ t0 ≠ t ∧
  ∀ H', Sep G ((x, o) :: M) H' → Q (.bl true) H'
theorem ok_refused (T : Top K mg w) (pf : PySem.XExc.PF P T.x_file) (G_Laid_take : FnOk P w K mg base (L2.CX P w) 6 T.a_Laid_take T.d_Laid_take ["self", "patches"] (spTake K T.C_Laid T.C_Page T.C_Patches T.C_NotOnePage)) :
    FnOk P w K mg base CX0 7 T.a_refused T.d_refused ["_law_laid", "_law_patches", "_law_mark"] (spRef K T.C_Laid T.C_Page T.C_Patches) := by
  refine T.F_refused.ok sc_refused (fun vs H Q E h => ?_) (fun cdv A outer s H vs Q E hr h => ?_)
  · obtain ⟨G, M, x, pt, o, t, t0, ps, rfl, _⟩ := h
    rfl
  · obtain ⟨G, M, x, pt, o, t, t0, ps, rfl, S, L, hp, gt, ch, ne, q⟩ := h
    refine ⟨_, (pss_cons (ps_try_as (i := 3) (Wout := fun _ _ _ _ => False) rfl rfl sc_refused.nd rfl rfl ⟨rfl, by decide, Or.inl T.g_NotOnePage⟩ takes0
      (fun W pn xe tk _ => (pss_one (ps_expr (pe_methT (xv 0) T.cl_Laid T.me_Laid_take G_Laid_take (hr.mono (by omega)) T.b_Laid_take (fun σ => passAt tk σ) (pa_cons (xv 1) pa_nil)))))
      (fun a oe cls d pn hz hf => (pss_one (ps_ret (xe_and (pe_callB (call_isX hz hf) (by rfl) T.m_isinstance (by decide +kernel) (pa_cons (xv 3) (pa_cons (pe_glob (v := .ref T.C_ScreenError) (by rfl) T.g_ScreenError rfl) pa_nil))) (xe_and (xe_not (pe_callB (call_isX hz hf) (by rfl) T.m_isinstance (by decide +kernel) (pa_cons (xv 3) (pa_cons (pe_glob (v := .ref T.C_NoNode) (by rfl) T.g_NoNode rfl) pa_nil)))) (xe_and (pe_callB (call_isK K) (by rfl) T.m_isinstance (by decide +kernel) (pa_cons (pe_xf T.xf_NotOnePage (T.x_NotOnePage P pf).noN hz hf (xv 3)) (pa_cons (pe_bltn (v := .ty "str") (by rfl) T.m_str (by decide +kernel) rfl) pa_nil))) (pe_one (pe_cmpR (op_eqLK K hr.u190) (pe_xf T.xf_NotOnePage (T.x_NotOnePage P pf).noN hz hf (xv 3)) (xv 2) (nomark _))))))))))
      (pss_one (ps_ret pe_bl))), ?_⟩
    obtain ⟨dx, pg, PD, SD, PL, ML, kpr, ksz, kpl, rfl, l2⟩ := id L
    refine ⟨x, dx, _, rfl, S.hd, rfl, G, M, x, pt, _, t, t0, ps, rfl, S, L, hp, gt, ch, fun e => absurd e ne, fun _ dd ndd => ?_⟩
    have S2 := S.newG (o := .xd [("mark", .str (mrk t0))]) ndd
    have s2 := S.grow (o := .xd [("mark", .str (mrk t0))]) ndd
    have hd1 : (upd G dd (.xd [("mark", .str (mrk t0))])) dd = some (.xd [("mark", .str (mrk t0))]) := upd_same
    refine ⟨true, T.em_NotOnePage_NotOnePage, fun _ a na => ?_, tt⟩
    refine ⟨T.C_NotOnePage, dd, _, true, rfl, rfl, S2.st hd1, T.xc_NotOnePage, .inl ⟨_, _, rfl, fun u r => r, T.ky_NotOnePage_ScreenError⟩, fun _ => ?_, tt⟩
    refine ⟨T.C_NotOnePage, dd, _, false, rfl, rfl, S2.st hd1, T.xc_NotOnePage, .inl ⟨_, _, rfl, fun u r => r, T.ki_NotOnePage_NoNode⟩, fun _ => ?_, tt⟩
    refine ⟨rfl, rfl, dd, _, _, rfl, S2.st hd1, lk_eq, ?_⟩
    refine ⟨_, _, .type "str", .type "str", true, rfl, .ty "str", .base (.str _), rfl, fun _ => ?_, tt⟩
    refine ⟨rfl, rfl, dd, _, _, rfl, S2.st hd1, lk_eq, ?_⟩
    have e1 : decide (mrk t0 = mrk t0) = true := decide_eq_true rfl
    have := q _ (S.new (o := .xd [("mark", .str (mrk t0))]) ndd).drop
    rw [← e1] at this
    exact this

end
end K19
set_option Elab.async false
set_option linter.all false
set_option maxRecDepth 100000
set_option maxHeartbeats 4000000
namespace K19
open PySem PySem.Spec PyProof.Rows L2 XL
section
variable {P : Program} {w : World} {K : PySem.W.Frag} {mg : Str → Option Value} {base : Heap}
/-! ### taken -/
theorem strs_lay0 : ∀ {zs : List Str}, (∀ z ∈ zs, (PyData.str z).canLay0 = true) → (PyData.tuple (zs.map PyData.str)).canLay0 = true
  | [], _ => rfl
  | z :: r, h => by
    have h1 := strs_lay0 (zs := r) fun y hy => h y (List.mem_cons_of_mem _ hy)
    show ((PyData.str z).canLay0 && PyData.canLayAll0 (r.map PyData.str)) = true
    rw [h z List.mem_cons_self]
    exact h1
theorem strs_dep0 : ∀ zs : List Str, PyData.depthAll (zs.map PyData.str) = 0
  | [] => rfl
  | z :: r => by
    show max 0 (PyData.depthAll (r.map PyData.str)) = 0
    rw [strs_dep0 r]
    rfl
theorem msd_self {ps : List Tr} (nd : (ps.map mrk).Nodup) : msd ps ps = [] := by
  unfold msd
  rw [List.map_eq_nil_iff, List.filter_eq_nil_iff]
  intro p hp
  have e : kept ps p = true := by
    unfold kept
    refine decide_eq_true ?_
    cases h : ps.find? (fun q => decide (mrk q = mrk p)) with
    | none => exact absurd (decide_eq_true rfl) (List.find?_eq_none.mp h p hp)
    | some q =>
      have h1 := of_decide_eq_true (List.find?_some (p := fun q => decide (mrk q = mrk p)) h)
      rw [mrk_inj nd (List.mem_of_find?_eq_some h) hp h1]
      rfl
  rw [e]
  decide
theorem msd_lay {t u : Tr} (ok : TrOk u) : (PyData.tuple ((msd (post t) (post u)).map PyData.str)).canLay0 = true := strs_lay0 fun z hz => by
  unfold msd at hz
  obtain ⟨p, hp, rfl⟩ := List.mem_map.mp hz
  exact tx_lay (ok.tx p ((post_perm u).mem_iff.mp (List.mem_filter.mp hp).1)).1
def spTaken (K : PySem.W.Frag) (C CP : Addr) : Sp := fun vs H Q _ => ∃ (G : Hp) (M : List (Addr × HO)) (b x X : Addr) (vo vn : V) (o o1 : HO) (t u : Tr) (ps : List Pt) (xs : List V), vs = [.ref b, .ref x, vo, vn, .ref X] ∧ Sep G ((x, o) :: (b, o1) :: M) H ∧ LdO K C CP G o t ∧ Bag G o1 ∧ Dp K G vo (toD t) ∧ Dp K G vn (toD u) ∧
  G X = some (.lst xs) ∧ DpAll K G xs (ps.map ptD) ∧ ps.length ≤ 200 ∧ Chn ps t ∧ runs ps t = u ∧
  ∀ (o' o1' : HO) (G' H' : Hp), Same G G' → LdO K C CP G' o' u → Bag G' o1' → Sep G' ((x, o') :: (b, o1') :: M) H' → Q (.bl true) H'
theorem ok_taken (T : Top K mg w) (pf : PySem.XExc.PF P T.x_file) (G_pick : FnOk P w K mg base CX0 7 T.a_pick T.d_pick ["_law_bag_here", "_law_many"] spPick) (G_Laid_take : FnOk P w K mg base (L2.CX P w) 6 T.a_Laid_take T.d_Laid_take ["self", "patches"] (spTake K T.C_Laid T.C_Page T.C_Patches T.C_NotOnePage))
    (G_Page_init : FnOk P w K mg base (L2.CX P w) 7 T.a_Page_init T.d_Page_init ["self", "root"] (spPage K T.C_Page T.C_TwiceMarked T.C_TooMany)) (G_Page_top : FnOk P w K mg base CX0 7 T.a_Page_top T.d_Page_top ["self"] (spTop K T.C_Page)) (G_Laid_page : FnOk P w K mg base CX0 7 T.a_Laid_page T.d_Laid_page ["self"] (spLdPg K T.C_Laid T.C_Page))
    (G_Patches_init : FnOk P w K mg base CX0 7 T.a_Patches_init T.d_Patches_init ["self", "page", "rows"] (spPtc K T.C_Patches T.C_Page)) (G_due : FnOk P w K mg base CX0 70 T.a_due T.d_due ["_law_old", "_law_new"] (spDue K)) (G_refused : FnOk P w K mg base CX0 7 T.a_refused T.d_refused ["_law_laid", "_law_patches", "_law_mark"] (spRef K T.C_Laid T.C_Page T.C_Patches)) :
    FnOk P w K mg base CX0 71 T.a_taken T.d_taken ["_law_bag_here", "_law_laid", "_law_old", "_law_new", "_law_rows"] (spTaken K T.C_Laid T.C_Page) := by
  refine T.F_taken.ok sc_taken (fun vs H Q E h => ?_) (fun cdv A outer s H vs Q E hr h => ?_)
  · obtain ⟨G, M, b, x, X, vo, vn, o, o1, t, u, ps, xs, rfl, _⟩ := h
    rfl
  · obtain ⟨G, M, b, x, X, vo, vn, o, o1, t, u, ps, xs, rfl, S, L, B, hvo, hvn, hX, hps, pl, ch, hru, q⟩ := h
    refine ⟨_, (pss_cons (ps_set (i := 5) sc_taken.nd rfl (.inl rfl) (pe_make T.mk_Patches G_Patches_init (hr.mono (by omega)) (by rfl) T.g_Patches T.b_Patches_init .nil pass0 (pa_cons (pe_make T.mk_Page G_Page_init (hr.mono (by omega)) (by rfl) T.g_Page T.b_Page_init .nil passL (pa_cons (xv 2) pa_nil)) (pa_cons (pe_callTy (call_listK K) (by rfl) T.m_list (by decide +kernel) (pa_cons (xv 4) pa_nil)) pa_nil))))
      (pss_cons (ps_set (i := 6) sc_taken.nd rfl (.inl rfl) (pe_meth (xv 1) T.cl_Laid T.me_Laid_take G_Laid_take (hr.mono (by omega)) T.b_Laid_take .nil passL (pa_cons (xv 5) pa_nil)))
      (pss_cons (xs_if (PW.pt (xw_or (pt_not (xt_truK K (pe_callB (call_isK K) (by rfl) T.m_isinstance (by decide +kernel) (pa_cons (xv 6) (pa_cons (pe_bltn (v := .ty "tuple") (by rfl) T.m_tuple (by decide +kernel) rfl) pa_nil))))) (xw_or (xt_cmp (op_neLK K hr.u190) (xv 6) (pe_call G_due (hr.mono (by omega)) (by rfl) T.g_due T.F_due.kp T.b_due .nil pass0 (pa_cons (xv 2) (pa_cons (xv 3) pa_nil))) (nomark _)) (pw_or1 (xt_cmp (op_neLK K hr.u190) (pe_prop (pe_prop (xv 1) T.cl_Laid T.pr_Laid_page G_Laid_page (hr.mono (by omega)) T.b_Laid_page .nil pass0 rfl) T.cl_Page T.pr_Page_top G_Page_top (hr.mono (by omega)) T.b_Page_top .nil pass0 rfl) (xv 3) (nomark _))))))
      (pss_one (ps_ret pe_bl))
      pss_nil)
      (pss_cons (xs_if (xt_cmp op_gtY (pe_call G_pick (hr.mono (by omega)) (by rfl) T.g_pick T.F_pick.kp T.b_pick .nil pass0 (pa_cons (xv 0) (pa_cons pe_int pa_nil))) pe_int (nomark _))
      (pss_one (ps_ret pe_bl))
      pss_nil)
      (pss_cons (xs_if (xt_cmp (op_neLK K hr.u190) (xv 2) (xv 3) (nomark _))
      (pss_one (ps_ret (pe_call G_refused (hr.mono (by omega)) (by rfl) T.g_refused T.F_refused.kp T.b_refused .nil pass0 (pa_cons (xv 1) (pa_cons (xv 5) (pa_cons (pe_ix (ix_k K) (xv 2) pe_int (fun _ _ => rfl)) pa_nil))))))
      pss_nil)
      (pss_one (ps_ret (pe_cmpR (op_eqLK K hr.u190) (pe_meth (xv 1) T.cl_Laid T.me_Laid_take G_Laid_take (hr.mono (by omega)) T.b_Laid_take .nil passL (pa_cons (xv 5) pa_nil)) (pe_tup pa_nil) (nomark _))))))))), ?_⟩
    obtain ⟨ao, ko, uo, rfl, qo, qko, _⟩ := node_at hvo
    obtain ⟨an, kn, un, rfl, qn, qkn, _⟩ := node_at hvn
    have gt := ch.gt
    have gu := ch.fin
    rw [hru] at gu
    have no : ∀ {t : Tr} {m : Str} {A : Prop}, ((pre t).map mrk).Nodup → tw [] ((pre t).map mrk) = some m → A := fun nd e => by
      rw [tw_nd.mpr nd] at e
      exact nomatch e
    have gtl := gt.ln
    refine fun pg dp npg ndp nep => ⟨G, _, pg, dp, _, t, rfl, S.new2 npg ndp nep, hvo, by omega, fun p hp => (gt.ok.tx p hp).1, fun _ _ G1 H1 s1 hpg S1 => ⟨rfl, ?_⟩, fun m e => no gt.nd e, fun _ l => by omega⟩
    have S1 := S1.drop
    refine ⟨X, xs, rfl, .inl (SqL.of (S1.st (s1 _ _ hX))), fun R nR => ?_⟩
    obtain ⟨G2, s2, S2, k2⟩ := Sep.mk (o := .lst xs) S1 nR
    have s02 := s1.trans s2
    refine fun px dpx npx ndpx nex => ⟨G2, _, px, dpx, pg, R, xs, t, ps, rfl, S2.new2 npx ndpx nex, hpg.same s2, fun G' H' s' S' => S'.st (s' _ _ k2), dpa_same s02 hps, ch, by omega, fun G3 H3 s3 hpt S3 => ⟨rfl, ?_⟩⟩
    have S3 := S3.drop
    have s03 := s02.trans s3
    have L3 := L.same s03
    obtain ⟨dx, kpg, PD, SD, PL, ML, kpr, ksz, kpl, eo, l2⟩ := id L3
    refine ⟨x, dx, _, rfl, by rw [S3.hd, eo], rfl, G3, (b, o1) :: M, x, px, o, t, t, ps, rfl, S3, L3, hpt, gt, ch, fun _ v o' G4 H4 s4 L4 hv S4 => ?_, fun e => absurd rfl e⟩
    rw [hru] at L4 hv
    have s04 := s03.trans s4
    have B4 := B.same s04
    refine ⟨_, _, .type "tuple", .type "tuple", true, rfl, .ty "tuple", .base (.tup (S4.st hv)), rfl, ?_⟩
    refine ⟨ff, fun _ => ?_⟩
    refine ⟨G4, _, _, _, t, u, rfl, S4, dp_same s04 hvo, dp_same s04 hvn, gt, gu, fun p5 G5 H5 s5 hp5 S5 => ?_⟩
    have s05 := s04.trans s5
    have L5 := L4.same s5
    have B5 := B4.same s5
    have ml := msd_lay (t := t) gu.ok
    have md : (PyData.tuple ((msd (post t) (post u)).map PyData.str)).depth ≤ 190 := by
      show PyData.depthAll _ + 1 ≤ 190
      rw [strs_dep0]
      decide
    refine ⟨_, _, .tup (SqT.of (S5.st (s5 _ _ hv))) (strs_dp _), .tup (SqT.of (S5.st hp5)) (strs_dp _), ml, ml, md, ?_⟩
    rw [SeqAt.eqv_refl _ ml]
    refine ⟨ff, fun _ => ?_⟩
    obtain ⟨dx', kpg', PD', SD', PL', ML', kpr', ksz', kpl', eo', l2'⟩ := id L5
    refine ⟨x, dx', _, rfl, by rw [S5.hd, eo'], G5, x, o', u, rfl, S5.hd, L5, fun pg2 hpg2 => ?_⟩
    obtain ⟨dg, N2, A2, O2, v2', us2, kn2, g1, g2⟩ := hpg2.ex
    refine ⟨pg2, dg, _, rfl, S5.st g1, G5, pg2, u, rfl, S5.1, hpg2, fun v2 hv2 => ?_⟩
    obtain ⟨a2, k2', u2, rfl, q2, qk2, _⟩ := node_at hv2
    have du := ok_dep gu.ok
    refine ⟨_, _, dp_same S5.1 hv2, dp_same S5.1 (dp_same s05 hvn), ok_lay gu.ok, ok_lay gu.ok, by omega, ?_⟩
    rw [eqv_self gu.ok]
    refine ⟨ff, fun _ => ?_⟩
    refine ⟨G5, (x, o') :: M, b, o1, 3, rfl, S5.sw, B5, by decide, by decide, fun r o3 H6 r0 r3 B6 S6 => ⟨fun _ => ?_, fun _ => ?_⟩⟩
    · exact q o' o3 G5 _ s05 L5 B6 S6.sw
    have S6 := S6.sw
    have dt := ok_dep gt.ok
    refine ⟨_, _, dp_same S6.1 (dp_same s05 hvo), dp_same S6.1 (dp_same s05 hvn), ok_lay gt.ok, ok_lay gu.ok, by omega, fun e => ?_, fun e => ?_⟩
    · have ne : t ≠ u := fun h => by
        rw [h, eqv_self gu.ok] at e
        exact nomatch e
      exact ⟨_, _, .inr (S6.t (same_t s05 qo)), atI_nat (j := 0) rfl, G5, (b, o3) :: M, x, px, o', u, t, ps, rfl, S6, L5, hpt.same (s4.trans s5), gu, ch, ne, fun H' S' => q o' o3 G5 H' s05 L5 B6 S'⟩
    · have et : t = u := Classical.byContradiction fun h => by
        rw [eqv_ne h] at e
        exact nomatch e
      refine ⟨x, dx', _, rfl, by rw [S6.hd, eo'], rfl, G5, (b, o3) :: M, x, px, o', u, t, ps, rfl, S6, L5, hpt.same (s4.trans s5), gu, ch, fun _ v7 o7 G7 H7 s7 L7 hv7 S7 => ?_, fun ne => absurd et ne⟩
      rw [hru] at L7 hv7
      have nd : ((post u).map mrk).Nodup := (((post_perm u).map mrk).nodup_iff).mpr gu.nd
      rw [msd_self nd] at hv7
      refine ⟨sz, fun y my => ?_⟩
      obtain ⟨G8, s8, S8, k8⟩ := Sep.mk (o := .tup []) S7 my
      refine ⟨.tuple [], .tuple [], .tup (SqT.of (S8.st (s8 _ _ hv7))) .nil, .tup (SqT.of (S8.st k8)) .nil, rfl, rfl, by decide, ?_⟩
      exact q o7 o3 G8 _ (s05.trans (s7.trans s8)) (L7.same s8) (B6.same (s7.trans s8)) S8

end
end K19
set_option Elab.async false
set_option linter.all false
set_option maxRecDepth 100000
set_option maxHeartbeats 4000000
namespace K19
open PySem PySem.Spec PyProof.Rows L2 XL
section
variable {P : Program} {w : World} {K : PySem.W.Frag} {mg : Str → Option Value} {base : Heap}
/-! ### the law -/
structure Rec where
  W : Addr
  pl : Addr
  D : Addr
  x : Addr
  N : List Str
  t : Tr
  o : HO
def Rec.mem (q : Rec) : List (Addr × HO) := [(q.W, .lst [.ref q.pl, .ref q.D, .ref q.x]), (q.x, q.o)]
structure ROk (K : PySem.W.Frag) (C CP : Addr) (G : Hp) (q : Rec) : Prop where
  pl : PlAt G q.pl q.N
  qu : ∀ z ∈ q.N, ∀ y ∈ q.N, z ++ ("'" : Str) ≠ y
  fl : FlD G q.D (fl 0 q.t)
  wl : Wl q.N q.t
  m0 : some (mrk q.t) = q.N[0]?
  ld : LdO K C CP G q.o q.t
theorem ROk.same {K : PySem.W.Frag} {C CP : Addr} {G G' : Hp} {q : Rec} (e : Same G G') (h : ROk K C CP G q) : ROk K C CP G' q := ⟨h.pl.same e, h.qu, h.fl.same e, h.wl, h.m0, h.ld.same e⟩
theorem two_pick {K : PySem.W.Frag} {C CP : Addr} {G : Hp} {q0 q1 : Rec} (h0 : ROk K C CP G q0) (h1 : ROk K C CP G q1) {r : Int} (hr : r = 0 ∨ r = 1) : ∃ q q' : Rec, atI [V.ref q0.W, .ref q1.W] r = some (.ref q.W) ∧ (q0.mem ++ q1.mem).Perm (q.mem ++ q'.mem) ∧ ROk K C CP G q ∧ ROk K C CP G q' ∧
    ∀ q2 : Rec, q2.W = q.W → ∃ p0 p1 : Rec, p0.W = q0.W ∧ p1.W = q1.W ∧ (q2.mem ++ q'.mem).Perm (p0.mem ++ p1.mem) ∧ ∀ A : Rec → Prop, A q2 → A q' → A p0 ∧ A p1 := by
  rcases hr with rfl | rfl
  · exact ⟨q0, q1, rfl, List.Perm.refl _, h0, h1, fun q2 e => ⟨q2, q1, e, rfl, List.Perm.refl _, fun A a b => ⟨a, b⟩⟩⟩
  · exact ⟨q1, q0, rfl, List.perm_append_comm, h1, h0, fun q2 e => ⟨q0, q2, rfl, e, List.perm_append_comm, fun A a b => ⟨b, a⟩⟩⟩
theorem perm5 {α : Type} (a b c d e : α) (L : List α) : (a :: b :: c :: d :: e :: L).Perm (c :: e :: d :: (L ++ [a, b])) := by
  have h1 : ([a, b] ++ (c :: d :: e :: L)).Perm ((c :: d :: e :: L) ++ [a, b]) := List.perm_append_comm
  exact h1.trans (.cons c (.swap e d _))
theorem perm3 {α : Type} (a b c : α) (L : List α) : (a :: b :: c :: L).Perm (c :: a :: b :: L) := by
  have h1 : ([a, b] ++ [c]).Perm ([c] ++ [a, b]) := List.perm_append_comm
  exact h1.append_right L
theorem gt_lab {m l l' : Str} {ks : List Tr} (g : Gt (.node m l ks)) (tl : Tx 1 20 l') : Gt (.node m l' ks) := by
  refine ⟨?_, ?_, ⟨g.ok.hg, fun p hp => ?_⟩⟩
  · have := g.nd
    rw [pre_eq, List.map_cons] at this ⊢
    exact this
  · have := g.ln
    rw [pre_eq, List.length_cons] at this ⊢
    exact this
  · rw [pre_eq] at hp
    rcases List.mem_cons.mp hp with rfl | hp
    · exact ⟨(g.ok.tx (.node m l ks) (self_pre _)).1, tl⟩
    · exact g.ok.tx p (by rw [pre_eq]; exact List.mem_cons_of_mem _ hp)
theorem chn_say {t : Tr} {l : Str} (g : Gt t) (tl : Tx 1 20 l) : Chn [.say (mrk t) l] t := by
  obtain ⟨m, l0, ks⟩ := t
  have h1 : sub (.node m l0 ks) [] = some (.node m l0 ks) := rfl
  have e : aft (.say m l) (.node m l0 ks) = .node m l ks := by
    rw [aft_node (p := .say m l) (.inr ⟨_, _, rfl⟩) g.nd h1 rfl]
    show Tr.node m (if m = m then l else l0) ks = _
    rw [if_pos rfl]
  refine ⟨g, List.mem_map_of_mem (self_pre _), ?_⟩
  show Gt (aft (.say m l) (.node m l0 ks))
  rw [e]
  exact gt_lab g tl
def spLaw (K : PySem.W.Frag) : Sp := fun vs H Q _ => ∃ (a : Addr) (ns : List Int), vs = [.ref a] ∧ SqL K H a (ns.map V.int) ∧ ns.length ≤ 63 ∧ ∀ H', Q (.bl true) H'
theorem ok_law (T : Top K mg w) (G_bag : FnOk P w K mg base CX0 1 T.a_bag T.d_bag ["_law_script"] (spBag K)) (G_pick : FnOk P w K mg base CX0 80 T.a_pick T.d_pick ["_law_bag_here", "_law_many"] spPick) (G_marks : FnOk P w K mg base CX0 80 T.a_marks T.d_marks ["_law_bag_here", "_law_count"] spMarks) (G_fresh : FnOk P w K mg base CX0 80 T.a_fresh T.d_fresh ["_law_bag_here", "_law_pool"] (spFresh K))
    (G_grown : FnOk P w K mg base CX0 80 T.a_grown T.d_grown ["_law_flat_here"] (spGrown K)) (G_Page_init : FnOk P w K mg base (L2.CX P w) 7 T.a_Page_init T.d_Page_init ["self", "root"] (spPage K T.C_Page T.C_TwiceMarked T.C_TooMany)) (G_Laid_init : FnOk P w K mg base CX0 5 T.a_Laid_init T.d_Laid_init ["self", "page"] (spLd K T.C_Laid T.C_Page))
    (G_Patches_init : FnOk P w K mg base CX0 60 T.a_Patches_init T.d_Patches_init ["self", "page", "rows"] (spPtc K T.C_Patches T.C_Page)) (G_stranger : FnOk P w K mg base CX0 80 T.a_stranger T.d_stranger ["_law_bag_here", "_law_flat_here"] (spStrange K)) (G_refused : FnOk P w K mg base CX0 7 T.a_refused T.d_refused ["_law_laid", "_law_patches", "_law_mark"] (spRef K T.C_Laid T.C_Page T.C_Patches))
    (G_onward : FnOk P w K mg base CX0 80 T.a_onward T.d_onward ["_law_bag_here", "_law_flat_here", "_law_pool"] (spOnw K)) (G_taken : FnOk P w K mg base CX0 80 T.a_taken T.d_taken ["_law_bag_here", "_law_laid", "_law_old", "_law_new", "_law_rows"] (spTaken K T.C_Laid T.C_Page)) :
    FnOk P w K mg base CX0 81 T.a_law T.d_law ["_law_script"] (spLaw K) := by
  refine T.F_law.ok sc_law (fun vs H Q E h => ?_) (fun cdv A outer s H vs Q E hr h => ?_)
  · obtain ⟨a, ns, rfl, _⟩ := h
    rfl
  · obtain ⟨a, ns, rfl, ha, hl, q⟩ := h
    refine ⟨_, (pss_cons (ps_set (i := 1) sc_law.nd rfl (.inl rfl) (pe_call G_bag (hr.mono (by omega)) (by rfl) T.g_bag T.F_bag.kp T.b_bag .nil pass0 (pa_cons (xv 0) pa_nil)))
      (pss_cons (ps_set (i := 2) sc_law.nd rfl (.inl rfl) (pe_lst pa_nil))
      (pss_cons (ps_for PassesOwn.never rfl (pi_range1 (by rfl) T.m_range (pa_cons pe_int pa_nil)) (pg_name (i := 3) sc_law.nd rfl (.inl rfl))
      (pss_cons (ps_set (i := 4) sc_law.nd rfl (.inl rfl) (pe_call G_marks (hr.mono (by omega)) (by rfl) T.g_marks T.F_marks.kp T.b_marks .nil pass0 (pa_cons (xv 1) (pa_cons (xe_if (xt_cmp (op_eqLK K hr.u190) (pe_call G_pick (hr.mono (by omega)) (by rfl) T.g_pick T.F_pick.kp T.b_pick .nil pass0 (pa_cons (xv 1) (pa_cons pe_int pa_nil))) pe_int (nomark _)) pe_int pe_int) pa_nil))))
      (pss_cons (ps_set (i := 5) sc_law.nd rfl (.inl rfl) (pe_call G_fresh (hr.mono (by omega)) (by rfl) T.g_fresh T.F_fresh.kp T.b_fresh .nil pass0 (pa_cons (xv 1) (pa_cons (xv 4) pa_nil))))
      (pss_one (ps_expr (pe_bmK K PySem.F.plainAttrs_list PySem.F.slot_list_append PySem.F.type_list_append mt_append (xv 2) (pa_cons (pe_lst (pa_cons (xv 4) (pa_cons (xv 5) (pa_cons (pe_make T.mk_Laid G_Laid_init (hr.mono (by omega)) (by rfl) T.g_Laid T.b_Laid_init .nil pass0 (pa_cons (pe_make T.mk_Page G_Page_init (hr.mono (by omega)) (by rfl) T.g_Page T.b_Page_init .nil passL (pa_cons (pe_call G_grown (hr.mono (by omega)) (by rfl) T.g_grown T.F_grown.kp T.b_grown .nil pass0 (pa_cons (xv 5) pa_nil)) pa_nil)) pa_nil)) pa_nil)))) pa_nil)))))))
      (pss_cons (ps_for PassesOwn.never rfl (pi_range1 (by rfl) T.m_range (pa_cons (pe_op op_addY pe_int (pe_call G_pick (hr.mono (by omega)) (by rfl) T.g_pick T.F_pick.kp T.b_pick .nil pass0 (pa_cons (xv 1) (pa_cons pe_int pa_nil)))) pa_nil)) (pg_name (i := 3) sc_law.nd rfl (.inl rfl))
      (pss_cons (ps_set (i := 6) sc_law.nd rfl (.inl rfl) (pe_ix (ix_k K) (xv 2) (pe_call G_pick (hr.mono (by omega)) (by rfl) T.g_pick T.F_pick.kp T.b_pick .nil pass0 (pa_cons (xv 1) (pa_cons pe_int pa_nil))) (fun _ _ => rfl)))
      (pss_cons (ps_asg (xv 6) (pg_unlK K 3 (pgs_cons (pg_name (i := 4) sc_law.nd rfl (.inl rfl)) (pgs_cons (pg_name (i := 5) sc_law.nd rfl (.inl rfl)) (pgs_cons (pg_name (i := 7) sc_law.nd rfl (.inl rfl)) pgs_nil)))))
      (xss_cut (xs_if (xt_cmp (op_eqLK K hr.u190) (pe_call G_pick (hr.mono (by omega)) (by rfl) T.g_pick T.F_pick.kp T.b_pick .nil pass0 (pa_cons (xv 1) (pa_cons pe_int pa_nil))) pe_int (nomark _))
      (pss_cons (ps_set (i := 8) sc_law.nd rfl (.inl rfl) (pe_call G_grown (hr.mono (by omega)) (by rfl) T.g_grown T.F_grown.kp T.b_grown .nil pass0 (pa_cons (pe_call G_stranger (hr.mono (by omega)) (by rfl) T.g_stranger T.F_stranger.kp T.b_stranger .nil pass0 (pa_cons (xv 1) (pa_cons (xv 5) pa_nil))) pa_nil)))
      (pss_cons (ps_set (i := 9) sc_law.nd rfl (.inl rfl) (pe_ix (ix_k K) (pe_lst (pa_cons (pe_lst pa_nil) (pa_cons (pe_lst (pa_cons (pe_tup (pa_cons pe_str (pa_cons (pe_ix (ix_k K) (xv 8) pe_int (fun _ _ => rfl)) (pa_cons pe_str pa_nil)))) pa_nil)) pa_nil))) (pe_call G_pick (hr.mono (by omega)) (by rfl) T.g_pick T.F_pick.kp T.b_pick .nil pass0 (pa_cons (xv 1) (pa_cons pe_int pa_nil))) (fun _ _ => rfl)))
      (pss_one (xs_if (pt_not (xt_truK K (pe_call G_refused (hr.mono (by omega)) (by rfl) T.g_refused T.F_refused.kp T.b_refused .nil pass0 (pa_cons (xv 7) (pa_cons (pe_make T.mk_Patches G_Patches_init (hr.mono (by omega)) (by rfl) T.g_Patches T.b_Patches_init .nil pass0 (pa_cons (pe_make T.mk_Page G_Page_init (hr.mono (by omega)) (by rfl) T.g_Page T.b_Page_init .nil passL (pa_cons (xv 8) pa_nil)) (pa_cons (xv 9) pa_nil))) (pa_cons (pe_ix (ix_k K) (xv 8) pe_int (fun _ _ => rfl)) pa_nil))))))
      (pss_one (ps_ret pe_bl))
      pss_nil))))
      pss_nil)
      (pss_cons (ps_asg (pe_call G_onward (hr.mono (by omega)) (by rfl) T.g_onward T.F_onward.kp T.b_onward .nil pass0 (pa_cons (xv 1) (pa_cons (xv 5) (pa_cons (xv 4) pa_nil)))) (pg_tupK K 2 (pgs_cons (pg_name (i := 9) sc_law.nd rfl (.inl rfl)) (pgs_cons (pg_name (i := 10) sc_law.nd rfl (.inl rfl)) pgs_nil))))
      (pss_cons (xs_if (pt_not (xt_truK K (pe_call G_taken (hr.mono (by omega)) (by rfl) T.g_taken T.F_taken.kp T.b_taken .nil pass0 (pa_cons (xv 1) (pa_cons (xv 7) (pa_cons (pe_call G_grown (hr.mono (by omega)) (by rfl) T.g_grown T.F_grown.kp T.b_grown .nil pass0 (pa_cons (xv 5) pa_nil)) (pa_cons (pe_call G_grown (hr.mono (by omega)) (by rfl) T.g_grown T.F_grown.kp T.b_grown .nil pass0 (pa_cons (xv 10) pa_nil)) (pa_cons (xv 9) pa_nil))))))))
      (pss_one (ps_ret pe_bl))
      pss_nil)
      (pss_one (ps_asg (xv 10) (pg_sub (xv 6) pe_int set_list)))))))))
      (pss_one (ps_ret pe_bl)))))), ?_⟩
    refine ⟨H, [], a, ns, rfl, sep0, ha, hl, fun b o1 G1 H1 _ B1 S1 => ?_⟩
    have no : ∀ {t : Tr} {m : Str} {A : Prop}, ((pre t).map mrk).Nodup → tw [] ((pre t).map mrk) = some m → A := fun nd e => by
      rw [tw_nd.mpr nd] at e
      exact nomatch e
    refine ⟨sz, fun WS nWS => ?_⟩
    have SW := S1.new (o := .lst []) nWS
    refine ⟨2, rfl, by decide, by decide, for_range (lo := 0) (n := (2 : Int).toNat) (fun i σ H' => ∃ (y3 y4 y5 : Option V) (qs : List Rec) (G' : Hp) (o' : HO), σ = [some (.ref a), some (.ref b), some (.ref WS), y3, y4, y5, none, none, none, none, none] ∧ qs.length = i ∧ (∀ q ∈ qs, ROk K T.C_Laid T.C_Page G' q) ∧ Bag G' o' ∧ Sep G' ((WS, .lst (qs.map fun q => V.ref q.W)) :: (b, o') :: qs.flatMap Rec.mem) H')
      ⟨_, _, _, [], G1, o1, rfl, rfl, (fun _ h => nomatch h), B1, SW⟩ (fun i σ H' hi p => ?_) (fun σ H' p => ?_)⟩
    · obtain ⟨y3, y4, y5, qs, G', o', rfl, ql, hqs, B', S'⟩ := p
      have hi : i < 2 := hi
      refine ⟨G', _, b, o', 8, rfl, S'.sw, B', by decide, by decide, fun r2 o2 H2 r20 r21 B2 S2 => ⟨fun _ => ?_, fun _ => ?_⟩⟩
      · refine ⟨G', _, b, o2, 60, rfl, S2, B2, by decide, fun pl zs o3 G3 H3 s3 hpl zl nd tz qu B3 S3 => ?_⟩
        have hP : PlAt G3 pl zs := ⟨hpl, ⟨nd, by omega, by omega, tz⟩⟩
        refine ⟨G3, _, b, o3, pl, zs, rfl, S3, B3, hP, fun D t o4 G4 H4 s4 hD wl h0 B4 S4 => ?_⟩
        refine ⟨.inl ⟨rfl, _, SqL.of S4.sw.hd⟩, ?_⟩
        have wln := wl.len
        have gt := wl.gt hP.2.ln
        have gtl := gt.ln
        obtain ⟨us, hDl, hus⟩ := id hD
        refine ⟨G4, _, D, us, fl 0 t, rfl, S4, hDl, hus, fl_flok t, by omega, fun v t' G5 H5 s5 hv et S5 => ?_⟩
        rw [fl_inj et] at hv
        refine fun pg dp npg ndp nep => ⟨G5, _, pg, dp, v, t, rfl, S5.new2 npg ndp nep, hv, by omega, fun p hp => (gt.ok.tx p hp).1, fun _ _ G6 H6 s6 hpg S6 => ⟨rfl, ?_⟩, fun m e => no gt.nd e, fun _ l => by omega⟩
        refine fun x dx nx ndx nex => ⟨G6, _, x, dx, pg, t, rfl, S6.drop.new2 nx ndx nex, hpg, gt.nd, gt.ln, tx_lbl gt.ok, fun o7 G7 H7 s7 hl S7 => ⟨rfl, ?_⟩⟩
        refine ⟨sz, fun W nW => ?_⟩
        have S8 := S7.new (o := .lst [.ref pl, .ref D, .ref x]) nW
        have S9 := (S8.perm (perm5 _ _ _ _ _ _)).drop
        have s47 := s5.trans (s6.trans s7)
        have s37 := s4.trans s47
        refine ⟨WS, _, _, rfl, rfl, S9.hd, by rw [List.length_map, ql, sizeLine_eq]; omega, ?_⟩
        refine ⟨_, _, _, qs ++ [⟨W, pl, D, x, zs, t, o7⟩], G7, o4, rfl, by rw [List.length_append, ql]; rfl, fun q hq => ?_, B4.same s47, ?_⟩
        · rcases List.mem_append.mp hq with hq | hq
          · exact (hqs q hq).same (s3.trans s37)
          · rw [List.mem_singleton.mp hq]
            exact ⟨hP.same s37, qu, hD.same s47, wl, h0, hl⟩
        · rw [List.map_append, List.flatMap_append]
          exact S9.set
      · refine ⟨G', _, b, o2, 16, rfl, S2, B2, by decide, fun pl zs o3 G3 H3 s3 hpl zl nd tz qu B3 S3 => ?_⟩
        have hP : PlAt G3 pl zs := ⟨hpl, ⟨nd, by omega, by omega, tz⟩⟩
        refine ⟨G3, _, b, o3, pl, zs, rfl, S3, B3, hP, fun D t o4 G4 H4 s4 hD wl h0 B4 S4 => ?_⟩
        refine ⟨.inl ⟨rfl, _, SqL.of S4.sw.hd⟩, ?_⟩
        have wln := wl.len
        have gt := wl.gt hP.2.ln
        have gtl := gt.ln
        obtain ⟨us, hDl, hus⟩ := id hD
        refine ⟨G4, _, D, us, fl 0 t, rfl, S4, hDl, hus, fl_flok t, by omega, fun v t' G5 H5 s5 hv et S5 => ?_⟩
        rw [fl_inj et] at hv
        refine fun pg dp npg ndp nep => ⟨G5, _, pg, dp, v, t, rfl, S5.new2 npg ndp nep, hv, by omega, fun p hp => (gt.ok.tx p hp).1, fun _ _ G6 H6 s6 hpg S6 => ⟨rfl, ?_⟩, fun m e => no gt.nd e, fun _ l => by omega⟩
        refine fun x dx nx ndx nex => ⟨G6, _, x, dx, pg, t, rfl, S6.drop.new2 nx ndx nex, hpg, gt.nd, gt.ln, tx_lbl gt.ok, fun o7 G7 H7 s7 hl S7 => ⟨rfl, ?_⟩⟩
        refine ⟨sz, fun W nW => ?_⟩
        have S8 := S7.new (o := .lst [.ref pl, .ref D, .ref x]) nW
        have S9 := (S8.perm (perm5 _ _ _ _ _ _)).drop
        have s47 := s5.trans (s6.trans s7)
        have s37 := s4.trans s47
        refine ⟨WS, _, _, rfl, rfl, S9.hd, by rw [List.length_map, ql, sizeLine_eq]; omega, ?_⟩
        refine ⟨_, _, _, qs ++ [⟨W, pl, D, x, zs, t, o7⟩], G7, o4, rfl, by rw [List.length_append, ql]; rfl, fun q hq => ?_, B4.same s47, ?_⟩
        · rcases List.mem_append.mp hq with hq | hq
          · exact (hqs q hq).same (s3.trans s37)
          · rw [List.mem_singleton.mp hq]
            exact ⟨hP.same s37, qu, hD.same s47, wl, h0, hl⟩
        · rw [List.map_append, List.flatMap_append]
          exact S9.set
    · obtain ⟨y3, y4, y5, qs, G', o', rfl, ql, hqs, B', S'⟩ := p
      obtain ⟨q0, q1, rfl⟩ : ∃ q0 q1, qs = [q0, q1] := by
        match qs, ql with
        | [q0, q1], _ => exact ⟨q0, q1, rfl⟩
      obtain ⟨G2, s2, S2, hWS⟩ := Sep.keep S'
      have R0 := (hqs q0 (by simp)).same s2
      have R1 := (hqs q1 (by simp)).same s2
      have B2 := B'.same s2
      refine ⟨G2, _, b, o', 8, rfl, S2, B2, by decide, by decide, fun r3 o3 H3 r30 r31 B3 S3 => ?_⟩
      refine ⟨3 + r3, rfl, by omega, by omega, for_range (lo := 0) (n := (3 + r3).toNat) (fun i σ H' => ∃ (y3 y4 y5 y6 y7 y8 y9 y10 : Option V) (p0 p1 : Rec) (G' : Hp) (o' : HO), σ = [some (.ref a), some (.ref b), some (.ref WS), y3, y4, y5, y6, y7, y8, y9, y10] ∧ p0.W = q0.W ∧ p1.W = q1.W ∧ Same G2 G' ∧ ROk K T.C_Laid T.C_Page G' p0 ∧ ROk K T.C_Laid T.C_Page G' p1 ∧ Bag G' o' ∧ Sep G' ((b, o') :: (p0.mem ++ p1.mem)) H')
        ⟨_, _, _, _, _, _, _, _, q0, q1, G2, o3, rfl, rfl, rfl, Same.refl _, R0, R1, B3, S3⟩ (fun i σ H' hi p => ?_) (fun σ H' p => ?_)⟩
      · obtain ⟨y3, y4, y5, y6, y7, y8, y9, y10, p0, p1, G4, o4, rfl, e0, e1, s4, K0, K1, B4, S4⟩ := p
        refine ⟨G4, _, b, o4, 2, rfl, S4, B4, by decide, by decide, fun r5 o5 H5 r50 r51 B5 S5 => ?_⟩
        obtain ⟨qq, qr, hat, pm, kq, kr, back⟩ := two_pick K0 K1 (show r5 = 0 ∨ r5 = 1 by omega)
        rw [e0, e1] at hat
        refine ⟨_, _, .inl (SqL.of (S5.st (s4 _ _ hWS))), hat, ?_⟩
        have S6 : Sep G4 ((b, o5) :: (qq.W, .lst [.ref qq.pl, .ref qq.D, .ref qq.x]) :: (qq.x, qq.o) :: qr.mem) H5 := S5.perm (pm.cons _)
        have n60 := kq.pl.2.ln
        have gq := kq.wl.gt n60
        have gql := gq.ln
        have wql := kq.wl.len
        refine ⟨qq.W, _, rfl, SqL.of S6.sw.hd, rfl, _, _, rfl, _, _, rfl, _, _, rfl, rfl, ?_⟩
        refine ⟨fun σ H' => ∃ (y8 y9 : Option V) (G7 : Hp) (o7 : HO), σ = [some (.ref a), some (.ref b), some (.ref WS), some (.int (0 + (i : Nat))), some (.ref qq.pl), some (.ref qq.D), some (.ref qq.W), some (.ref qq.x), y8, y9, y10] ∧ Same G4 G7 ∧ Bag G7 o7 ∧ Sep G7 ((b, o7) :: (qq.W, .lst [.ref qq.pl, .ref qq.D, .ref qq.x]) :: (qq.x, qq.o) :: qr.mem) H', ?_, fun σ H' h => ?_⟩
        · refine ⟨G4, _, b, o5, 3, rfl, S6, B5, by decide, by decide, fun r7 o7 H7 r70 r71 B7 S7 => ⟨fun _ => ?_, fun _ => ⟨_, _, G4, o7, rfl, Same.refl _, B7, S7⟩⟩⟩
          refine ⟨G4, _, b, o7, qq.D, qq.t, qq.N, rfl, S7, B7, kq.fl, kq.wl, n60, kq.qu, fun D' t' o8 G8 H8 s8 hD' ne gt ln B8 S8 => ?_⟩
          have gtl := gt.ln
          obtain ⟨us, hDl, hus⟩ := id hD'
          refine ⟨G8, _, D', us, fl 0 t', rfl, S8, hDl, hus, fl_flok t', by omega, fun v t2 G9 H9 s9 hv et S9 => ?_⟩
          rw [fl_inj et] at hv
          obtain ⟨av, kv, ks, rfl, qv, _, _⟩ := node_at hv
          refine ⟨sz, fun a1 m1 => ?_⟩
          obtain ⟨G10, s10, S10, k10⟩ := Sep.mk (o := .lst []) S9 m1
          refine ⟨_, _, .inr (S10.t (same_t s10 qv)), atI_nat (j := 0) rfl, sz, fun a2 m2 => ?_⟩
          obtain ⟨G11, s11, S11, k11⟩ := Sep.mk (o := .tup [.str "say", .str (mrk t'), .str "row"]) S10 m2
          refine ⟨sz, fun a3 m3 => ?_⟩
          obtain ⟨G12, s12, S12, k12⟩ := Sep.mk (o := .lst [.ref a2]) S11 m3
          refine ⟨sz, fun a4 m4 => ?_⟩
          obtain ⟨G13, s13, S13, k13⟩ := Sep.mk (o := .lst [.ref a1, .ref a3]) S12 m4
          have s913 := s10.trans (s11.trans (s12.trans s13))
          refine ⟨G13, _, b, o8, 2, rfl, S13, B8.same (s9.trans s913), by decide, by decide, fun r14 o14 H14 r140 r141 B14 S14 => ?_⟩
          obtain ⟨R, xs, ps, hat2, hR, hps, hch, hpl⟩ : ∃ (R : Addr) (xs : List V) (ps : List Pt), atI [V.ref a1, .ref a3] r14 = some (.ref R) ∧ G13 R = some (.lst xs) ∧ DpAll K G13 xs (ps.map ptD) ∧ Chn ps t' ∧ ps.length ≤ 1 := by
            rcases (show r14 = 0 ∨ r14 = 1 by omega) with rfl | rfl
            · exact ⟨a1, [], [], rfl, (s11.trans (s12.trans s13)) _ _ k10, .nil, gt, by decide⟩
            · exact ⟨a3, [.ref a2], [.say (mrk t') "row"], rfl, s13 _ _ k12, dpa_one (.tup (SqT.of ((s12.trans s13) _ _ k11)) (.cons (.str _) (.cons (.str _) (.cons (.str _) .nil)))), chn_say gt (Tx.lit _ (by decide +kernel)), Nat.le_refl _⟩
          refine ⟨_, _, .inl (SqL.of (S14.st k13)), hat2, ?_⟩
          refine fun pg dp npg ndp nep => ⟨G13, _, pg, dp, _, t', rfl, S14.new2 npg ndp nep, dp_same s913 hv, by omega, fun p hp => (gt.ok.tx p hp).1, fun _ _ G15 H15 s15 hpg S15 => ⟨rfl, ?_⟩, fun m e => no gt.nd e, fun _ l => by omega⟩
          refine fun px dpx npx ndpx nex => ⟨G15, _, px, dpx, pg, R, xs, t', ps, rfl, S15.drop.new2 npx ndpx nex, hpg, fun G' H' s' S' => S'.st (s' _ _ (s15 _ _ hR)), dpa_same s15 hps, hch, by omega, fun G16 H16 s16 hpt S16 => ⟨rfl, ?_⟩⟩
          have s1316 := s15.trans s16
          have s816 := s9.trans (s913.trans s1316)
          have s416 := s8.trans s816
          have S17 := S16.drop
          refine ⟨_, _, .inr (S17.t (same_t (s913.trans s1316) qv)), atI_nat (j := 0) rfl, G16, _, qq.x, px, qq.o, qq.t, t', ps, rfl, S17.perm (perm3 _ _ _ _), kq.ld.same s416, hpt, gq, hch, ne, fun H18 S18 => ?_⟩
          have S19 := S18.perm (perm3 _ _ _ _).symm
          exact ⟨ff, fun _ => ⟨_, _, G16, o14, rfl, s416, B14.same s1316, S19⟩⟩
        · obtain ⟨y8', y9', G7, o7, rfl, s7, B7, S7⟩ := h
          have kq7 := kq.same s7
          refine ⟨G7, _, b, o7, qq.D, qq.t, qq.N, qq.pl, rfl, S7, B7, kq7.fl, kq7.wl, kq7.m0, kq7.pl, fun r ps u o8 G8 H8 s8 on B8 S8 => ?_⟩
          obtain ⟨X, D', xs, hr, hX, hps, pl, rw1, hD'⟩ := on
          refine ⟨r, _, rfl, SqT.of (S8.st hr), rfl, _, _, rfl, _, _, rfl, rfl, ?_⟩
          have kq8 := kq7.same s8
          have wu := rw1.wl.len
          obtain ⟨us, hDl, hus⟩ := id kq8.fl
          obtain ⟨us', hDl', hus'⟩ := id hD'
          refine ⟨G8, _, qq.D, us, fl 0 qq.t, rfl, S8, hDl, hus, fl_flok _, by omega, fun v1 t1 G9 H9 s9 hv1 et1 S9 => ?_⟩
          rw [fl_inj et1] at hv1
          refine ⟨G9, _, D', us', fl 0 u, rfl, S9, s9 _ _ hDl', prd_imp (fun _ _ => FlAt.same s9) hus', fl_flok _, by omega, fun v2 t2 G10 H10 s10 hv2 et2 S10 => ?_⟩
          rw [fl_inj et2] at hv2
          have s810 := s9.trans s10
          refine ⟨G10, _, b, qq.x, X, v1, v2, qq.o, o8, qq.t, u, ps, xs, rfl, S10.perm (perm3 _ _ _ _), kq8.ld.same s810, B8.same s810, dp_same s10 hv1, hv2, s810 _ _ hX, dpa_same s810 hps, pl, rw1.ch, rw1.ru, fun o11 o12 G11 H11 s11 L11 B11 S11 => ⟨ff, fun _ => ?_⟩⟩
          have s811 := s810.trans s11
          have S12 := S11.perm (perm3 _ _ _ _)
          refine ⟨qq.W, _, 1, 1, rfl, rfl, S12.hd, rfl, ?_⟩
          have S13 := (S12.set (o' := .lst [.ref qq.pl, .ref D', .ref qq.x])).perm (perm3 _ _ _ _)
          obtain ⟨p0', p1', f0, f1, pm', all⟩ := back ⟨qq.W, qq.pl, D', qq.x, qq.N, u, o11⟩ rfl
          have s411 := s7.trans (s8.trans s811)
          have kr' := kr.same s411
          have kq' : ROk K T.C_Laid T.C_Page G11 ⟨qq.W, qq.pl, D', qq.x, qq.N, u, o11⟩ := ⟨kq8.pl.same s811, kq.qu, hD'.same s811, rw1.wl, by
            show some (mrk u) = _
            rw [rw1.mk0]
            exact kq.m0, L11⟩
          have kk := all (ROk K T.C_Laid T.C_Page G11) kq' kr'
          refine ⟨_, _, _, _, _, _, _, _, p0', p1', G11, o12, rfl, f0.trans e0, f1.trans e1, s4.trans s411, kk.1, kk.2, B11, ?_⟩
          exact S13.perm (pm'.cons _)
      · exact q _

end
end K19
set_option Elab.async false
set_option linter.all false
set_option maxRecDepth 100000
set_option maxHeartbeats 4000000
namespace K19
open PySem PySem.Spec PyProof.Rows L2 XL
theorem law_end {l : PySem.W.OpenLaw} {w : World} {K : PySem.W.Frag} {h : Heap} {mg : Str → Option Value} {fa f : Addr} {file : Str} (X : K.In h) (G : h.Ns mainGlobals mg) (hfa : mg "law" = some (.ref fa))
    (t : ∃ T : Top K mg w, T.a_law = f ∧ T.x_file = file ∧ ∀ (s : Shared) (v : Value), BindsTo s T.d_law ⟨[v], []⟩ [("_law_script", v)]) (pf0 : PySem.XExc.PF l.prog file) :
    ∃ fd : FuncData, (∀ (s : Shared) (v : Value), BindsTo s fd ⟨[v], []⟩ [("_law_script", v)]) ∧ ∀ base : Heap, K.In base → base.Ns mainGlobals mg → FnOk l.prog w K mg base CX0 90 fa fd ["_law_script"] (spLaw K) := by
  obtain ⟨T, _, ef, hb⟩ := t
  have pf : PySem.XExc.PF l.prog T.x_file := by rw [ef]; exact pf0
  have e := hfa.symm.trans T.g_law
  cases e
  refine ⟨T.d_law, hb, fun base _ _ => ?_⟩
  have Gp : FnOk l.prog w K mg base CX0 2 T.a_pick T.d_pick _ spPick := ok_pick T (k := 0) (ok_mixed T)
  have Gch : FnOk l.prog w K mg base CX0 3 T.a_choice T.d_choice _ (spChoice K) := ok_choice T (k := 2) Gp
  have Gtx : FnOk l.prog w K mg base CX0 3 T.a_text T.d_text _ spText := ok_text T (k := 2) Gp
  have Glb : FnOk l.prog w K mg base CX0 4 T.a_label T.d_label _ spLabel := ok_label T (k := 2) Gp Gtx Gch
  have Gmk : FnOk l.prog w K mg base CX0 4 T.a_marks T.d_marks _ spMarks := ok_marks T (k := 2) Gp Gtx
  have Gfl : FnOk l.prog w K mg base CX0 5 T.a_flat T.d_flat _ spFlat := ok_flat T (k := 2) Gp Glb
  have Gmi : FnOk l.prog w K mg base CX0 3 T.a_mingled T.d_mingled _ (spMingled K) := ok_mingled T (k := 2) Gp
  have Gfr : FnOk l.prog w K mg base CX0 6 T.a_fresh T.d_fresh _ (spFresh K) := ok_fresh T (k := 5) (Gp.mono (by decide)) (Gmi.mono (by decide)) Gfl
  have Ggr : FnOk l.prog w K mg base CX0 1 T.a_grown T.d_grown _ (spGrown K) := ok_grown T (k := 0)
  have Gen : FnOk l.prog w K mg base CX0 1 T.a_end T.d_end _ spEnd := ok_end T (k := 0)
  have Gov : FnOk l.prog w K mg base CX0 1 T.a_over T.d_over _ spOver := ok_over T (k := 0)
  have Gbn : FnOk l.prog w K mg base CX0 2 T.a_beneath T.d_beneath _ spBn := ok_beneath T (k := 1) Gen
  have Gsp : FnOk l.prog w K mg base CX0 3 T.a_spot T.d_spot _ spSpot := ok_spot T (k := 2) (Gen.mono (by decide)) Gbn
  have Gmv : FnOk l.prog w K mg base CX0 4 T.a_moved T.d_moved _ (spMoved K) := ok_moved T (k := 3) (Gp.mono (by decide)) (Gov.mono (by decide)) (Gen.mono (by decide)) (Gbn.mono (by decide)) Gsp
  have Ggf : FnOk l.prog w K mg base CX0 6 T.a_grafted T.d_grafted _ (spGraft K) := ok_grafted T (k := 5) (Gp.mono (by decide)) (Gbn.mono (by decide)) (Gsp.mono (by decide)) Gfl (Ggr.mono (by decide))
  have Ged : FnOk l.prog w K mg base CX0 7 T.a_edited T.d_edited _ (spEdited K) := ok_edited T (k := 6) (Gp.mono (by decide)) (Gch.mono (by decide)) (Glb.mono (by decide)) (Gen.mono (by decide)) (Gmv.mono (by decide)) Ggf
  have Grn : FnOk l.prog w K mg base CX0 4 T.a_renewed T.d_renewed _ (spRenew K) := ok_renewed T (k := 3) (Gp.mono (by decide)) Gch (Gov.mono (by decide)) (Gen.mono (by decide)) (Gbn.mono (by decide))
  have Gon : FnOk l.prog w K mg base CX0 8 T.a_onward T.d_onward _ (spOnw K) := ok_onward T (k := 7) (Gp.mono (by decide)) (Gch.mono (by decide)) (Gfr.mono (by decide)) (Gbn.mono (by decide)) (Ggr.mono (by decide)) (Grn.mono (by decide)) (Gmv.mono (by decide)) Ged
  have Gst : FnOk l.prog w K mg base CX0 3 T.a_stranger T.d_stranger _ (spStrange K) := ok_stranger T (k := 2) Gp
  have Gno : ∀ k, FnOk l.prog w K mg base CX0 (k + 1) T.a_node_on T.d_node_on _ (spNodeOn K) := fun k => ok_node_on T
  have Gwn : ∀ k, FnOk l.prog w K mg base CX0 (k + 1) T.a_with_node T.d_with_node _ (spWith K) := fun k => ok_with_node T
  have Gwc := ok_with_children T (k := 2) (Gno 1) (Gwn 1)
  have Gat := ok_check_at T (P := l.prog) (base := base) (k := 2) (ok_is_number T (k := 1))
  have Gcm := ok_check_marks T (P := l.prog) (base := base) (k := 2) (ok_order_of T (k := 1) (ok_nodes_of T))
  have Gra := ok_root_after T (P := l.prog) (base := base) (k := 4) (ok_check_patch T) (ok_path_to T) (ok_with_put T (k := 3) (Gno 2) Gwc Gat Gcm) (ok_with_say T (k := 3) (Gno 2) (Gwn 2)) (ok_with_drop T (k := 3) (Gno 2) Gwc) (ok_with_move T (k := 3) (Gno 2) Gwc Gat)
  have Gpi5 := ok_Page_init T pf (k := 3) (w := w) (base := base) (ok_nodes_of T)
  have Gpi7 := ok_Page_init T pf (k := 5) (w := w) (base := base) (ok_nodes_of T)
  have Gpt : FnOk l.prog w K mg base CX0 7 T.a_Patches_init T.d_Patches_init _ (spPtc K T.C_Patches T.C_Page) := ok_Patches_init T (k := 5) Gra (ok_Page_top T) Gpi5
  have Gag := ok_Laid_measure_again T (P := l.prog) (base := base) (ok_from_below T) (ok_Page_top T) (ok_measure T) (ok_rectangles T)
  have Gld := ok_Laid_init T Gag
  have Gtk := ok_Laid_take T pf Gag (ok_Page_eq T) (ok_Page_top T) (ok_Patches_page T) (ok_Patches_end T)
  have Grf := ok_refused T pf Gtk
  have Gdu : FnOk l.prog w K mg base CX0 70 T.a_due T.d_due _ (spDue K) := ok_due T (k := 69) (ok_pairs T (k := 8) (ok_measured T (k := 8)) 60)
  have Gta := ok_taken T pf (Gp.mono (by decide)) Gtk Gpi7 (ok_Page_top T) (ok_Laid_page T) Gpt Gdu Grf
  exact (ok_law T (ok_bag T) (Gp.mono (by decide)) (Gmk.mono (by decide)) (Gfr.mono (by decide)) (Ggr.mono (by decide)) Gpi7 Gld (Gpt.mono (by decide)) (Gst.mono (by decide)) Grf (Gon.mono (by decide)) (Gta.mono (by decide))).mono (by decide)
end K19
set_option Elab.async false
set_option linter.all false
set_option maxRecDepth 100000
set_option maxHeartbeats 4000000
namespace K19
open PySem PySem.Spec PyProof.Rows L2 XL
theorem top_mk {K : PySem.W.Frag} {W : World} {h : Heap} {mg : Str → Option Value} (X : K.In h) (G : h.Ns mainGlobals mg)
    {C0 : Addr}
    (ca0 : PySem.W.nsIn K mainGlobals "Page" = some (some (.ref C0)))
    {C1 : Addr}
    (ca1 : PySem.W.nsIn K mainGlobals "Patches" = some (some (.ref C1)))
    {C2 : Addr}
    (ca2 : PySem.W.nsIn K mainGlobals "Laid" = some (some (.ref C2)))
    {f0 : Addr} {od0 an0 : Option Addr} {sl0 : Array (Option Value)} {oc0 kV0 dc0 pm0 cd0 ct0 : Value}
    (a0 : PySem.W.nsIn K mainGlobals "measure" = some (some (.ref f0)))
    (l0 : K.lookup f0 = some ⟨oc0, od0, .func (PySem.W.fnOf "measure" "measure" (defArgs s_measure) (defBody s_measure) (defScope s_measure) .none kV0 dc0 pm0 an0 cd0 ct0), sl0⟩)
    (c0 : PySem.W.codeIn K cd0 "measure" = true)
    (k0 : PySem.W.keepIn K (.ref f0) = true)
    {f1 : Addr} {od1 an1 : Option Addr} {sl1 : Array (Option Value)} {oc1 kV1 dc1 pm1 cd1 ct1 : Value}
    (a1 : PySem.W.nsIn K mainGlobals "from_below" = some (some (.ref f1)))
    (l1 : K.lookup f1 = some ⟨oc1, od1, .func (PySem.W.fnOf "from_below" "from_below" (defArgs s_from_below) (defBody s_from_below) (defScope s_from_below) .none kV1 dc1 pm1 an1 cd1 ct1), sl1⟩)
    (c1 : PySem.W.codeIn K cd1 "from_below" = true)
    (k1 : PySem.W.keepIn K (.ref f1) = true)
    {f2 : Addr} {od2 an2 : Option Addr} {sl2 : Array (Option Value)} {oc2 kV2 dc2 pm2 cd2 ct2 : Value}
    (a2 : PySem.W.nsIn K mainGlobals "rectangles" = some (some (.ref f2)))
    (l2 : K.lookup f2 = some ⟨oc2, od2, .func (PySem.W.fnOf "rectangles" "rectangles" (defArgs s_rectangles) (defBody s_rectangles) (defScope s_rectangles) .none kV2 dc2 pm2 an2 cd2 ct2), sl2⟩)
    (c2 : PySem.W.codeIn K cd2 "rectangles" = true)
    (k2 : PySem.W.keepIn K (.ref f2) = true)
    {f3 : Addr} {od3 an3 : Option Addr} {sl3 : Array (Option Value)} {oc3 kV3 dc3 pm3 cd3 ct3 : Value}
    (a3 : PySem.W.findIn K (.ref C2) "__init__" = some (some (.ref f3)))
    (i3 : PySem.W.isFn K (.ref f3) = true)
    (l3 : K.lookup f3 = some ⟨oc3, od3, .func (PySem.W.fnOf "__init__" "Laid.__init__" (defArgs s_Laid_init) (defBody s_Laid_init) (defScope s_Laid_init) .none kV3 dc3 pm3 an3 cd3 ct3), sl3⟩)
    (c3 : PySem.W.codeIn K cd3 "Laid.__init__" = true)
    (k3 : PySem.W.keepIn K (.ref f3) = true)
    {f4 : Addr} {od4 an4 : Option Addr} {sl4 : Array (Option Value)} {oc4 kV4 dc4 pm4 cd4 ct4 : Value}
    {p4 : Addr} {pr4 : List Value}
    (a4 : PySem.W.findIn K (.ref C2) "page" = some (some (.ref p4)))
    (pg4 : PySem.W.specialIn K (.ref p4) "__get__" = some (some (.builtin "property.__get__")))
    (pt4 : PySem.W.takesIn K (.ref p4) = some true)
    (pc4 : PySem.W.recIn K p4 "property" = some (.ref f4 :: pr4))
    (l4 : K.lookup f4 = some ⟨oc4, od4, .func (PySem.W.fnOf "page" "Laid.page" (defArgs s_Laid_page) (defBody s_Laid_page) (defScope s_Laid_page) .none kV4 dc4 pm4 an4 cd4 ct4), sl4⟩)
    (c4 : PySem.W.codeIn K cd4 "Laid.page" = true)
    (k4 : PySem.W.keepIn K (.ref f4) = true)
    {f5 : Addr} {od5 an5 : Option Addr} {sl5 : Array (Option Value)} {oc5 kV5 dc5 pm5 cd5 ct5 : Value}
    (a5 : PySem.W.findIn K (.ref C2) "take" = some (some (.ref f5)))
    (i5 : PySem.W.isFn K (.ref f5) = true)
    (l5 : K.lookup f5 = some ⟨oc5, od5, .func (PySem.W.fnOf "take" "Laid.take" (defArgs s_Laid_take) (defBody s_Laid_take) (defScope s_Laid_take) .none kV5 dc5 pm5 an5 cd5 ct5), sl5⟩)
    (c5 : PySem.W.codeIn K cd5 "Laid.take" = true)
    (k5 : PySem.W.keepIn K (.ref f5) = true)
    {f6 : Addr} {od6 an6 : Option Addr} {sl6 : Array (Option Value)} {oc6 kV6 dc6 pm6 cd6 ct6 : Value}
    (a6 : PySem.W.findIn K (.ref C2) "measure_again" = some (some (.ref f6)))
    (i6 : PySem.W.isFn K (.ref f6) = true)
    (l6 : K.lookup f6 = some ⟨oc6, od6, .func (PySem.W.fnOf "measure_again" "Laid.measure_again" (defArgs s_Laid_measure_again) (defBody s_Laid_measure_again) (defScope s_Laid_measure_again) .none kV6 dc6 pm6 an6 cd6 ct6), sl6⟩)
    (c6 : PySem.W.codeIn K cd6 "Laid.measure_again" = true)
    (k6 : PySem.W.keepIn K (.ref f6) = true)
    {f7 : Addr} {od7 an7 : Option Addr} {sl7 : Array (Option Value)} {oc7 kV7 dc7 pm7 cd7 ct7 : Value}
    (a7 : PySem.W.nsIn K mainGlobals "nodes_of" = some (some (.ref f7)))
    (l7 : K.lookup f7 = some ⟨oc7, od7, .func (PySem.W.fnOf "nodes_of" "nodes_of" (defArgs s_nodes_of) (defBody s_nodes_of) (defScope s_nodes_of) .none kV7 dc7 pm7 an7 cd7 ct7), sl7⟩)
    (c7 : PySem.W.codeIn K cd7 "nodes_of" = true)
    (k7 : PySem.W.keepIn K (.ref f7) = true)
    {f8 : Addr} {od8 an8 : Option Addr} {sl8 : Array (Option Value)} {oc8 kV8 dc8 pm8 cd8 ct8 : Value}
    (a8 : PySem.W.nsIn K mainGlobals "order_of" = some (some (.ref f8)))
    (l8 : K.lookup f8 = some ⟨oc8, od8, .func (PySem.W.fnOf "order_of" "order_of" (defArgs s_order_of) (defBody s_order_of) (defScope s_order_of) .none kV8 dc8 pm8 an8 cd8 ct8), sl8⟩)
    (c8 : PySem.W.codeIn K cd8 "order_of" = true)
    (k8 : PySem.W.keepIn K (.ref f8) = true)
    {f9 : Addr} {od9 an9 : Option Addr} {sl9 : Array (Option Value)} {oc9 kV9 dc9 pm9 cd9 ct9 : Value}
    (a9 : PySem.W.findIn K (.ref C0) "__init__" = some (some (.ref f9)))
    (i9 : PySem.W.isFn K (.ref f9) = true)
    (l9 : K.lookup f9 = some ⟨oc9, od9, .func (PySem.W.fnOf "__init__" "Page.__init__" (defArgs s_Page_init) (defBody s_Page_init) (defScope s_Page_init) .none kV9 dc9 pm9 an9 cd9 ct9), sl9⟩)
    (c9 : PySem.W.codeIn K cd9 "Page.__init__" = true)
    (k9 : PySem.W.keepIn K (.ref f9) = true)
    {f10 : Addr} {od10 an10 : Option Addr} {sl10 : Array (Option Value)} {oc10 kV10 dc10 pm10 cd10 ct10 : Value}
    {p10 : Addr} {pr10 : List Value}
    (a10 : PySem.W.findIn K (.ref C0) "top" = some (some (.ref p10)))
    (pg10 : PySem.W.specialIn K (.ref p10) "__get__" = some (some (.builtin "property.__get__")))
    (pt10 : PySem.W.takesIn K (.ref p10) = some true)
    (pc10 : PySem.W.recIn K p10 "property" = some (.ref f10 :: pr10))
    (l10 : K.lookup f10 = some ⟨oc10, od10, .func (PySem.W.fnOf "top" "Page.top" (defArgs s_Page_top) (defBody s_Page_top) (defScope s_Page_top) .none kV10 dc10 pm10 an10 cd10 ct10), sl10⟩)
    (c10 : PySem.W.codeIn K cd10 "Page.top" = true)
    (k10 : PySem.W.keepIn K (.ref f10) = true)
    {f11 : Addr} {od11 an11 : Option Addr} {sl11 : Array (Option Value)} {oc11 kV11 dc11 pm11 cd11 ct11 : Value}
    (a11 : PySem.W.findIn K (.ref C0) "__eq__" = some (some (.ref f11)))
    (i11 : PySem.W.isFn K (.ref f11) = true)
    (l11 : K.lookup f11 = some ⟨oc11, od11, .func (PySem.W.fnOf "__eq__" "Page.__eq__" (defArgs s_Page_eq) (defBody s_Page_eq) (defScope s_Page_eq) .none kV11 dc11 pm11 an11 cd11 ct11), sl11⟩)
    (c11 : PySem.W.codeIn K cd11 "Page.__eq__" = true)
    (k11 : PySem.W.keepIn K (.ref f11) = true)
    {f12 : Addr} {od12 an12 : Option Addr} {sl12 : Array (Option Value)} {oc12 kV12 dc12 pm12 cd12 ct12 : Value}
    (a12 : PySem.W.nsIn K mainGlobals "is_number" = some (some (.ref f12)))
    (l12 : K.lookup f12 = some ⟨oc12, od12, .func (PySem.W.fnOf "is_number" "is_number" (defArgs s_is_number) (defBody s_is_number) (defScope s_is_number) .none kV12 dc12 pm12 an12 cd12 ct12), sl12⟩)
    (c12 : PySem.W.codeIn K cd12 "is_number" = true)
    (k12 : PySem.W.keepIn K (.ref f12) = true)
    {f13 : Addr} {od13 an13 : Option Addr} {sl13 : Array (Option Value)} {oc13 kV13 dc13 pm13 cd13 ct13 : Value}
    (a13 : PySem.W.nsIn K mainGlobals "check_patch" = some (some (.ref f13)))
    (l13 : K.lookup f13 = some ⟨oc13, od13, .func (PySem.W.fnOf "check_patch" "check_patch" (defArgs s_check_patch) (defBody s_check_patch) (defScope s_check_patch) .none kV13 dc13 pm13 an13 cd13 ct13), sl13⟩)
    (c13 : PySem.W.codeIn K cd13 "check_patch" = true)
    (k13 : PySem.W.keepIn K (.ref f13) = true)
    {f14 : Addr} {od14 an14 : Option Addr} {sl14 : Array (Option Value)} {oc14 kV14 dc14 pm14 cd14 ct14 : Value}
    (a14 : PySem.W.nsIn K mainGlobals "path_to" = some (some (.ref f14)))
    (l14 : K.lookup f14 = some ⟨oc14, od14, .func (PySem.W.fnOf "path_to" "path_to" (defArgs s_path_to) (defBody s_path_to) (defScope s_path_to) .none kV14 dc14 pm14 an14 cd14 ct14), sl14⟩)
    (c14 : PySem.W.codeIn K cd14 "path_to" = true)
    (k14 : PySem.W.keepIn K (.ref f14) = true)
    {f15 : Addr} {od15 an15 : Option Addr} {sl15 : Array (Option Value)} {oc15 kV15 dc15 pm15 cd15 ct15 : Value}
    (a15 : PySem.W.nsIn K mainGlobals "node_on" = some (some (.ref f15)))
    (l15 : K.lookup f15 = some ⟨oc15, od15, .func (PySem.W.fnOf "node_on" "node_on" (defArgs s_node_on) (defBody s_node_on) (defScope s_node_on) .none kV15 dc15 pm15 an15 cd15 ct15), sl15⟩)
    (c15 : PySem.W.codeIn K cd15 "node_on" = true)
    (k15 : PySem.W.keepIn K (.ref f15) = true)
    {f16 : Addr} {od16 an16 : Option Addr} {sl16 : Array (Option Value)} {oc16 kV16 dc16 pm16 cd16 ct16 : Value}
    (a16 : PySem.W.nsIn K mainGlobals "with_node" = some (some (.ref f16)))
    (l16 : K.lookup f16 = some ⟨oc16, od16, .func (PySem.W.fnOf "with_node" "with_node" (defArgs s_with_node) (defBody s_with_node) (defScope s_with_node) .none kV16 dc16 pm16 an16 cd16 ct16), sl16⟩)
    (c16 : PySem.W.codeIn K cd16 "with_node" = true)
    (k16 : PySem.W.keepIn K (.ref f16) = true)
    {f17 : Addr} {od17 an17 : Option Addr} {sl17 : Array (Option Value)} {oc17 kV17 dc17 pm17 cd17 ct17 : Value}
    (a17 : PySem.W.nsIn K mainGlobals "with_children" = some (some (.ref f17)))
    (l17 : K.lookup f17 = some ⟨oc17, od17, .func (PySem.W.fnOf "with_children" "with_children" (defArgs s_with_children) (defBody s_with_children) (defScope s_with_children) .none kV17 dc17 pm17 an17 cd17 ct17), sl17⟩)
    (c17 : PySem.W.codeIn K cd17 "with_children" = true)
    (k17 : PySem.W.keepIn K (.ref f17) = true)
    {f18 : Addr} {od18 an18 : Option Addr} {sl18 : Array (Option Value)} {oc18 kV18 dc18 pm18 cd18 ct18 : Value}
    (a18 : PySem.W.nsIn K mainGlobals "check_marks" = some (some (.ref f18)))
    (l18 : K.lookup f18 = some ⟨oc18, od18, .func (PySem.W.fnOf "check_marks" "check_marks" (defArgs s_check_marks) (defBody s_check_marks) (defScope s_check_marks) .none kV18 dc18 pm18 an18 cd18 ct18), sl18⟩)
    (c18 : PySem.W.codeIn K cd18 "check_marks" = true)
    (k18 : PySem.W.keepIn K (.ref f18) = true)
    {f19 : Addr} {od19 an19 : Option Addr} {sl19 : Array (Option Value)} {oc19 kV19 dc19 pm19 cd19 ct19 : Value}
    (a19 : PySem.W.nsIn K mainGlobals "check_at" = some (some (.ref f19)))
    (l19 : K.lookup f19 = some ⟨oc19, od19, .func (PySem.W.fnOf "check_at" "check_at" (defArgs s_check_at) (defBody s_check_at) (defScope s_check_at) .none kV19 dc19 pm19 an19 cd19 ct19), sl19⟩)
    (c19 : PySem.W.codeIn K cd19 "check_at" = true)
    (k19 : PySem.W.keepIn K (.ref f19) = true)
    {f20 : Addr} {od20 an20 : Option Addr} {sl20 : Array (Option Value)} {oc20 kV20 dc20 pm20 cd20 ct20 : Value}
    (a20 : PySem.W.nsIn K mainGlobals "with_put" = some (some (.ref f20)))
    (l20 : K.lookup f20 = some ⟨oc20, od20, .func (PySem.W.fnOf "with_put" "with_put" (defArgs s_with_put) (defBody s_with_put) (defScope s_with_put) .none kV20 dc20 pm20 an20 cd20 ct20), sl20⟩)
    (c20 : PySem.W.codeIn K cd20 "with_put" = true)
    (k20 : PySem.W.keepIn K (.ref f20) = true)
    {f21 : Addr} {od21 an21 : Option Addr} {sl21 : Array (Option Value)} {oc21 kV21 dc21 pm21 cd21 ct21 : Value}
    (a21 : PySem.W.nsIn K mainGlobals "with_say" = some (some (.ref f21)))
    (l21 : K.lookup f21 = some ⟨oc21, od21, .func (PySem.W.fnOf "with_say" "with_say" (defArgs s_with_say) (defBody s_with_say) (defScope s_with_say) .none kV21 dc21 pm21 an21 cd21 ct21), sl21⟩)
    (c21 : PySem.W.codeIn K cd21 "with_say" = true)
    (k21 : PySem.W.keepIn K (.ref f21) = true)
    {f22 : Addr} {od22 an22 : Option Addr} {sl22 : Array (Option Value)} {oc22 kV22 dc22 pm22 cd22 ct22 : Value}
    (a22 : PySem.W.nsIn K mainGlobals "with_drop" = some (some (.ref f22)))
    (l22 : K.lookup f22 = some ⟨oc22, od22, .func (PySem.W.fnOf "with_drop" "with_drop" (defArgs s_with_drop) (defBody s_with_drop) (defScope s_with_drop) .none kV22 dc22 pm22 an22 cd22 ct22), sl22⟩)
    (c22 : PySem.W.codeIn K cd22 "with_drop" = true)
    (k22 : PySem.W.keepIn K (.ref f22) = true)
    {f23 : Addr} {od23 an23 : Option Addr} {sl23 : Array (Option Value)} {oc23 kV23 dc23 pm23 cd23 ct23 : Value}
    (a23 : PySem.W.nsIn K mainGlobals "with_move" = some (some (.ref f23)))
    (l23 : K.lookup f23 = some ⟨oc23, od23, .func (PySem.W.fnOf "with_move" "with_move" (defArgs s_with_move) (defBody s_with_move) (defScope s_with_move) .none kV23 dc23 pm23 an23 cd23 ct23), sl23⟩)
    (c23 : PySem.W.codeIn K cd23 "with_move" = true)
    (k23 : PySem.W.keepIn K (.ref f23) = true)
    {f24 : Addr} {od24 an24 : Option Addr} {sl24 : Array (Option Value)} {oc24 kV24 dc24 pm24 cd24 ct24 : Value}
    (a24 : PySem.W.nsIn K mainGlobals "root_after" = some (some (.ref f24)))
    (l24 : K.lookup f24 = some ⟨oc24, od24, .func (PySem.W.fnOf "root_after" "root_after" (defArgs s_root_after) (defBody s_root_after) (defScope s_root_after) .none kV24 dc24 pm24 an24 cd24 ct24), sl24⟩)
    (c24 : PySem.W.codeIn K cd24 "root_after" = true)
    (k24 : PySem.W.keepIn K (.ref f24) = true)
    {f25 : Addr} {od25 an25 : Option Addr} {sl25 : Array (Option Value)} {oc25 kV25 dc25 pm25 cd25 ct25 : Value}
    (a25 : PySem.W.findIn K (.ref C1) "__init__" = some (some (.ref f25)))
    (i25 : PySem.W.isFn K (.ref f25) = true)
    (l25 : K.lookup f25 = some ⟨oc25, od25, .func (PySem.W.fnOf "__init__" "Patches.__init__" (defArgs s_Patches_init) (defBody s_Patches_init) (defScope s_Patches_init) .none kV25 dc25 pm25 an25 cd25 ct25), sl25⟩)
    (c25 : PySem.W.codeIn K cd25 "Patches.__init__" = true)
    (k25 : PySem.W.keepIn K (.ref f25) = true)
    {f26 : Addr} {od26 an26 : Option Addr} {sl26 : Array (Option Value)} {oc26 kV26 dc26 pm26 cd26 ct26 : Value}
    {p26 : Addr} {pr26 : List Value}
    (a26 : PySem.W.findIn K (.ref C1) "page" = some (some (.ref p26)))
    (pg26 : PySem.W.specialIn K (.ref p26) "__get__" = some (some (.builtin "property.__get__")))
    (pt26 : PySem.W.takesIn K (.ref p26) = some true)
    (pc26 : PySem.W.recIn K p26 "property" = some (.ref f26 :: pr26))
    (l26 : K.lookup f26 = some ⟨oc26, od26, .func (PySem.W.fnOf "page" "Patches.page" (defArgs s_Patches_page) (defBody s_Patches_page) (defScope s_Patches_page) .none kV26 dc26 pm26 an26 cd26 ct26), sl26⟩)
    (c26 : PySem.W.codeIn K cd26 "Patches.page" = true)
    (k26 : PySem.W.keepIn K (.ref f26) = true)
    {f27 : Addr} {od27 an27 : Option Addr} {sl27 : Array (Option Value)} {oc27 kV27 dc27 pm27 cd27 ct27 : Value}
    {p27 : Addr} {pr27 : List Value}
    (a27 : PySem.W.findIn K (.ref C1) "end" = some (some (.ref p27)))
    (pg27 : PySem.W.specialIn K (.ref p27) "__get__" = some (some (.builtin "property.__get__")))
    (pt27 : PySem.W.takesIn K (.ref p27) = some true)
    (pc27 : PySem.W.recIn K p27 "property" = some (.ref f27 :: pr27))
    (l27 : K.lookup f27 = some ⟨oc27, od27, .func (PySem.W.fnOf "end" "Patches.end" (defArgs s_Patches_end) (defBody s_Patches_end) (defScope s_Patches_end) .none kV27 dc27 pm27 an27 cd27 ct27), sl27⟩)
    (c27 : PySem.W.codeIn K cd27 "Patches.end" = true)
    (k27 : PySem.W.keepIn K (.ref f27) = true)
    {f28 : Addr} {od28 an28 : Option Addr} {sl28 : Array (Option Value)} {oc28 kV28 dc28 pm28 cd28 ct28 : Value}
    {p28 : Addr} {pr28 : List Value}
    (a28 : PySem.W.findIn K (.ref C1) "many" = some (some (.ref p28)))
    (pg28 : PySem.W.specialIn K (.ref p28) "__get__" = some (some (.builtin "property.__get__")))
    (pt28 : PySem.W.takesIn K (.ref p28) = some true)
    (pc28 : PySem.W.recIn K p28 "property" = some (.ref f28 :: pr28))
    (l28 : K.lookup f28 = some ⟨oc28, od28, .func (PySem.W.fnOf "many" "Patches.many" (defArgs s_Patches_many) (defBody s_Patches_many) (defScope s_Patches_many) .none kV28 dc28 pm28 an28 cd28 ct28), sl28⟩)
    (c28 : PySem.W.codeIn K cd28 "Patches.many" = true)
    (k28 : PySem.W.keepIn K (.ref f28) = true)
    {f29 : Addr} {od29 an29 : Option Addr} {sl29 : Array (Option Value)} {oc29 kV29 dc29 pm29 cd29 ct29 : Value}
    (a29 : PySem.W.nsIn K mainGlobals "_law_mixed" = some (some (.ref f29)))
    (l29 : K.lookup f29 = some ⟨oc29, od29, .func (PySem.W.fnOf "_law_mixed" "_law_mixed" (defArgs s_mixed) (defBody s_mixed) (defScope s_mixed) .none kV29 dc29 pm29 an29 cd29 ct29), sl29⟩)
    (c29 : PySem.W.codeIn K cd29 "_law_mixed" = true)
    (k29 : PySem.W.keepIn K (.ref f29) = true)
    {f30 : Addr} {od30 an30 : Option Addr} {sl30 : Array (Option Value)} {oc30 kV30 dc30 pm30 cd30 ct30 : Value}
    (a30 : PySem.W.nsIn K mainGlobals "_law_bag" = some (some (.ref f30)))
    (l30 : K.lookup f30 = some ⟨oc30, od30, .func (PySem.W.fnOf "_law_bag" "_law_bag" (defArgs s_bag) (defBody s_bag) (defScope s_bag) .none kV30 dc30 pm30 an30 cd30 ct30), sl30⟩)
    (c30 : PySem.W.codeIn K cd30 "_law_bag" = true)
    (k30 : PySem.W.keepIn K (.ref f30) = true)
    {f31 : Addr} {od31 an31 : Option Addr} {sl31 : Array (Option Value)} {oc31 kV31 dc31 pm31 cd31 ct31 : Value}
    (a31 : PySem.W.nsIn K mainGlobals "_law_pick" = some (some (.ref f31)))
    (l31 : K.lookup f31 = some ⟨oc31, od31, .func (PySem.W.fnOf "_law_pick" "_law_pick" (defArgs s_pick) (defBody s_pick) (defScope s_pick) .none kV31 dc31 pm31 an31 cd31 ct31), sl31⟩)
    (c31 : PySem.W.codeIn K cd31 "_law_pick" = true)
    (k31 : PySem.W.keepIn K (.ref f31) = true)
    {f32 : Addr} {od32 an32 : Option Addr} {sl32 : Array (Option Value)} {oc32 kV32 dc32 pm32 cd32 ct32 : Value}
    (a32 : PySem.W.nsIn K mainGlobals "_law_choice" = some (some (.ref f32)))
    (l32 : K.lookup f32 = some ⟨oc32, od32, .func (PySem.W.fnOf "_law_choice" "_law_choice" (defArgs s_choice) (defBody s_choice) (defScope s_choice) .none kV32 dc32 pm32 an32 cd32 ct32), sl32⟩)
    (c32 : PySem.W.codeIn K cd32 "_law_choice" = true)
    (k32 : PySem.W.keepIn K (.ref f32) = true)
    {f33 : Addr} {od33 an33 : Option Addr} {sl33 : Array (Option Value)} {oc33 kV33 dc33 pm33 cd33 ct33 : Value}
    (a33 : PySem.W.nsIn K mainGlobals "_law_mingled" = some (some (.ref f33)))
    (l33 : K.lookup f33 = some ⟨oc33, od33, .func (PySem.W.fnOf "_law_mingled" "_law_mingled" (defArgs s_mingled) (defBody s_mingled) (defScope s_mingled) .none kV33 dc33 pm33 an33 cd33 ct33), sl33⟩)
    (c33 : PySem.W.codeIn K cd33 "_law_mingled" = true)
    (k33 : PySem.W.keepIn K (.ref f33) = true)
    {f34 : Addr} {od34 an34 : Option Addr} {sl34 : Array (Option Value)} {oc34 kV34 dc34 pm34 cd34 ct34 : Value}
    (a34 : PySem.W.nsIn K mainGlobals "_law_text" = some (some (.ref f34)))
    (l34 : K.lookup f34 = some ⟨oc34, od34, .func (PySem.W.fnOf "_law_text" "_law_text" (defArgs s_text) (defBody s_text) (defScope s_text) .none kV34 dc34 pm34 an34 cd34 ct34), sl34⟩)
    (c34 : PySem.W.codeIn K cd34 "_law_text" = true)
    (k34 : PySem.W.keepIn K (.ref f34) = true)
    {f35 : Addr} {od35 an35 : Option Addr} {sl35 : Array (Option Value)} {oc35 kV35 dc35 pm35 cd35 ct35 : Value}
    (a35 : PySem.W.nsIn K mainGlobals "_law_label" = some (some (.ref f35)))
    (l35 : K.lookup f35 = some ⟨oc35, od35, .func (PySem.W.fnOf "_law_label" "_law_label" (defArgs s_label) (defBody s_label) (defScope s_label) .none kV35 dc35 pm35 an35 cd35 ct35), sl35⟩)
    (c35 : PySem.W.codeIn K cd35 "_law_label" = true)
    (k35 : PySem.W.keepIn K (.ref f35) = true)
    {f36 : Addr} {od36 an36 : Option Addr} {sl36 : Array (Option Value)} {oc36 kV36 dc36 pm36 cd36 ct36 : Value}
    (a36 : PySem.W.nsIn K mainGlobals "_law_marks" = some (some (.ref f36)))
    (l36 : K.lookup f36 = some ⟨oc36, od36, .func (PySem.W.fnOf "_law_marks" "_law_marks" (defArgs s_marks) (defBody s_marks) (defScope s_marks) .none kV36 dc36 pm36 an36 cd36 ct36), sl36⟩)
    (c36 : PySem.W.codeIn K cd36 "_law_marks" = true)
    (k36 : PySem.W.keepIn K (.ref f36) = true)
    {f37 : Addr} {od37 an37 : Option Addr} {sl37 : Array (Option Value)} {oc37 kV37 dc37 pm37 cd37 ct37 : Value}
    (a37 : PySem.W.nsIn K mainGlobals "_law_flat" = some (some (.ref f37)))
    (l37 : K.lookup f37 = some ⟨oc37, od37, .func (PySem.W.fnOf "_law_flat" "_law_flat" (defArgs s_flat) (defBody s_flat) (defScope s_flat) .none kV37 dc37 pm37 an37 cd37 ct37), sl37⟩)
    (c37 : PySem.W.codeIn K cd37 "_law_flat" = true)
    (k37 : PySem.W.keepIn K (.ref f37) = true)
    {f38 : Addr} {od38 an38 : Option Addr} {sl38 : Array (Option Value)} {oc38 kV38 dc38 pm38 cd38 ct38 : Value}
    (a38 : PySem.W.nsIn K mainGlobals "_law_grown" = some (some (.ref f38)))
    (l38 : K.lookup f38 = some ⟨oc38, od38, .func (PySem.W.fnOf "_law_grown" "_law_grown" (defArgs s_grown) (defBody s_grown) (defScope s_grown) .none kV38 dc38 pm38 an38 cd38 ct38), sl38⟩)
    (c38 : PySem.W.codeIn K cd38 "_law_grown" = true)
    (k38 : PySem.W.keepIn K (.ref f38) = true)
    {f39 : Addr} {od39 an39 : Option Addr} {sl39 : Array (Option Value)} {oc39 kV39 dc39 pm39 cd39 ct39 : Value}
    (a39 : PySem.W.nsIn K mainGlobals "_law_end" = some (some (.ref f39)))
    (l39 : K.lookup f39 = some ⟨oc39, od39, .func (PySem.W.fnOf "_law_end" "_law_end" (defArgs s_end) (defBody s_end) (defScope s_end) .none kV39 dc39 pm39 an39 cd39 ct39), sl39⟩)
    (c39 : PySem.W.codeIn K cd39 "_law_end" = true)
    (k39 : PySem.W.keepIn K (.ref f39) = true)
    {f40 : Addr} {od40 an40 : Option Addr} {sl40 : Array (Option Value)} {oc40 kV40 dc40 pm40 cd40 ct40 : Value}
    (a40 : PySem.W.nsIn K mainGlobals "_law_over" = some (some (.ref f40)))
    (l40 : K.lookup f40 = some ⟨oc40, od40, .func (PySem.W.fnOf "_law_over" "_law_over" (defArgs s_over) (defBody s_over) (defScope s_over) .none kV40 dc40 pm40 an40 cd40 ct40), sl40⟩)
    (c40 : PySem.W.codeIn K cd40 "_law_over" = true)
    (k40 : PySem.W.keepIn K (.ref f40) = true)
    {f41 : Addr} {od41 an41 : Option Addr} {sl41 : Array (Option Value)} {oc41 kV41 dc41 pm41 cd41 ct41 : Value}
    (a41 : PySem.W.nsIn K mainGlobals "_law_beneath" = some (some (.ref f41)))
    (l41 : K.lookup f41 = some ⟨oc41, od41, .func (PySem.W.fnOf "_law_beneath" "_law_beneath" (defArgs s_beneath) (defBody s_beneath) (defScope s_beneath) .none kV41 dc41 pm41 an41 cd41 ct41), sl41⟩)
    (c41 : PySem.W.codeIn K cd41 "_law_beneath" = true)
    (k41 : PySem.W.keepIn K (.ref f41) = true)
    {f42 : Addr} {od42 an42 : Option Addr} {sl42 : Array (Option Value)} {oc42 kV42 dc42 pm42 cd42 ct42 : Value}
    (a42 : PySem.W.nsIn K mainGlobals "_law_spot" = some (some (.ref f42)))
    (l42 : K.lookup f42 = some ⟨oc42, od42, .func (PySem.W.fnOf "_law_spot" "_law_spot" (defArgs s_spot) (defBody s_spot) (defScope s_spot) .none kV42 dc42 pm42 an42 cd42 ct42), sl42⟩)
    (c42 : PySem.W.codeIn K cd42 "_law_spot" = true)
    (k42 : PySem.W.keepIn K (.ref f42) = true)
    {f43 : Addr} {od43 an43 : Option Addr} {sl43 : Array (Option Value)} {oc43 kV43 dc43 pm43 cd43 ct43 : Value}
    (a43 : PySem.W.nsIn K mainGlobals "_law_moved" = some (some (.ref f43)))
    (l43 : K.lookup f43 = some ⟨oc43, od43, .func (PySem.W.fnOf "_law_moved" "_law_moved" (defArgs s_moved) (defBody s_moved) (defScope s_moved) .none kV43 dc43 pm43 an43 cd43 ct43), sl43⟩)
    (c43 : PySem.W.codeIn K cd43 "_law_moved" = true)
    (k43 : PySem.W.keepIn K (.ref f43) = true)
    {f44 : Addr} {od44 an44 : Option Addr} {sl44 : Array (Option Value)} {oc44 kV44 dc44 pm44 cd44 ct44 : Value}
    (a44 : PySem.W.nsIn K mainGlobals "_law_grafted" = some (some (.ref f44)))
    (l44 : K.lookup f44 = some ⟨oc44, od44, .func (PySem.W.fnOf "_law_grafted" "_law_grafted" (defArgs s_grafted) (defBody s_grafted) (defScope s_grafted) .none kV44 dc44 pm44 an44 cd44 ct44), sl44⟩)
    (c44 : PySem.W.codeIn K cd44 "_law_grafted" = true)
    (k44 : PySem.W.keepIn K (.ref f44) = true)
    {f45 : Addr} {od45 an45 : Option Addr} {sl45 : Array (Option Value)} {oc45 kV45 dc45 pm45 cd45 ct45 : Value}
    (a45 : PySem.W.nsIn K mainGlobals "_law_edited" = some (some (.ref f45)))
    (l45 : K.lookup f45 = some ⟨oc45, od45, .func (PySem.W.fnOf "_law_edited" "_law_edited" (defArgs s_edited) (defBody s_edited) (defScope s_edited) .none kV45 dc45 pm45 an45 cd45 ct45), sl45⟩)
    (c45 : PySem.W.codeIn K cd45 "_law_edited" = true)
    (k45 : PySem.W.keepIn K (.ref f45) = true)
    {f46 : Addr} {od46 an46 : Option Addr} {sl46 : Array (Option Value)} {oc46 kV46 dc46 pm46 cd46 ct46 : Value}
    (a46 : PySem.W.nsIn K mainGlobals "_law_fresh" = some (some (.ref f46)))
    (l46 : K.lookup f46 = some ⟨oc46, od46, .func (PySem.W.fnOf "_law_fresh" "_law_fresh" (defArgs s_fresh) (defBody s_fresh) (defScope s_fresh) .none kV46 dc46 pm46 an46 cd46 ct46), sl46⟩)
    (c46 : PySem.W.codeIn K cd46 "_law_fresh" = true)
    (k46 : PySem.W.keepIn K (.ref f46) = true)
    {f47 : Addr} {od47 an47 : Option Addr} {sl47 : Array (Option Value)} {oc47 kV47 dc47 pm47 cd47 ct47 : Value}
    (a47 : PySem.W.nsIn K mainGlobals "_law_renewed" = some (some (.ref f47)))
    (l47 : K.lookup f47 = some ⟨oc47, od47, .func (PySem.W.fnOf "_law_renewed" "_law_renewed" (defArgs s_renewed) (defBody s_renewed) (defScope s_renewed) .none kV47 dc47 pm47 an47 cd47 ct47), sl47⟩)
    (c47 : PySem.W.codeIn K cd47 "_law_renewed" = true)
    (k47 : PySem.W.keepIn K (.ref f47) = true)
    {f48 : Addr} {od48 an48 : Option Addr} {sl48 : Array (Option Value)} {oc48 kV48 dc48 pm48 cd48 ct48 : Value}
    (a48 : PySem.W.nsIn K mainGlobals "_law_onward" = some (some (.ref f48)))
    (l48 : K.lookup f48 = some ⟨oc48, od48, .func (PySem.W.fnOf "_law_onward" "_law_onward" (defArgs s_onward) (defBody s_onward) (defScope s_onward) .none kV48 dc48 pm48 an48 cd48 ct48), sl48⟩)
    (c48 : PySem.W.codeIn K cd48 "_law_onward" = true)
    (k48 : PySem.W.keepIn K (.ref f48) = true)
    {f49 : Addr} {od49 an49 : Option Addr} {sl49 : Array (Option Value)} {oc49 kV49 dc49 pm49 cd49 ct49 : Value}
    (a49 : PySem.W.nsIn K mainGlobals "_law_measured" = some (some (.ref f49)))
    (l49 : K.lookup f49 = some ⟨oc49, od49, .func (PySem.W.fnOf "_law_measured" "_law_measured" (defArgs s_measured) (defBody s_measured) (defScope s_measured) .none kV49 dc49 pm49 an49 cd49 ct49), sl49⟩)
    (c49 : PySem.W.codeIn K cd49 "_law_measured" = true)
    (k49 : PySem.W.keepIn K (.ref f49) = true)
    {f50 : Addr} {od50 an50 : Option Addr} {sl50 : Array (Option Value)} {oc50 kV50 dc50 pm50 cd50 ct50 : Value}
    (a50 : PySem.W.nsIn K mainGlobals "_law_pairs" = some (some (.ref f50)))
    (l50 : K.lookup f50 = some ⟨oc50, od50, .func (PySem.W.fnOf "_law_pairs" "_law_pairs" (defArgs s_pairs) (defBody s_pairs) (defScope s_pairs) .none kV50 dc50 pm50 an50 cd50 ct50), sl50⟩)
    (c50 : PySem.W.codeIn K cd50 "_law_pairs" = true)
    (k50 : PySem.W.keepIn K (.ref f50) = true)
    {f51 : Addr} {od51 an51 : Option Addr} {sl51 : Array (Option Value)} {oc51 kV51 dc51 pm51 cd51 ct51 : Value}
    (a51 : PySem.W.nsIn K mainGlobals "_law_due" = some (some (.ref f51)))
    (l51 : K.lookup f51 = some ⟨oc51, od51, .func (PySem.W.fnOf "_law_due" "_law_due" (defArgs s_due) (defBody s_due) (defScope s_due) .none kV51 dc51 pm51 an51 cd51 ct51), sl51⟩)
    (c51 : PySem.W.codeIn K cd51 "_law_due" = true)
    (k51 : PySem.W.keepIn K (.ref f51) = true)
    {f52 : Addr} {od52 an52 : Option Addr} {sl52 : Array (Option Value)} {oc52 kV52 dc52 pm52 cd52 ct52 : Value}
    (a52 : PySem.W.nsIn K mainGlobals "_law_refused" = some (some (.ref f52)))
    (l52 : K.lookup f52 = some ⟨oc52, od52, .func (PySem.W.fnOf "_law_refused" "_law_refused" (defArgs s_refused) (defBody s_refused) (defScope s_refused) .none kV52 dc52 pm52 an52 cd52 ct52), sl52⟩)
    (c52 : PySem.W.codeIn K cd52 "_law_refused" = true)
    (k52 : PySem.W.keepIn K (.ref f52) = true)
    {f53 : Addr} {od53 an53 : Option Addr} {sl53 : Array (Option Value)} {oc53 kV53 dc53 pm53 cd53 ct53 : Value}
    (a53 : PySem.W.nsIn K mainGlobals "_law_stranger" = some (some (.ref f53)))
    (l53 : K.lookup f53 = some ⟨oc53, od53, .func (PySem.W.fnOf "_law_stranger" "_law_stranger" (defArgs s_stranger) (defBody s_stranger) (defScope s_stranger) .none kV53 dc53 pm53 an53 cd53 ct53), sl53⟩)
    (c53 : PySem.W.codeIn K cd53 "_law_stranger" = true)
    (k53 : PySem.W.keepIn K (.ref f53) = true)
    {f54 : Addr} {od54 an54 : Option Addr} {sl54 : Array (Option Value)} {oc54 kV54 dc54 pm54 cd54 ct54 : Value}
    (a54 : PySem.W.nsIn K mainGlobals "_law_taken" = some (some (.ref f54)))
    (l54 : K.lookup f54 = some ⟨oc54, od54, .func (PySem.W.fnOf "_law_taken" "_law_taken" (defArgs s_taken) (defBody s_taken) (defScope s_taken) .none kV54 dc54 pm54 an54 cd54 ct54), sl54⟩)
    (c54 : PySem.W.codeIn K cd54 "_law_taken" = true)
    (k54 : PySem.W.keepIn K (.ref f54) = true)
    {f55 : Addr} {od55 an55 : Option Addr} {sl55 : Array (Option Value)} {oc55 kV55 dc55 pm55 cd55 ct55 : Value}
    (a55 : PySem.W.nsIn K mainGlobals "law" = some (some (.ref f55)))
    (l55 : K.lookup f55 = some ⟨oc55, od55, .func (PySem.W.fnOf "law" "law" (defArgs s_law) (defBody s_law) (defScope s_law) .none kV55 dc55 pm55 an55 cd55 ct55), sl55⟩)
    (c55 : PySem.W.codeIn K cd55 "law" = true)
    (k55 : PySem.W.keepIn K (.ref f55) = true)
    (z0 : PySem.W.nsIn K mainGlobals "abs" = some none)
    (z1 : PySem.W.nsIn K mainGlobals "bool" = some none)
    (z2 : PySem.W.nsIn K mainGlobals "enumerate" = some none)
    (z3 : PySem.W.nsIn K mainGlobals "int" = some none)
    (z4 : PySem.W.nsIn K mainGlobals "isinstance" = some none)
    (z5 : PySem.W.nsIn K mainGlobals "len" = some none)
    (z6 : PySem.W.nsIn K mainGlobals "list" = some none)
    (z7 : PySem.W.nsIn K mainGlobals "range" = some none)
    (z8 : PySem.W.nsIn K mainGlobals "str" = some none)
    (z9 : PySem.W.nsIn K mainGlobals "sum" = some none)
    (z10 : PySem.W.nsIn K mainGlobals "tuple" = some none)
    {w0 : Value}
    (y0 : PySem.W.nsIn K mainGlobals "MOST_NODES" = some (some w0))
    (x0 : ∃ t, w0 = .int 400 t)
    {U0 : Addr} {un0 : Nat} {us0 : Array (Option Value)} {ut0_0 : Tok} {ut0_1 : Tok} {ut0_2 : Tok} {ut0_3 : Tok}
    (ua0 : PySem.W.nsIn K mainGlobals "WORDS" = some (some (.ref U0)))
    (ul0 : K.lookup U0 = some ⟨.type "tuple", none, .seq #[.str "drop" ut0_0, .str "put" ut0_1, .str "move" ut0_2, .str "say" ut0_3] un0, us0⟩)
    {U1 : Addr} {un1 : Nat} {us1 : Array (Option Value)} {ut1_0 : Tok} {ut1_1 : Tok} {ut1_2 : Tok} {ut1_3 : Tok}
    (ua1 : PySem.W.nsIn K mainGlobals "LENGTHS" = some (some (.ref U1)))
    (ul1 : K.lookup U1 = some ⟨.type "tuple", none, .seq #[.int 2 ut1_0, .int 4 ut1_1, .int 3 ut1_2, .int 3 ut1_3] un1, us1⟩)
    (cg0 : PySem.W.plainGet K C0 Str.empty = true)
    (ch0 : PySem.W.hasDictIn K C0 = true)
    (co0 : PySem.W.plainOver K C0 = true)
    (cs0 : PySem.W.findIn K (.ref C0) "__setattr__" = some (some (.builtin "object.__setattr__")))
    (cf0_0 : PySem.W.findIn K (.ref C0) "tree" = some none)
    (cf0_1 : PySem.W.findIn K (.ref C0) "nodes" = some none)
    (cf0_2 : PySem.W.findIn K (.ref C0) "above" = some none)
    (cf0_3 : PySem.W.findIn K (.ref C0) "order" = some none)
    (cm0 : PySem.W.makesIn K C0 = true)
    (ck0 : PySem.W.keepIn K (.ref C0) = true)
    (ct0_a : PySem.W.findIn K (.ref C0) "__class__" = some (some (.builtin "object.__class__")))
    (ct0_b : PySem.W.specialIn K (.builtin "object.__class__") "__get__" = some (some (.builtin "getset_descriptor.__get__")))
    (ct0_c : PySem.W.takesIn K (.builtin "object.__class__") = some true)
    (ct0_d : PySem.W.mroIn K C0 (.type "object") = some true)
    (cg1 : PySem.W.plainGet K C1 Str.empty = true)
    (ch1 : PySem.W.hasDictIn K C1 = true)
    (co1 : PySem.W.plainOver K C1 = true)
    (cs1 : PySem.W.findIn K (.ref C1) "__setattr__" = some (some (.builtin "object.__setattr__")))
    (cf1_0 : PySem.W.findIn K (.ref C1) "first_page" = some none)
    (cf1_1 : PySem.W.findIn K (.ref C1) "last_page" = some none)
    (cf1_2 : PySem.W.findIn K (.ref C1) "rows" = some none)
    (cf1_3 : PySem.W.findIn K (.ref C1) "undone" = some none)
    (cm1 : PySem.W.makesIn K C1 = true)
    (ck1 : PySem.W.keepIn K (.ref C1) = true)
    (ct1_a : PySem.W.findIn K (.ref C1) "__class__" = some (some (.builtin "object.__class__")))
    (ct1_b : PySem.W.specialIn K (.builtin "object.__class__") "__get__" = some (some (.builtin "getset_descriptor.__get__")))
    (ct1_c : PySem.W.takesIn K (.builtin "object.__class__") = some true)
    (ct1_d : PySem.W.mroIn K C1 (.type "object") = some true)
    (cg2 : PySem.W.plainGet K C2 Str.empty = true)
    (ch2 : PySem.W.hasDictIn K C2 = true)
    (co2 : PySem.W.plainOver K C2 = true)
    (cs2 : PySem.W.findIn K (.ref C2) "__setattr__" = some (some (.builtin "object.__setattr__")))
    (cf2_0 : PySem.W.findIn K (.ref C2) "kept_page" = some none)
    (cf2_1 : PySem.W.findIn K (.ref C2) "pairs" = some none)
    (cf2_2 : PySem.W.findIn K (.ref C2) "sizes" = some none)
    (cf2_3 : PySem.W.findIn K (.ref C2) "places" = some none)
    (cf2_4 : PySem.W.findIn K (.ref C2) "marks" = some none)
    (cm2 : PySem.W.makesIn K C2 = true)
    (ck2 : PySem.W.keepIn K (.ref C2) = true)
    {file : Str}
    {E0 E1 E2 E3 : Addr}
    (xa0 : PySem.W.nsIn K mainGlobals "NoNode" = some (some (.ref E0)))
    (xa1 : PySem.W.nsIn K mainGlobals "TwiceMarked" = some (some (.ref E1)))
    (xa2 : PySem.W.nsIn K mainGlobals "TooMany" = some (some (.ref E2)))
    (xa3 : PySem.W.nsIn K mainGlobals "NotOnePage" = some (some (.ref E3)))
    {R0 : Addr}
    (ra0 : PySem.W.nsIn K mainGlobals "ScreenError" = some (some (.ref R0)))
    (rb0 : PySem.W.isClsIn K R0 = true)
    (rc0 : PySem.W.typeIn K (.ref R0) = some (.type "type"))
    {J0 : Addr}
    {xnm0 xq0 : Str} {xN0 : Addr} {xbs0 xbm0 xsub0 : List Value} {xsn0 : List Str} {xab0 : Bool} {xcol0 : Option Bool} {xdd0 : Option Addr} {xm00 xm10 xm20 xm30 xm50 : Option Value}
    (xL0 : K.lookup E0 = some (excClassObj xnm0 xq0 E0 xN0 xbs0 xbm0 true xsn0 xsub0 xab0 xcol0 xdd0 xm00 xm10 xm20 xm30 xm50 "ValueError.__new__"))
    (xr0 : PySem.HandSPX.refsVE xbm0 = true)
    (xs0 : PySem.W.findIn K (.ref E0) "__setattr__" = some (some (.builtin "object.__setattr__")))
    (xg0 : PySem.W.findIn K (.ref E0) "__getattribute__" = some (some (.builtin "BaseException.__getattribute__")))
    (xh0 : PySem.W.findIn K (.ref E0) "__getattr__" = some none)
    (xf0 : PySem.W.findIn K (.ref E0) "mark" = some none)
    (xi0 : PySem.W.findIn K (.ref E0) "__init__" = some (some (.ref J0)))
    (xt0 : PySem.W.typeIn K (.ref J0) = some (.type "function"))
    {xoc0 xkV0 xdc0 xpm0 xct0 xccl0 xcl0 : Value} {xod0 xan0 xcdd0 xcld0 : Option Addr} {xsl0 xccs0 xcsl0 : Array (Option Value)} {cda0 cc0 : Addr} {xvs0 : Array Value} {xtf0 : Tok}
    (xl0 : K.lookup J0 = some ⟨xoc0, xod0, .func (PySem.W.ksFn "__init__" "NoNode.__init__" (defArgs s_NoNode_init) (defBody s_NoNode_init) (defScope s_NoNode_init) .none xkV0 xdc0 xpm0 xan0 (.ref cda0) xct0 cc0), xsl0⟩)
    (xd0 : PySem.W.codeIn K (.ref cda0) "NoNode.__init__" = true)
    (xe0 : K.lookup cda0 = some ⟨xccl0, xcdd0, .fields xvs0, xccs0⟩)
    (xv0 : xvs0[2]? = some (.str file xtf0))
    (xc0 : K.lookup cc0 = some ⟨xcl0, xcld0, .cell (some (.ref E0)), xcsl0⟩)
    (xk0 : PySem.W.keepIn K (.ref E0) = true)
    (xb0 : PySem.W.subIn K (.ref E0) (.type "BaseException") = some true)
    (xy0 : PySem.W.typeIn K (.ref E0) = some (.type "type"))
    (xj0 : PySem.W.hasDictIn K E0 = true)
    (xp0 : PySem.W.ks_superIn K E0 E0 "__init__" = some (some (.builtin "ValueError.__init__")))
    (xw0 : PySem.W.subIn K (.ref E0) (.type "ValueError") = some true)
    (xz0 : PySem.W.mroIn K E0 (.ref E0) = some true)
    (xo0 : PySem.W.nsIn K cStatics "thirdparty.any" = some none)
    (xu0 : PySem.W.nsIn K mainGlobals "super" = some none)
    (xca0 : PySem.W.findIn K (.ref E0) "__class__" = some (some (.builtin "object.__class__")))
    (xcb0 : PySem.W.specialIn K (.builtin "object.__class__") "__get__" = some (some (.builtin "getset_descriptor.__get__")))
    (xcc0 : PySem.W.takesIn K (.builtin "object.__class__") = some true)
    (xcd0 : PySem.W.mroIn K E0 (.type "object") = some true)
    (xsc0 : PySem.W.isClsIn K E0 = true)
    (xss0 : PySem.W.subIn K (.ref E0) (.ref E0) = some true)
    {J1 : Addr}
    {xnm1 xq1 : Str} {xN1 : Addr} {xbs1 xbm1 xsub1 : List Value} {xsn1 : List Str} {xab1 : Bool} {xcol1 : Option Bool} {xdd1 : Option Addr} {xm01 xm11 xm21 xm31 xm51 : Option Value}
    (xL1 : K.lookup E1 = some (excClassObj xnm1 xq1 E1 xN1 xbs1 xbm1 true xsn1 xsub1 xab1 xcol1 xdd1 xm01 xm11 xm21 xm31 xm51 "ValueError.__new__"))
    (xr1 : PySem.HandSPX.refsVE xbm1 = true)
    (xs1 : PySem.W.findIn K (.ref E1) "__setattr__" = some (some (.builtin "object.__setattr__")))
    (xg1 : PySem.W.findIn K (.ref E1) "__getattribute__" = some (some (.builtin "BaseException.__getattribute__")))
    (xh1 : PySem.W.findIn K (.ref E1) "__getattr__" = some none)
    (xf1 : PySem.W.findIn K (.ref E1) "mark" = some none)
    (xi1 : PySem.W.findIn K (.ref E1) "__init__" = some (some (.ref J1)))
    (xt1 : PySem.W.typeIn K (.ref J1) = some (.type "function"))
    {xoc1 xkV1 xdc1 xpm1 xct1 xccl1 xcl1 : Value} {xod1 xan1 xcdd1 xcld1 : Option Addr} {xsl1 xccs1 xcsl1 : Array (Option Value)} {cda1 cc1 : Addr} {xvs1 : Array Value} {xtf1 : Tok}
    (xl1 : K.lookup J1 = some ⟨xoc1, xod1, .func (PySem.W.ksFn "__init__" "TwiceMarked.__init__" (defArgs s_TwiceMarked_init) (defBody s_TwiceMarked_init) (defScope s_TwiceMarked_init) .none xkV1 xdc1 xpm1 xan1 (.ref cda1) xct1 cc1), xsl1⟩)
    (xd1 : PySem.W.codeIn K (.ref cda1) "TwiceMarked.__init__" = true)
    (xe1 : K.lookup cda1 = some ⟨xccl1, xcdd1, .fields xvs1, xccs1⟩)
    (xv1 : xvs1[2]? = some (.str file xtf1))
    (xc1 : K.lookup cc1 = some ⟨xcl1, xcld1, .cell (some (.ref E1)), xcsl1⟩)
    (xk1 : PySem.W.keepIn K (.ref E1) = true)
    (xb1 : PySem.W.subIn K (.ref E1) (.type "BaseException") = some true)
    (xy1 : PySem.W.typeIn K (.ref E1) = some (.type "type"))
    (xj1 : PySem.W.hasDictIn K E1 = true)
    (xp1 : PySem.W.ks_superIn K E1 E1 "__init__" = some (some (.builtin "ValueError.__init__")))
    (xw1 : PySem.W.subIn K (.ref E1) (.type "ValueError") = some true)
    (xz1 : PySem.W.mroIn K E1 (.ref E1) = some true)
    (xo1 : PySem.W.nsIn K cStatics "thirdparty.any" = some none)
    (xu1 : PySem.W.nsIn K mainGlobals "super" = some none)
    (xca1 : PySem.W.findIn K (.ref E1) "__class__" = some (some (.builtin "object.__class__")))
    (xcb1 : PySem.W.specialIn K (.builtin "object.__class__") "__get__" = some (some (.builtin "getset_descriptor.__get__")))
    (xcc1 : PySem.W.takesIn K (.builtin "object.__class__") = some true)
    (xcd1 : PySem.W.mroIn K E1 (.type "object") = some true)
    (xsc1 : PySem.W.isClsIn K E1 = true)
    (xss1 : PySem.W.subIn K (.ref E1) (.ref E1) = some true)
    {J2 : Addr}
    {xnm2 xq2 : Str} {xN2 : Addr} {xbs2 xbm2 xsub2 : List Value} {xsn2 : List Str} {xab2 : Bool} {xcol2 : Option Bool} {xdd2 : Option Addr} {xm02 xm12 xm22 xm32 xm52 : Option Value}
    (xL2 : K.lookup E2 = some (excClassObj xnm2 xq2 E2 xN2 xbs2 xbm2 true xsn2 xsub2 xab2 xcol2 xdd2 xm02 xm12 xm22 xm32 xm52 "ValueError.__new__"))
    (xr2 : PySem.HandSPX.refsVE xbm2 = true)
    (xs2 : PySem.W.findIn K (.ref E2) "__setattr__" = some (some (.builtin "object.__setattr__")))
    (xg2 : PySem.W.findIn K (.ref E2) "__getattribute__" = some (some (.builtin "BaseException.__getattribute__")))
    (xh2 : PySem.W.findIn K (.ref E2) "__getattr__" = some none)
    (xf2 : PySem.W.findIn K (.ref E2) "count" = some none)
    (xi2 : PySem.W.findIn K (.ref E2) "__init__" = some (some (.ref J2)))
    (xt2 : PySem.W.typeIn K (.ref J2) = some (.type "function"))
    {xoc2 xkV2 xdc2 xpm2 xct2 xccl2 xcl2 : Value} {xod2 xan2 xcdd2 xcld2 : Option Addr} {xsl2 xccs2 xcsl2 : Array (Option Value)} {cda2 cc2 : Addr} {xvs2 : Array Value} {xtf2 : Tok}
    (xl2 : K.lookup J2 = some ⟨xoc2, xod2, .func (PySem.W.ksFn "__init__" "TooMany.__init__" (defArgs s_TooMany_init) (defBody s_TooMany_init) (defScope s_TooMany_init) .none xkV2 xdc2 xpm2 xan2 (.ref cda2) xct2 cc2), xsl2⟩)
    (xd2 : PySem.W.codeIn K (.ref cda2) "TooMany.__init__" = true)
    (xe2 : K.lookup cda2 = some ⟨xccl2, xcdd2, .fields xvs2, xccs2⟩)
    (xv2 : xvs2[2]? = some (.str file xtf2))
    (xc2 : K.lookup cc2 = some ⟨xcl2, xcld2, .cell (some (.ref E2)), xcsl2⟩)
    (xk2 : PySem.W.keepIn K (.ref E2) = true)
    (xb2 : PySem.W.subIn K (.ref E2) (.type "BaseException") = some true)
    (xy2 : PySem.W.typeIn K (.ref E2) = some (.type "type"))
    (xj2 : PySem.W.hasDictIn K E2 = true)
    (xp2 : PySem.W.ks_superIn K E2 E2 "__init__" = some (some (.builtin "ValueError.__init__")))
    (xw2 : PySem.W.subIn K (.ref E2) (.type "ValueError") = some true)
    (xz2 : PySem.W.mroIn K E2 (.ref E2) = some true)
    (xo2 : PySem.W.nsIn K cStatics "thirdparty.any" = some none)
    (xu2 : PySem.W.nsIn K mainGlobals "super" = some none)
    (xca2 : PySem.W.findIn K (.ref E2) "__class__" = some (some (.builtin "object.__class__")))
    (xcb2 : PySem.W.specialIn K (.builtin "object.__class__") "__get__" = some (some (.builtin "getset_descriptor.__get__")))
    (xcc2 : PySem.W.takesIn K (.builtin "object.__class__") = some true)
    (xcd2 : PySem.W.mroIn K E2 (.type "object") = some true)
    (xsc2 : PySem.W.isClsIn K E2 = true)
    (xss2 : PySem.W.subIn K (.ref E2) (.ref E2) = some true)
    {J3 : Addr}
    {xnm3 xq3 : Str} {xN3 : Addr} {xbs3 xbm3 xsub3 : List Value} {xsn3 : List Str} {xab3 : Bool} {xcol3 : Option Bool} {xdd3 : Option Addr} {xm03 xm13 xm23 xm33 xm53 : Option Value}
    (xL3 : K.lookup E3 = some (excClassObj xnm3 xq3 E3 xN3 xbs3 xbm3 true xsn3 xsub3 xab3 xcol3 xdd3 xm03 xm13 xm23 xm33 xm53 "ValueError.__new__"))
    (xr3 : PySem.HandSPX.refsVE xbm3 = true)
    (xs3 : PySem.W.findIn K (.ref E3) "__setattr__" = some (some (.builtin "object.__setattr__")))
    (xg3 : PySem.W.findIn K (.ref E3) "__getattribute__" = some (some (.builtin "BaseException.__getattribute__")))
    (xh3 : PySem.W.findIn K (.ref E3) "__getattr__" = some none)
    (xf3 : PySem.W.findIn K (.ref E3) "mark" = some none)
    (xi3 : PySem.W.findIn K (.ref E3) "__init__" = some (some (.ref J3)))
    (xt3 : PySem.W.typeIn K (.ref J3) = some (.type "function"))
    {xoc3 xkV3 xdc3 xpm3 xct3 xccl3 xcl3 : Value} {xod3 xan3 xcdd3 xcld3 : Option Addr} {xsl3 xccs3 xcsl3 : Array (Option Value)} {cda3 cc3 : Addr} {xvs3 : Array Value} {xtf3 : Tok}
    (xl3 : K.lookup J3 = some ⟨xoc3, xod3, .func (PySem.W.ksFn "__init__" "NotOnePage.__init__" (defArgs s_NotOnePage_init) (defBody s_NotOnePage_init) (defScope s_NotOnePage_init) .none xkV3 xdc3 xpm3 xan3 (.ref cda3) xct3 cc3), xsl3⟩)
    (xd3 : PySem.W.codeIn K (.ref cda3) "NotOnePage.__init__" = true)
    (xe3 : K.lookup cda3 = some ⟨xccl3, xcdd3, .fields xvs3, xccs3⟩)
    (xv3 : xvs3[2]? = some (.str file xtf3))
    (xc3 : K.lookup cc3 = some ⟨xcl3, xcld3, .cell (some (.ref E3)), xcsl3⟩)
    (xk3 : PySem.W.keepIn K (.ref E3) = true)
    (xb3 : PySem.W.subIn K (.ref E3) (.type "BaseException") = some true)
    (xy3 : PySem.W.typeIn K (.ref E3) = some (.type "type"))
    (xj3 : PySem.W.hasDictIn K E3 = true)
    (xp3 : PySem.W.ks_superIn K E3 E3 "__init__" = some (some (.builtin "ValueError.__init__")))
    (xw3 : PySem.W.subIn K (.ref E3) (.type "ValueError") = some true)
    (xz3 : PySem.W.mroIn K E3 (.ref E3) = some true)
    (xo3 : PySem.W.nsIn K cStatics "thirdparty.any" = some none)
    (xu3 : PySem.W.nsIn K mainGlobals "super" = some none)
    (xca3 : PySem.W.findIn K (.ref E3) "__class__" = some (some (.builtin "object.__class__")))
    (xcb3 : PySem.W.specialIn K (.builtin "object.__class__") "__get__" = some (some (.builtin "getset_descriptor.__get__")))
    (xcc3 : PySem.W.takesIn K (.builtin "object.__class__") = some true)
    (xcd3 : PySem.W.mroIn K E3 (.type "object") = some true)
    (xn3_E0 : PySem.W.subIn K (.ref E3) (.ref E0) = some false)
    (xq3_E0 : (Value.ref E3 == Value.ref E0) = false)
    (xa3_0 : PySem.W.subIn K (.ref E3) (.ref R0) = some true)
    (xb3_0 : (Value.ref E3 == Value.ref R0) = false)
    (xsc3 : PySem.W.isClsIn K E3 = true)
    (xss3 : PySem.W.subIn K (.ref E3) (.ref E3) = some true)
    (nn0 : PySem.W.findIn K (.ref C0) "__ne__" = some (some (.builtin "object.__ne__")))
    (no0 : PySem.W.mroIn K C0 (.type "object") = some true)
    : ∃ T : Top K mg W, T.a_law = f55 ∧ T.x_file = file ∧ ∀ (s : Shared) (v : Value), BindsTo s T.d_law ⟨[v], []⟩ [("_law_script", v)] := by
  have F0 := fun_mk (st := s_measure) l0 c0 k0
  have F1 := fun_mk (st := s_from_below) l1 c1 k1
  have F2 := fun_mk (st := s_rectangles) l2 c2 k2
  have F3 := fun_mk (st := s_Laid_init) l3 c3 k3
  have F4 := fun_mk (st := s_Laid_page) l4 c4 k4
  have F5 := fun_mk (st := s_Laid_take) l5 c5 k5
  have F6 := fun_mk (st := s_Laid_measure_again) l6 c6 k6
  have F7 := fun_mk (st := s_nodes_of) l7 c7 k7
  have F8 := fun_mk (st := s_order_of) l8 c8 k8
  have F9 := fun_mk (st := s_Page_init) l9 c9 k9
  have F10 := fun_mk (st := s_Page_top) l10 c10 k10
  have F11 := fun_mk (st := s_Page_eq) l11 c11 k11
  have F12 := fun_mk (st := s_is_number) l12 c12 k12
  have F13 := fun_mk (st := s_check_patch) l13 c13 k13
  have F14 := fun_mk (st := s_path_to) l14 c14 k14
  have F15 := fun_mk (st := s_node_on) l15 c15 k15
  have F16 := fun_mk (st := s_with_node) l16 c16 k16
  have F17 := fun_mk (st := s_with_children) l17 c17 k17
  have F18 := fun_mk (st := s_check_marks) l18 c18 k18
  have F19 := fun_mk (st := s_check_at) l19 c19 k19
  have F20 := fun_mk (st := s_with_put) l20 c20 k20
  have F21 := fun_mk (st := s_with_say) l21 c21 k21
  have F22 := fun_mk (st := s_with_drop) l22 c22 k22
  have F23 := fun_mk (st := s_with_move) l23 c23 k23
  have F24 := fun_mk (st := s_root_after) l24 c24 k24
  have F25 := fun_mk (st := s_Patches_init) l25 c25 k25
  have F26 := fun_mk (st := s_Patches_page) l26 c26 k26
  have F27 := fun_mk (st := s_Patches_end) l27 c27 k27
  have F28 := fun_mk (st := s_Patches_many) l28 c28 k28
  have F29 := fun_mk (st := s_mixed) l29 c29 k29
  have F30 := fun_mk (st := s_bag) l30 c30 k30
  have F31 := fun_mk (st := s_pick) l31 c31 k31
  have F32 := fun_mk (st := s_choice) l32 c32 k32
  have F33 := fun_mk (st := s_mingled) l33 c33 k33
  have F34 := fun_mk (st := s_text) l34 c34 k34
  have F35 := fun_mk (st := s_label) l35 c35 k35
  have F36 := fun_mk (st := s_marks) l36 c36 k36
  have F37 := fun_mk (st := s_flat) l37 c37 k37
  have F38 := fun_mk (st := s_grown) l38 c38 k38
  have F39 := fun_mk (st := s_end) l39 c39 k39
  have F40 := fun_mk (st := s_over) l40 c40 k40
  have F41 := fun_mk (st := s_beneath) l41 c41 k41
  have F42 := fun_mk (st := s_spot) l42 c42 k42
  have F43 := fun_mk (st := s_moved) l43 c43 k43
  have F44 := fun_mk (st := s_grafted) l44 c44 k44
  have F45 := fun_mk (st := s_edited) l45 c45 k45
  have F46 := fun_mk (st := s_fresh) l46 c46 k46
  have F47 := fun_mk (st := s_renewed) l47 c47 k47
  have F48 := fun_mk (st := s_onward) l48 c48 k48
  have F49 := fun_mk (st := s_measured) l49 c49 k49
  have F50 := fun_mk (st := s_pairs) l50 c50 k50
  have F51 := fun_mk (st := s_due) l51 c51 k51
  have F52 := fun_mk (st := s_refused) l52 c52 k52
  have F53 := fun_mk (st := s_stranger) l53 c53 k53
  have F54 := fun_mk (st := s_taken) l54 c54 k54
  have F55 := fun_mk (st := s_law) l55 c55 k55
  exact ⟨⟨PySem.W.mg_none_of X G z0,
    PySem.W.mg_none_of X G z1,
    PySem.W.mg_none_of X G z2,
    PySem.W.mg_none_of X G z3,
    PySem.W.mg_none_of X G z4,
    PySem.W.mg_none_of X G z5,
    PySem.W.mg_none_of X G z6,
    PySem.W.mg_none_of X G z7,
    PySem.W.mg_none_of X G z8,
    PySem.W.mg_none_of X G z9,
    PySem.W.mg_none_of X G z10,
    (by obtain ⟨t, e⟩ := x0; exact ⟨t, e ▸ PySem.W.mg_of X G y0⟩),
    f0,
    _,
    F0,
    F0.binds (ps := ["label", "sizes"]) (fun _ _ _ _ _ _ us hl => match us, hl with | [_, _], _ => rfl),
    PySem.W.mg_of X G a0,
    f1,
    _,
    F1,
    F1.binds (ps := ["root"]) (fun _ _ _ _ _ _ us hl => match us, hl with | [_], _ => rfl),
    PySem.W.mg_of X G a1,
    f2,
    _,
    F2,
    F2.binds (ps := ["root", "sizes"]) (fun _ _ _ _ _ _ us hl => match us, hl with | [_, _], _ => rfl),
    PySem.W.mg_of X G a2,
    f3,
    _,
    F3,
    F3.binds (ps := ["self", "page"]) (fun _ _ _ _ _ _ us hl => match us, hl with | [_, _], _ => rfl),
    f4,
    _,
    F4,
    F4.binds (ps := ["self"]) (fun _ _ _ _ _ _ us hl => match us, hl with | [_], _ => rfl),
    f5,
    _,
    F5,
    F5.binds (ps := ["self", "patches"]) (fun _ _ _ _ _ _ us hl => match us, hl with | [_, _], _ => rfl),
    f6,
    _,
    F6,
    F6.binds (ps := ["self", "page"]) (fun _ _ _ _ _ _ us hl => match us, hl with | [_, _], _ => rfl),
    f7,
    _,
    F7,
    F7.binds (ps := ["root"]) (fun _ _ _ _ _ _ us hl => match us, hl with | [_], _ => rfl),
    PySem.W.mg_of X G a7,
    f8,
    _,
    F8,
    F8.binds (ps := ["root"]) (fun _ _ _ _ _ _ us hl => match us, hl with | [_], _ => rfl),
    PySem.W.mg_of X G a8,
    f9,
    _,
    F9,
    F9.binds (ps := ["self", "root"]) (fun _ _ _ _ _ _ us hl => match us, hl with | [_, _], _ => rfl),
    f10,
    _,
    F10,
    F10.binds (ps := ["self"]) (fun _ _ _ _ _ _ us hl => match us, hl with | [_], _ => rfl),
    f11,
    _,
    F11,
    F11.binds (ps := ["self", "other"]) (fun _ _ _ _ _ _ us hl => match us, hl with | [_, _], _ => rfl),
    f12,
    _,
    F12,
    F12.binds (ps := ["thing", "low", "high"]) (fun _ _ _ _ _ _ us hl => match us, hl with | [_, _, _], _ => rfl),
    PySem.W.mg_of X G a12,
    f13,
    _,
    F13,
    F13.binds (ps := ["patch"]) (fun _ _ _ _ _ _ us hl => match us, hl with | [_], _ => rfl),
    PySem.W.mg_of X G a13,
    f14,
    _,
    F14,
    F14.binds (ps := ["root", "mark"]) (fun _ _ _ _ _ _ us hl => match us, hl with | [_, _], _ => rfl),
    PySem.W.mg_of X G a14,
    f15,
    _,
    F15,
    F15.binds (ps := ["root", "path"]) (fun _ _ _ _ _ _ us hl => match us, hl with | [_, _], _ => rfl),
    PySem.W.mg_of X G a15,
    f16,
    _,
    F16,
    F16.binds (ps := ["root", "path", "node"]) (fun _ _ _ _ _ _ us hl => match us, hl with | [_, _, _], _ => rfl),
    PySem.W.mg_of X G a16,
    f17,
    _,
    F17,
    F17.binds (ps := ["root", "path", "children"]) (fun _ _ _ _ _ _ us hl => match us, hl with | [_, _, _], _ => rfl),
    PySem.W.mg_of X G a17,
    f18,
    _,
    F18,
    F18.binds (ps := ["root", "node"]) (fun _ _ _ _ _ _ us hl => match us, hl with | [_, _], _ => rfl),
    PySem.W.mg_of X G a18,
    f19,
    _,
    F19,
    F19.binds (ps := ["at", "count"]) (fun _ _ _ _ _ _ us hl => match us, hl with | [_, _], _ => rfl),
    PySem.W.mg_of X G a19,
    f20,
    _,
    F20,
    F20.binds (ps := ["root", "path", "patch"]) (fun _ _ _ _ _ _ us hl => match us, hl with | [_, _, _], _ => rfl),
    PySem.W.mg_of X G a20,
    f21,
    _,
    F21,
    F21.binds (ps := ["root", "path", "patch"]) (fun _ _ _ _ _ _ us hl => match us, hl with | [_, _, _], _ => rfl),
    PySem.W.mg_of X G a21,
    f22,
    _,
    F22,
    F22.binds (ps := ["root", "path"]) (fun _ _ _ _ _ _ us hl => match us, hl with | [_, _], _ => rfl),
    PySem.W.mg_of X G a22,
    f23,
    _,
    F23,
    F23.binds (ps := ["root", "path", "patch"]) (fun _ _ _ _ _ _ us hl => match us, hl with | [_, _, _], _ => rfl),
    PySem.W.mg_of X G a23,
    f24,
    _,
    F24,
    F24.binds (ps := ["root", "patch"]) (fun _ _ _ _ _ _ us hl => match us, hl with | [_, _], _ => rfl),
    PySem.W.mg_of X G a24,
    f25,
    _,
    F25,
    F25.binds (ps := ["self", "page", "rows"]) (fun _ _ _ _ _ _ us hl => match us, hl with | [_, _, _], _ => rfl),
    f26,
    _,
    F26,
    F26.binds (ps := ["self"]) (fun _ _ _ _ _ _ us hl => match us, hl with | [_], _ => rfl),
    f27,
    _,
    F27,
    F27.binds (ps := ["self"]) (fun _ _ _ _ _ _ us hl => match us, hl with | [_], _ => rfl),
    f28,
    _,
    F28,
    F28.binds (ps := ["self"]) (fun _ _ _ _ _ _ us hl => match us, hl with | [_], _ => rfl),
    f29,
    _,
    F29,
    F29.binds (ps := ["_law_number", "_law_turn"]) (fun _ _ _ _ _ _ us hl => match us, hl with | [_, _], _ => rfl),
    PySem.W.mg_of X G a29,
    f30,
    _,
    F30,
    F30.binds (ps := ["_law_script"]) (fun _ _ _ _ _ _ us hl => match us, hl with | [_], _ => rfl),
    PySem.W.mg_of X G a30,
    f31,
    _,
    F31,
    F31.binds (ps := ["_law_bag_here", "_law_many"]) (fun _ _ _ _ _ _ us hl => match us, hl with | [_, _], _ => rfl),
    PySem.W.mg_of X G a31,
    f32,
    _,
    F32,
    F32.binds (ps := ["_law_bag_here", "_law_things"]) (fun _ _ _ _ _ _ us hl => match us, hl with | [_, _], _ => rfl),
    PySem.W.mg_of X G a32,
    f33,
    _,
    F33,
    F33.binds (ps := ["_law_bag_here", "_law_things"]) (fun _ _ _ _ _ _ us hl => match us, hl with | [_, _], _ => rfl),
    PySem.W.mg_of X G a33,
    f34,
    _,
    F34,
    F34.binds (ps := ["_law_bag_here", "_law_least", "_law_most"]) (fun _ _ _ _ _ _ us hl => match us, hl with | [_, _, _], _ => rfl),
    PySem.W.mg_of X G a34,
    f35,
    _,
    F35,
    F35.binds (ps := ["_law_bag_here"]) (fun _ _ _ _ _ _ us hl => match us, hl with | [_], _ => rfl),
    PySem.W.mg_of X G a35,
    f36,
    _,
    F36,
    F36.binds (ps := ["_law_bag_here", "_law_count"]) (fun _ _ _ _ _ _ us hl => match us, hl with | [_, _], _ => rfl),
    PySem.W.mg_of X G a36,
    f37,
    _,
    F37,
    F37.binds (ps := ["_law_bag_here", "_law_marks_here", "_law_deepest"]) (fun _ _ _ _ _ _ us hl => match us, hl with | [_, _, _], _ => rfl),
    PySem.W.mg_of X G a37,
    f38,
    _,
    F38,
    F38.binds (ps := ["_law_flat_here"]) (fun _ _ _ _ _ _ us hl => match us, hl with | [_], _ => rfl),
    PySem.W.mg_of X G a38,
    f39,
    _,
    F39,
    F39.binds (ps := ["_law_flat_here", "_law_k"]) (fun _ _ _ _ _ _ us hl => match us, hl with | [_, _], _ => rfl),
    PySem.W.mg_of X G a39,
    f40,
    _,
    F40,
    F40.binds (ps := ["_law_flat_here", "_law_k"]) (fun _ _ _ _ _ _ us hl => match us, hl with | [_, _], _ => rfl),
    PySem.W.mg_of X G a40,
    f41,
    _,
    F41,
    F41.binds (ps := ["_law_flat_here", "_law_k"]) (fun _ _ _ _ _ _ us hl => match us, hl with | [_, _], _ => rfl),
    PySem.W.mg_of X G a41,
    f42,
    _,
    F42,
    F42.binds (ps := ["_law_flat_here", "_law_k", "_law_at"]) (fun _ _ _ _ _ _ us hl => match us, hl with | [_, _, _], _ => rfl),
    PySem.W.mg_of X G a42,
    f43,
    _,
    F43,
    F43.binds (ps := ["_law_bag_here", "_law_flat_here", "_law_k"]) (fun _ _ _ _ _ _ us hl => match us, hl with | [_, _, _], _ => rfl),
    PySem.W.mg_of X G a43,
    f44,
    _,
    F44,
    F44.binds (ps := ["_law_bag_here", "_law_flat_here", "_law_k", "_law_spare"]) (fun _ _ _ _ _ _ us hl => match us, hl with | [_, _, _, _], _ => rfl),
    PySem.W.mg_of X G a44,
    f45,
    _,
    F45,
    F45.binds (ps := ["_law_bag_here", "_law_flat_here", "_law_pool"]) (fun _ _ _ _ _ _ us hl => match us, hl with | [_, _, _], _ => rfl),
    PySem.W.mg_of X G a45,
    f46,
    _,
    F46,
    F46.binds (ps := ["_law_bag_here", "_law_pool"]) (fun _ _ _ _ _ _ us hl => match us, hl with | [_, _], _ => rfl),
    PySem.W.mg_of X G a46,
    f47,
    _,
    F47,
    F47.binds (ps := ["_law_bag_here", "_law_flat_here", "_law_pool"]) (fun _ _ _ _ _ _ us hl => match us, hl with | [_, _, _], _ => rfl),
    PySem.W.mg_of X G a47,
    f48,
    _,
    F48,
    F48.binds (ps := ["_law_bag_here", "_law_flat_here", "_law_pool"]) (fun _ _ _ _ _ _ us hl => match us, hl with | [_, _, _], _ => rfl),
    PySem.W.mg_of X G a48,
    f49,
    _,
    F49,
    F49.binds (ps := ["_law_label_here", "_law_sizes"]) (fun _ _ _ _ _ _ us hl => match us, hl with | [_, _], _ => rfl),
    PySem.W.mg_of X G a49,
    f50,
    _,
    F50,
    F50.binds (ps := ["_law_node", "_law_rows"]) (fun _ _ _ _ _ _ us hl => match us, hl with | [_, _], _ => rfl),
    PySem.W.mg_of X G a50,
    f51,
    _,
    F51,
    F51.binds (ps := ["_law_old", "_law_new"]) (fun _ _ _ _ _ _ us hl => match us, hl with | [_, _], _ => rfl),
    PySem.W.mg_of X G a51,
    f52,
    _,
    F52,
    F52.binds (ps := ["_law_laid", "_law_patches", "_law_mark"]) (fun _ _ _ _ _ _ us hl => match us, hl with | [_, _, _], _ => rfl),
    PySem.W.mg_of X G a52,
    f53,
    _,
    F53,
    F53.binds (ps := ["_law_bag_here", "_law_flat_here"]) (fun _ _ _ _ _ _ us hl => match us, hl with | [_, _], _ => rfl),
    PySem.W.mg_of X G a53,
    f54,
    _,
    F54,
    F54.binds (ps := ["_law_bag_here", "_law_laid", "_law_old", "_law_new", "_law_rows"]) (fun _ _ _ _ _ _ us hl => match us, hl with | [_, _, _, _, _], _ => rfl),
    PySem.W.mg_of X G a54,
    f55,
    _,
    F55,
    F55.binds (ps := ["_law_script"]) (fun _ _ _ _ _ _ us hl => match us, hl with | [_], _ => rfl),
    PySem.W.mg_of X G a55,
    U0,
    PySem.W.mg_of X G ua0,
    fun H => .inr ⟨_, _, _, ul0, rfl, rfl, XL.sz, .cons ⟨_, rfl⟩ (.cons ⟨_, rfl⟩ (.cons ⟨_, rfl⟩ (.cons ⟨_, rfl⟩ (.nil))))⟩,
    ⟨_, ul0, rfl, rfl⟩,
    U1,
    PySem.W.mg_of X G ua1,
    fun H => .inr ⟨_, _, _, ul1, rfl, rfl, XL.sz, .cons ⟨_, rfl⟩ (.cons ⟨_, rfl⟩ (.cons ⟨_, rfl⟩ (.cons ⟨_, rfl⟩ (.nil))))⟩,
    ⟨_, ul1, rfl, rfl⟩,
    C0,
    PySem.W.mg_of X G ca0,
    ⟨cg0, ch0, co0, cs0⟩,
    cf0_0,
    cf0_1,
    cf0_2,
    cf0_3,
    ⟨cm0, a9, i9, ck0⟩,
    ⟨a11, i11⟩,
    p10,
    ⟨a10, pg10, pt10, ⟨_, pc10⟩⟩,
    ⟨ct0_a, ct0_b, ct0_c, ct0_d, if_pos (beq_self_eq_true _)⟩,
    C1,
    PySem.W.mg_of X G ca1,
    ⟨cg1, ch1, co1, cs1⟩,
    cf1_0,
    cf1_1,
    cf1_2,
    cf1_3,
    ⟨cm1, a25, i25, ck1⟩,
    p26,
    ⟨a26, pg26, pt26, ⟨_, pc26⟩⟩,
    p27,
    ⟨a27, pg27, pt27, ⟨_, pc27⟩⟩,
    p28,
    ⟨a28, pg28, pt28, ⟨_, pc28⟩⟩,
    ⟨ct1_a, ct1_b, ct1_c, ct1_d, if_pos (beq_self_eq_true _)⟩,
    C2,
    PySem.W.mg_of X G ca2,
    ⟨cg2, ch2, co2, cs2⟩,
    cf2_0,
    cf2_1,
    cf2_2,
    cf2_3,
    cf2_4,
    ⟨cm2, a3, i3, ck2⟩,
    ⟨a6, i6, k6⟩,
    ⟨a5, i5, k5⟩,
    p4,
    ⟨a4, pg4, pt4, ⟨_, pc4⟩⟩,
    file,
    R0,
    PySem.W.mg_of X G ra0,
    E0,
    J0,
    PySem.W.mg_of X G xa0,
    fun P pf => { gC := PySem.W.mg_of X G xa0, cls := ⟨_, _, _, _, _, _, _, _, _, _, _, _, _, _, _, xL0, xr0⟩, sa := xs0, ga := xg0, gg := xh0, noN := xf0, iC := xi0, tC := xt0, kC := xk0, exC := xb0, tyC := xy0, hdC := xj0, fn := ⟨_, _, _, _, _, _, _, _, _, _, _, ⟨24, 17, 24, 21⟩, ⟨24, 23, 24, 27⟩, ⟨⟨25, 8, 25, 13⟩, ⟨25, 8, 25, 15⟩, ⟨25, 8, 25, 24⟩, ⟨25, 27, 25, 45⟩, ⟨25, 46, 25, 50⟩, ⟨25, 45, 25, 53⟩, ⟨25, 25, 25, 54⟩, ⟨25, 8, 25, 55⟩, ⟨25, 8, 25, 55⟩, ⟨26, 8, 26, 12⟩, ⟨26, 8, 26, 17⟩, ⟨26, 20, 26, 24⟩, ⟨26, 8, 26, 24⟩, 114, .inl rfl⟩, _, _, _, _, _, _, _, _, _, xl0, xd0, xe0, xv0, pf.1, xc0, ⟨_, fun _ => rfl⟩, fun _ _ => rfl⟩, sup := xp0, subV := xw0, mroS := xz0, opq := xo0, htop := pf.2, hsup := PySem.W.mg_none_of X G xu0, f1 := by decide, f2 := by decide, f3 := by decide, f4 := by decide, ml := by decide +kernel },
    ⟨xg0, xh0, xb0, xj0, xca0, xcb0, xcc0, xcd0⟩,
    ⟨xg0, xh0, xb0, xj0⟩,
    exm_of xb0 xsc0 xy0 xss0,
    E1,
    J1,
    PySem.W.mg_of X G xa1,
    fun P pf => { gC := PySem.W.mg_of X G xa1, cls := ⟨_, _, _, _, _, _, _, _, _, _, _, _, _, _, _, xL1, xr1⟩, sa := xs1, ga := xg1, gg := xh1, noN := xf1, iC := xi1, tC := xt1, kC := xk1, exC := xb1, tyC := xy1, hdC := xj1, fn := ⟨_, _, _, _, _, _, _, _, _, _, _, ⟨19, 17, 19, 21⟩, ⟨19, 23, 19, 27⟩, ⟨⟨20, 8, 20, 13⟩, ⟨20, 8, 20, 15⟩, ⟨20, 8, 20, 24⟩, ⟨20, 27, 20, 48⟩, ⟨20, 49, 20, 53⟩, ⟨20, 48, 20, 56⟩, ⟨20, 25, 20, 57⟩, ⟨20, 8, 20, 58⟩, ⟨20, 8, 20, 58⟩, ⟨21, 8, 21, 12⟩, ⟨21, 8, 21, 17⟩, ⟨21, 20, 21, 24⟩, ⟨21, 8, 21, 24⟩, 114, .inl rfl⟩, _, _, _, _, _, _, _, _, _, xl1, xd1, xe1, xv1, pf.1, xc1, ⟨_, fun _ => rfl⟩, fun _ _ => rfl⟩, sup := xp1, subV := xw1, mroS := xz1, opq := xo1, htop := pf.2, hsup := PySem.W.mg_none_of X G xu1, f1 := by decide, f2 := by decide, f3 := by decide, f4 := by decide, ml := by decide +kernel },
    ⟨xg1, xh1, xb1, xj1, xca1, xcb1, xcc1, xcd1⟩,
    ⟨xg1, xh1, xb1, xj1⟩,
    exm_of xb1 xsc1 xy1 xss1,
    E2,
    J2,
    PySem.W.mg_of X G xa2,
    fun P pf => { gC := PySem.W.mg_of X G xa2, cls := ⟨_, _, _, _, _, _, _, _, _, _, _, _, _, _, _, xL2, xr2⟩, sa := xs2, ga := xg2, gg := xh2, noN := xf2, iC := xi2, tC := xt2, kC := xk2, exC := xb2, tyC := xy2, hdC := xj2, fn := ⟨_, _, _, _, _, _, _, _, _, _, _, ⟨9, 17, 9, 21⟩, ⟨9, 23, 9, 28⟩, ⟨⟨10, 8, 10, 13⟩, ⟨10, 8, 10, 15⟩, ⟨10, 8, 10, 24⟩, ⟨10, 27, 10, 37⟩, ⟨10, 38, 10, 43⟩, ⟨10, 37, 10, 44⟩, ⟨10, 25, 10, 45⟩, ⟨10, 8, 10, 46⟩, ⟨10, 8, 10, 46⟩, ⟨11, 8, 11, 12⟩, ⟨11, 8, 11, 18⟩, ⟨11, 21, 11, 26⟩, ⟨11, 8, 11, 26⟩, -1, .inr rfl⟩, _, _, _, _, _, _, _, _, _, xl2, xd2, xe2, xv2, pf.1, xc2, ⟨_, fun _ => rfl⟩, fun _ _ => rfl⟩, sup := xp2, subV := xw2, mroS := xz2, opq := xo2, htop := pf.2, hsup := PySem.W.mg_none_of X G xu2, f1 := by decide, f2 := by decide, f3 := by decide, f4 := by decide, ml := by decide +kernel },
    ⟨xg2, xh2, xb2, xj2, xca2, xcb2, xcc2, xcd2⟩,
    ⟨xg2, xh2, xb2, xj2⟩,
    exm_of xb2 xsc2 xy2 xss2,
    E3,
    J3,
    PySem.W.mg_of X G xa3,
    fun P pf => { gC := PySem.W.mg_of X G xa3, cls := ⟨_, _, _, _, _, _, _, _, _, _, _, _, _, _, _, xL3, xr3⟩, sa := xs3, ga := xg3, gg := xh3, noN := xf3, iC := xi3, tC := xt3, kC := xk3, exC := xb3, tyC := xy3, hdC := xj3, fn := ⟨_, _, _, _, _, _, _, _, _, _, _, ⟨39, 17, 39, 21⟩, ⟨39, 23, 39, 27⟩, ⟨⟨40, 8, 40, 13⟩, ⟨40, 8, 40, 15⟩, ⟨40, 8, 40, 24⟩, ⟨40, 27, 40, 46⟩, ⟨40, 47, 40, 51⟩, ⟨40, 46, 40, 54⟩, ⟨40, 25, 40, 55⟩, ⟨40, 8, 40, 56⟩, ⟨40, 8, 40, 56⟩, ⟨41, 8, 41, 12⟩, ⟨41, 8, 41, 17⟩, ⟨41, 20, 41, 24⟩, ⟨41, 8, 41, 24⟩, 114, .inl rfl⟩, _, _, _, _, _, _, _, _, _, xl3, xd3, xe3, xv3, pf.1, xc3, ⟨_, fun _ => rfl⟩, fun _ _ => rfl⟩, sup := xp3, subV := xw3, mroS := xz3, opq := xo3, htop := pf.2, hsup := PySem.W.mg_none_of X G xu3, f1 := by decide, f2 := by decide, f3 := by decide, f4 := by decide, ml := by decide +kernel },
    ⟨xg3, xh3, xb3, xj3, xca3, xcb3, xcc3, xcd3⟩,
    ⟨xg3, xh3, xb3, xj3⟩,
    kit_of xb3_0 rb0 rc0 xa3_0,
    exm_of xb3 xsc3 xy3 xss3,
    kit_of xq3_E0 xsc0 xy0 xn3_E0,
    ⟨nn0, no0⟩⟩, rfl, rfl, fun s v => .of_eq rfl⟩
end K19
set_option Elab.async false
set_option linter.all false
set_option maxRecDepth 100000
set_option maxHeartbeats 4000000
namespace K19
open PySem PySem.Spec PyProof.Rows L2 XL
end K19
open PySem PySem.W PyProof.Rows
set_option maxHeartbeats 0 in
theorem PySem.Challenge.cw_drawnanew_k19_measured_again_holds : PySem.Challenge.rw_drawnanew_k19_measured_again.Holds := by
  w_on; o_law; k_head; (case hw => w_witness2)
  k_fill
  refine L2.walk_of (l := PySem.Challenge.rw_drawnanew_k19_measured_again) (n := 63) (k := 90) (x := "_law_script") (CX := fun _ => L2.CX0) (sp := fun w => K19.spLaw _) rfl (by decide) rfl ⟨rfl, by decide, by decide⟩ (fun w h Y => PySem.W.kIn_of Y) ?F (fun _ _ a ns hl _ hS => ⟨a, ns, rfl, hS, hl, fun _ => rfl⟩) (fun _ _ _ _ _ h => h)
  case F =>
    intro w mg fa h KX G hmg
    refine' K19.law_end KX G hmg (K19.top_mk (W := w) KX G ?ca0 ?ca1 ?ca2 ?a0 ?l0 ?c0 ?k0 ?a1 ?l1 ?c1 ?k1 ?a2 ?l2 ?c2 ?k2 ?a3 ?i3 ?l3 ?c3 ?k3 ?a4 ?pg4 ?pt4 ?pc4 ?l4 ?c4 ?k4 ?a5 ?i5 ?l5 ?c5 ?k5 ?a6 ?i6 ?l6 ?c6 ?k6 ?a7 ?l7 ?c7 ?k7 ?a8 ?l8 ?c8 ?k8 ?a9 ?i9 ?l9 ?c9 ?k9 ?a10 ?pg10 ?pt10 ?pc10 ?l10 ?c10 ?k10 ?a11 ?i11 ?l11 ?c11 ?k11 ?a12 ?l12 ?c12 ?k12 ?a13 ?l13 ?c13 ?k13 ?a14 ?l14 ?c14 ?k14 ?a15 ?l15 ?c15 ?k15 ?a16 ?l16 ?c16 ?k16 ?a17 ?l17 ?c17 ?k17 ?a18 ?l18 ?c18 ?k18 ?a19 ?l19 ?c19 ?k19 ?a20 ?l20 ?c20 ?k20 ?a21 ?l21 ?c21 ?k21 ?a22 ?l22 ?c22 ?k22 ?a23 ?l23 ?c23 ?k23 ?a24 ?l24 ?c24 ?k24 ?a25 ?i25 ?l25 ?c25 ?k25 ?a26 ?pg26 ?pt26 ?pc26 ?l26 ?c26 ?k26 ?a27 ?pg27 ?pt27 ?pc27 ?l27 ?c27 ?k27 ?a28 ?pg28 ?pt28 ?pc28 ?l28 ?c28 ?k28 ?a29 ?l29 ?c29 ?k29 ?a30 ?l30 ?c30 ?k30 ?a31 ?l31 ?c31 ?k31 ?a32 ?l32 ?c32 ?k32 ?a33 ?l33 ?c33 ?k33 ?a34 ?l34 ?c34 ?k34 ?a35 ?l35 ?c35 ?k35 ?a36 ?l36 ?c36 ?k36 ?a37 ?l37 ?c37 ?k37 ?a38 ?l38 ?c38 ?k38 ?a39 ?l39 ?c39 ?k39 ?a40 ?l40 ?c40 ?k40 ?a41 ?l41 ?c41 ?k41 ?a42 ?l42 ?c42 ?k42 ?a43 ?l43 ?c43 ?k43 ?a44 ?l44 ?c44 ?k44 ?a45 ?l45 ?c45 ?k45 ?a46 ?l46 ?c46 ?k46 ?a47 ?l47 ?c47 ?k47 ?a48 ?l48 ?c48 ?k48 ?a49 ?l49 ?c49 ?k49 ?a50 ?l50 ?c50 ?k50 ?a51 ?l51 ?c51 ?k51 ?a52 ?l52 ?c52 ?k52 ?a53 ?l53 ?c53 ?k53 ?a54 ?l54 ?c54 ?k54 ?a55 ?l55 ?c55 ?k55 ?z0 ?z1 ?z2 ?z3 ?z4 ?z5 ?z6 ?z7 ?z8 ?z9 ?z10 ?y0 ?x0 ?ua0 ?ul0 ?ua1 ?ul1 ?cg0 ?ch0 ?co0 ?cs0 ?cf0_0 ?cf0_1 ?cf0_2 ?cf0_3 ?cm0 ?ck0 ?ct0_a ?ct0_b ?ct0_c ?ct0_d ?cg1 ?ch1 ?co1 ?cs1 ?cf1_0 ?cf1_1 ?cf1_2 ?cf1_3 ?cm1 ?ck1 ?ct1_a ?ct1_b ?ct1_c ?ct1_d ?cg2 ?ch2 ?co2 ?cs2 ?cf2_0 ?cf2_1 ?cf2_2 ?cf2_3 ?cf2_4 ?cm2 ?ck2 ?xa0 ?xa1 ?xa2 ?xa3 ?ra0 ?rb0 ?rc0 ?xL0 ?xr0 ?xs0 ?xg0 ?xh0 ?xf0 ?xi0 ?xt0 ?xl0 ?xd0 ?xe0 ?xv0 ?xc0 ?xk0 ?xb0 ?xy0 ?xj0 ?xp0 ?xw0 ?xz0 ?xo0 ?xu0 ?xca0 ?xcb0 ?xcc0 ?xcd0 ?xsc0 ?xss0 ?xL1 ?xr1 ?xs1 ?xg1 ?xh1 ?xf1 ?xi1 ?xt1 ?xl1 ?xd1 ?xe1 ?xv1 ?xc1 ?xk1 ?xb1 ?xy1 ?xj1 ?xp1 ?xw1 ?xz1 ?xo1 ?xu1 ?xca1 ?xcb1 ?xcc1 ?xcd1 ?xsc1 ?xss1 ?xL2 ?xr2 ?xs2 ?xg2 ?xh2 ?xf2 ?xi2 ?xt2 ?xl2 ?xd2 ?xe2 ?xv2 ?xc2 ?xk2 ?xb2 ?xy2 ?xj2 ?xp2 ?xw2 ?xz2 ?xo2 ?xu2 ?xca2 ?xcb2 ?xcc2 ?xcd2 ?xsc2 ?xss2 ?xL3 ?xr3 ?xs3 ?xg3 ?xh3 ?xf3 ?xi3 ?xt3 ?xl3 ?xd3 ?xe3 ?xv3 ?xc3 ?xk3 ?xb3 ?xy3 ?xj3 ?xp3 ?xw3 ?xz3 ?xo3 ?xu3 ?xca3 ?xcb3 ?xcc3 ?xcd3 ?xn3_E0 ?xq3_E0 ?xa3_0 ?xb3_0 ?xsc3 ?xss3 ?nn0 ?no0) ?pf
    (case ca0 => k_is)
    (case ca1 => k_is)
    (case ca2 => k_is)
    (case a0 => k_is)
    (case l0 => k_is)
    (case c0 => k_is)
    (case k0 => k_is)
    (case a1 => k_is)
    (case l1 => k_is)
    (case c1 => k_is)
    (case k1 => k_is)
    (case a2 => k_is)
    (case l2 => k_is)
    (case c2 => k_is)
    (case k2 => k_is)
    (case a3 => k_is)
    (case i3 => k_is)
    (case l3 => k_is)
    (case c3 => k_is)
    (case k3 => k_is)
    (case a4 => k_is)
    (case pg4 => k_is)
    (case pt4 => k_is)
    (case pc4 => k_is)
    (case l4 => k_is)
    (case c4 => k_is)
    (case k4 => k_is)
    (case a5 => k_is)
    (case i5 => k_is)
    (case l5 => k_is)
    (case c5 => k_is)
    (case k5 => k_is)
    (case a6 => k_is)
    (case i6 => k_is)
    (case l6 => k_is)
    (case c6 => k_is)
    (case k6 => k_is)
    (case a7 => k_is)
    (case l7 => k_is)
    (case c7 => k_is)
    (case k7 => k_is)
    (case a8 => k_is)
    (case l8 => k_is)
    (case c8 => k_is)
    (case k8 => k_is)
    (case a9 => k_is)
    (case i9 => k_is)
    (case l9 => k_is)
    (case c9 => k_is)
    (case k9 => k_is)
    (case a10 => k_is)
    (case pg10 => k_is)
    (case pt10 => k_is)
    (case pc10 => k_is)
    (case l10 => k_is)
    (case c10 => k_is)
    (case k10 => k_is)
    (case a11 => k_is)
    (case i11 => k_is)
    (case l11 => k_is)
    (case c11 => k_is)
    (case k11 => k_is)
    (case a12 => k_is)
    (case l12 => k_is)
    (case c12 => k_is)
    (case k12 => k_is)
    (case a13 => k_is)
    (case l13 => k_is)
    (case c13 => k_is)
    (case k13 => k_is)
    (case a14 => k_is)
    (case l14 => k_is)
    (case c14 => k_is)
    (case k14 => k_is)
    (case a15 => k_is)
    (case l15 => k_is)
    (case c15 => k_is)
    (case k15 => k_is)
    (case a16 => k_is)
    (case l16 => k_is)
    (case c16 => k_is)
    (case k16 => k_is)
    (case a17 => k_is)
    (case l17 => k_is)
    (case c17 => k_is)
    (case k17 => k_is)
    (case a18 => k_is)
    (case l18 => k_is)
    (case c18 => k_is)
    (case k18 => k_is)
    (case a19 => k_is)
    (case l19 => k_is)
    (case c19 => k_is)
    (case k19 => k_is)
    (case a20 => k_is)
    (case l20 => k_is)
    (case c20 => k_is)
    (case k20 => k_is)
    (case a21 => k_is)
    (case l21 => k_is)
    (case c21 => k_is)
    (case k21 => k_is)
    (case a22 => k_is)
    (case l22 => k_is)
    (case c22 => k_is)
    (case k22 => k_is)
    (case a23 => k_is)
    (case l23 => k_is)
    (case c23 => k_is)
    (case k23 => k_is)
    (case a24 => k_is)
    (case l24 => k_is)
    (case c24 => k_is)
    (case k24 => k_is)
    (case a25 => k_is)
    (case i25 => k_is)
    (case l25 => k_is)
    (case c25 => k_is)
    (case k25 => k_is)
    (case a26 => k_is)
    (case pg26 => k_is)
    (case pt26 => k_is)
    (case pc26 => k_is)
    (case l26 => k_is)
    (case c26 => k_is)
    (case k26 => k_is)
    (case a27 => k_is)
    (case pg27 => k_is)
    (case pt27 => k_is)
    (case pc27 => k_is)
    (case l27 => k_is)
    (case c27 => k_is)
    (case k27 => k_is)
    (case a28 => k_is)
    (case pg28 => k_is)
    (case pt28 => k_is)
    (case pc28 => k_is)
    (case l28 => k_is)
    (case c28 => k_is)
    (case k28 => k_is)
    (case a29 => k_is)
    (case l29 => k_is)
    (case c29 => k_is)
    (case k29 => k_is)
    (case a30 => k_is)
    (case l30 => k_is)
    (case c30 => k_is)
    (case k30 => k_is)
    (case a31 => k_is)
    (case l31 => k_is)
    (case c31 => k_is)
    (case k31 => k_is)
    (case a32 => k_is)
    (case l32 => k_is)
    (case c32 => k_is)
    (case k32 => k_is)
    (case a33 => k_is)
    (case l33 => k_is)
    (case c33 => k_is)
    (case k33 => k_is)
    (case a34 => k_is)
    (case l34 => k_is)
    (case c34 => k_is)
    (case k34 => k_is)
    (case a35 => k_is)
    (case l35 => k_is)
    (case c35 => k_is)
    (case k35 => k_is)
    (case a36 => k_is)
    (case l36 => k_is)
    (case c36 => k_is)
    (case k36 => k_is)
    (case a37 => k_is)
    (case l37 => k_is)
    (case c37 => k_is)
    (case k37 => k_is)
    (case a38 => k_is)
    (case l38 => k_is)
    (case c38 => k_is)
    (case k38 => k_is)
    (case a39 => k_is)
    (case l39 => k_is)
    (case c39 => k_is)
    (case k39 => k_is)
    (case a40 => k_is)
    (case l40 => k_is)
    (case c40 => k_is)
    (case k40 => k_is)
    (case a41 => k_is)
    (case l41 => k_is)
    (case c41 => k_is)
    (case k41 => k_is)
    (case a42 => k_is)
    (case l42 => k_is)
    (case c42 => k_is)
    (case k42 => k_is)
    (case a43 => k_is)
    (case l43 => k_is)
    (case c43 => k_is)
    (case k43 => k_is)
    (case a44 => k_is)
    (case l44 => k_is)
    (case c44 => k_is)
    (case k44 => k_is)
    (case a45 => k_is)
    (case l45 => k_is)
    (case c45 => k_is)
    (case k45 => k_is)
    (case a46 => k_is)
    (case l46 => k_is)
    (case c46 => k_is)
    (case k46 => k_is)
    (case a47 => k_is)
    (case l47 => k_is)
    (case c47 => k_is)
    (case k47 => k_is)
    (case a48 => k_is)
    (case l48 => k_is)
    (case c48 => k_is)
    (case k48 => k_is)
    (case a49 => k_is)
    (case l49 => k_is)
    (case c49 => k_is)
    (case k49 => k_is)
    (case a50 => k_is)
    (case l50 => k_is)
    (case c50 => k_is)
    (case k50 => k_is)
    (case a51 => k_is)
    (case l51 => k_is)
    (case c51 => k_is)
    (case k51 => k_is)
    (case a52 => k_is)
    (case l52 => k_is)
    (case c52 => k_is)
    (case k52 => k_is)
    (case a53 => k_is)
    (case l53 => k_is)
    (case c53 => k_is)
    (case k53 => k_is)
    (case a54 => k_is)
    (case l54 => k_is)
    (case c54 => k_is)
    (case k54 => k_is)
    (case a55 => k_is)
    (case l55 => k_is)
    (case c55 => k_is)
    (case k55 => k_is)
    (case z0 => k_is)
    (case z1 => k_is)
    (case z2 => k_is)
    (case z3 => k_is)
    (case z4 => k_is)
    (case z5 => k_is)
    (case z6 => k_is)
    (case z7 => k_is)
    (case z8 => k_is)
    (case z9 => k_is)
    (case z10 => k_is)
    (case y0 => k_is)
    (case x0 => exact ⟨_, rfl⟩)
    (case ua0 => k_is)
    (case ul0 => k_is)
    (case ua1 => k_is)
    (case ul1 => k_is)
    (case cg0 => k_is)
    (case ch0 => k_is)
    (case co0 => k_is)
    (case cs0 => k_is)
    (case cf0_0 => k_is)
    (case cf0_1 => k_is)
    (case cf0_2 => k_is)
    (case cf0_3 => k_is)
    (case cm0 => k_is)
    (case ck0 => k_is)
    (case ct0_a => k_is)
    (case ct0_b => k_is)
    (case ct0_c => k_is)
    (case ct0_d => k_is)
    (case cg1 => k_is)
    (case ch1 => k_is)
    (case co1 => k_is)
    (case cs1 => k_is)
    (case cf1_0 => k_is)
    (case cf1_1 => k_is)
    (case cf1_2 => k_is)
    (case cf1_3 => k_is)
    (case cm1 => k_is)
    (case ck1 => k_is)
    (case ct1_a => k_is)
    (case ct1_b => k_is)
    (case ct1_c => k_is)
    (case ct1_d => k_is)
    (case cg2 => k_is)
    (case ch2 => k_is)
    (case co2 => k_is)
    (case cs2 => k_is)
    (case cf2_0 => k_is)
    (case cf2_1 => k_is)
    (case cf2_2 => k_is)
    (case cf2_3 => k_is)
    (case cf2_4 => k_is)
    (case cm2 => k_is)
    (case ck2 => k_is)
    (case xa0 => k_is)
    (case xa1 => k_is)
    (case xa2 => k_is)
    (case xa3 => k_is)
    (case ra0 => k_is)
    (case rb0 => k_is)
    (case rc0 => k_is)
    (case xL0 => k_is)
    (case xr0 => first | rfl | decide +kernel)
    (case xs0 => k_is)
    (case xg0 => k_is)
    (case xh0 => k_is)
    (case xf0 => k_is)
    (case xi0 => k_is)
    (case xt0 => k_is)
    (case xl0 => k_is)
    (case xd0 => k_is)
    (case xe0 => k_is)
    (case xv0 => rfl)
    (case xc0 => k_is)
    (case xk0 => k_is)
    (case xb0 => k_is)
    (case xy0 => k_is)
    (case xj0 => k_is)
    (case xp0 => ks_is)
    (case xw0 => k_is)
    (case xz0 => k_is)
    (case xo0 => k_is)
    (case xu0 => k_is)
    (case xca0 => k_is)
    (case xcb0 => k_is)
    (case xcc0 => k_is)
    (case xcd0 => k_is)
    (case xsc0 => k_is)
    (case xss0 => k_is)
    (case xL1 => k_is)
    (case xr1 => first | rfl | decide +kernel)
    (case xs1 => k_is)
    (case xg1 => k_is)
    (case xh1 => k_is)
    (case xf1 => k_is)
    (case xi1 => k_is)
    (case xt1 => k_is)
    (case xl1 => k_is)
    (case xd1 => k_is)
    (case xe1 => k_is)
    (case xv1 => rfl)
    (case xc1 => k_is)
    (case xk1 => k_is)
    (case xb1 => k_is)
    (case xy1 => k_is)
    (case xj1 => k_is)
    (case xp1 => ks_is)
    (case xw1 => k_is)
    (case xz1 => k_is)
    (case xo1 => k_is)
    (case xu1 => k_is)
    (case xca1 => k_is)
    (case xcb1 => k_is)
    (case xcc1 => k_is)
    (case xcd1 => k_is)
    (case xsc1 => k_is)
    (case xss1 => k_is)
    (case xL2 => k_is)
    (case xr2 => first | rfl | decide +kernel)
    (case xs2 => k_is)
    (case xg2 => k_is)
    (case xh2 => k_is)
    (case xf2 => k_is)
    (case xi2 => k_is)
    (case xt2 => k_is)
    (case xl2 => k_is)
    (case xd2 => k_is)
    (case xe2 => k_is)
    (case xv2 => rfl)
    (case xc2 => k_is)
    (case xk2 => k_is)
    (case xb2 => k_is)
    (case xy2 => k_is)
    (case xj2 => k_is)
    (case xp2 => ks_is)
    (case xw2 => k_is)
    (case xz2 => k_is)
    (case xo2 => k_is)
    (case xu2 => k_is)
    (case xca2 => k_is)
    (case xcb2 => k_is)
    (case xcc2 => k_is)
    (case xcd2 => k_is)
    (case xsc2 => k_is)
    (case xss2 => k_is)
    (case xL3 => k_is)
    (case xr3 => first | rfl | decide +kernel)
    (case xs3 => k_is)
    (case xg3 => k_is)
    (case xh3 => k_is)
    (case xf3 => k_is)
    (case xi3 => k_is)
    (case xt3 => k_is)
    (case xl3 => k_is)
    (case xd3 => k_is)
    (case xe3 => k_is)
    (case xv3 => rfl)
    (case xc3 => k_is)
    (case xk3 => k_is)
    (case xb3 => k_is)
    (case xy3 => k_is)
    (case xj3 => k_is)
    (case xp3 => ks_is)
    (case xw3 => k_is)
    (case xz3 => k_is)
    (case xo3 => k_is)
    (case xu3 => k_is)
    (case xca3 => k_is)
    (case xcb3 => k_is)
    (case xcc3 => k_is)
    (case xcd3 => k_is)
    (case xn3_E0 => k_is)
    (case xq3_E0 => rfl)
    (case xa3_0 => k_is)
    (case xb3_0 => rfl)
    (case xsc3 => k_is)
    (case xss3 => k_is)
    (case nn0 => k_is)
    (case no0 => k_is)
    (case pf => exact ⟨by first | rfl | decide +kernel, by first | rfl | decide +kernel⟩)
