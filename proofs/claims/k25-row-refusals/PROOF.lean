import PyProof.Rows.All
import Wide.All
import OpenK.AllK
import Wide.FinOn
import HandS.ForMost
import HandS.Flow
import HandS.IsInst
import HandS.Wide
import HandS.Walk
import PyProof.Rows.IntBool
import HandS.Property
import HandS.Star
import HandS.OwnEq
import HandS.SetFor
import KE.GoesEnum
import KE.GoesMore
import HandS.Strs
import HandS.Deep
import HandS.TupAny
import KE.KRevSl
import KE.KOpsOwn
import HandS.ForExc
import HandS.FStr
import HandS.ExcField
import HandS.ExcIs
import HandS.ExcSuper
import KE.KExcSuper
import KE.KExcIs
import HandS.OwnIter
import HandS.IterNext
import HandS.Text
import HandS.Zip
import HandS.HotCalls
import PyProof.ReprRoads
import HandS.Ends
import PyProof.AutoSeq1
import HandS.IterVal
import OpenK.KMake
import HandS.Defaults
import HandS.NoneIn
import HandS.Style
import PyProof.ReprNest
import PyProof.ReprReads
import PyProof.ReprHeads
import KE.GoesComp
import PySem.Challenge.RW_drawnanew_k25_row_refusals
set_option Elab.async false
set_option linter.all false
set_option maxRecDepth 100000
set_option maxHeartbeats 4000000
/-! XBase: readings that compute, over the hand layer; the heap cut into a part that only grows and cells that change. -/
namespace XL
open PySem PySem.Spec PyProof.Rows L2
abbrev St := L2.St

/-! ### a reading may be exchanged for a stronger one -/
theorem pe_str {X : Cx} {e : Expr} {t t' : TE} (h : PE X e t) (k : ∀ σ H Q, t' σ H Q → t σ H Q) : PE X e t' := ⟨fun pins s σ H Q I q => h.run pins s σ H Q I (k σ H Q q)⟩
theorem pt_str {X : Cx} {e : Expr} {t t' : TT} (h : PT X e t) (k : ∀ σ H Q, t' σ H Q → t σ H Q) : PT X e t' := ⟨fun pins s σ H Q I q => h.run pins s σ H Q I (k σ H Q q)⟩
theorem ps_str {X : Cx} {e : Stmt} {t t' : TS} (h : PS X e t) (k : ∀ D σ H, t' D σ H → t D σ H) : PS X e t' := ⟨fun pins s σ H D I q => h.run pins s σ H D I (k D σ H q)⟩
theorem or_str {X : Cx} {f : Value → Value → Sem Value} {r r' : R2} (h : OpR X f r) (k : ∀ x y H Q, r' x y H Q → r x y H Q) : OpR X f r' := fun pins s σ H x y v u Q I rx ry q => h pins s σ H x y v u Q I rx ry (k x y H Q q)
theorem cr_str {X : Cx} {f : Value} {r r' : List V → Hp → VK → Prop} (h : CallR X f r) (k : ∀ xs H Q, r' xs H Q → r xs H Q) : CallR X f r' := fun pins s σ H xs us Q I rx q => h pins s σ H xs us Q I rx (k xs H Q q)
theorem OpR.or {X : Cx} {f : Value → Value → Sem Value} {r r' : R2} (h : OpR X f r) (h' : OpR X f r') : OpR X f (fun x y H Q => r x y H Q ∨ r' x y H Q) := by
  intro pins s σ H x y v u Q I rx ry q
  rcases q with q | q
  · exact h pins s σ H x y v u Q I rx ry q
  · exact h' pins s σ H x y v u Q I rx ry q

/-! ### names -/
def nth : St → Nat → Option V
  | [], _ => none
  | x :: _, 0 => x
  | _ :: r, n + 1 => nth r n
theorem nth_get : ∀ {σ : St} {i : Nat} {v : V}, nth σ i = some v → σ[i]? = some (some v)
  | [], _, _, h => nomatch h
  | _ :: _, 0, _, h => congrArg some h
  | _ :: r, n + 1, _, h => by
    rw [List.getElem?_cons_succ]
    exact nth_get (σ := r) h
def xVar (i : Nat) : TE := fun σ H Q => match nth σ i with
  | some v => Q v H
  | none => False
section
variable {X : Cx} {a b c : Expr} {ta tb tc : TE} {pos : Pos} {tA tB' : TT} {rest : List Expr}
theorem xv (i : Nat) {x : Str} {pos : Pos} (hN : X.N[i]? = some x := by rfl) (hv : Vis X.env.scope x := by first | exact Or.inl rfl | exact Or.inr (Or.inl rfl) | exact Or.inr (Or.inr rfl)) (hd : (x == ("__debug__" : Str)) = false := by decide)
    (hcd : (x == ("__classdict__" : Str)) = false := by decide) : PE X (.Name x pos) (xVar i) := pe_str (pe_var hN hv hd hcd) fun σ H Q h => by
  unfold xVar at h
  cases e : nth σ i with
  | none => rw [e] at h; exact h.elim
  | some v => rw [e] at h; exact ⟨v, nth_get e, h⟩

/-! ### arithmetic -/
theorem op_mul_ib : OpR X (binaryOp .Mult) (fun x y H Q => ∃ i k, x = .int i ∧ y = .bl k ∧ Q (.int (i * b2i k)) H) := by
  intro pins s σ H x y v u Q I rx ry h
  obtain ⟨i, k, rfl, rfl, q⟩ := h
  obtain ⟨t, rfl⟩ := rx
  cases ry
  refine PySem.IntBool.mul_int_bool ?_
  have e : (if k = true then (1 : Int) else 0) = b2i k := by cases k <;> rfl
  rw [e]
  exact ⟨.int (i * b2i k), H, I.tok _, ⟨_, rfl⟩, q⟩
def yAdd : R2 := fun x y H Q => match x, y with
  | .int i, .int j => Q (.int (i + j)) H
  | .int i, .bl k => Q (.int (i + b2i k)) H
  | .str a, .str b => a.length + b.length ≤ sizeLine ∧ ∀ r : Str, r = a ++ b → Q (.str r) H
  | .ref l, .ref b => rCat (.ref l) (.ref b) H Q
  | _, _ => False
theorem op_addY : OpR X (binaryOp .Add) yAdd := by
  refine or_str (OpR.or (op_add (X := X)) (OpR.or (op_add_ib (X := X)) (OpR.or (op_add_str (X := X)) (op_cat (X := X))))) fun x y H Q h => ?_
  unfold yAdd at h
  split at h
  · exact .inl ⟨_, _, rfl, rfl, h⟩
  · exact .inr (.inl ⟨_, _, rfl, rfl, h⟩)
  · exact .inr (.inr (.inl ⟨_, _, rfl, rfl, h.1, h.2 _ rfl⟩))
  · exact .inr (.inr (.inr h))
  · exact h.elim
def ySub : R2 := fun x y H Q => match x, y with
  | .int i, .int j => Q (.int (i - j)) H
  | _, _ => False
theorem op_subY : OpR X (binaryOp .Sub) ySub := by
  refine or_str (op_sub (X := X)) fun x y H Q h => ?_
  unfold ySub at h
  split at h
  · exact ⟨_, _, rfl, rfl, h⟩
  · exact h.elim
def yMul : R2 := fun x y H Q => match x, y with
  | .int i, .int j => CMul i j ∧ Q (.int (i * j)) H
  | .int i, .bl k => Q (.int (i * b2i k)) H
  | .ref l, .int k => rRep (.ref l) (.int k) H Q
  | _, _ => False
theorem op_mulY : OpR X (binaryOp .Mult) yMul := by
  refine or_str (OpR.or (op_mul (X := X)) (OpR.or (op_mul_ib (X := X)) (op_rep (X := X)))) fun x y H Q h => ?_
  unfold yMul at h
  split at h
  · exact .inl ⟨_, _, rfl, rfl, h.1, h.2⟩
  · exact .inr (.inl ⟨_, _, rfl, rfl, h⟩)
  · exact .inr (.inr h)
  · exact h.elim
def yMod : R2 := fun x y H Q => match x, y with
  | .int i, .int j => 0 < j ∧ ∀ r : Int, r = i % j → 0 ≤ r → r < j → Q (.int r) H
  | _, _ => False
theorem op_modY : OpR X (binaryOp .Mod) yMod := by
  refine or_str (op_mod (X := X)) fun x y H Q h => ?_
  unfold yMod at h
  split at h
  · exact ⟨_, _, rfl, rfl, h.1, h.2 _ rfl (Int.emod_nonneg _ (by have := h.1; omega)) (Int.emod_lt_of_pos _ h.1)⟩
  · exact h.elim
def yDiv : R2 := fun x y H Q => match x, y with
  | .int i, .int j => (0 < j ∧ j < 1073741824) ∧ ∀ r : Int, r = i / j → (0 ≤ i → 0 ≤ r) → Q (.int r) H
  | _, _ => False
theorem op_divY : OpR X (binaryOp .FloorDiv) yDiv := by
  refine or_str (op_fdiv (X := X)) fun x y H Q h => ?_
  unfold yDiv at h
  split at h
  · exact ⟨_, _, rfl, rfl, h.1, h.2 _ rfl (fun h0 => Int.ediv_nonneg h0 (by have := h.1.1; omega))⟩
  · exact h.elim
def yPow : R2 := fun x y H Q => match x, y with
  | .int i, .int j => CPow i j ∧ ∀ r : Int, r = i ^ j.toNat → Q (.int r) H
  | _, _ => False
theorem op_powY : OpR X (binaryOp .Pow) yPow := by
  refine or_str (op_pow (X := X)) fun x y H Q h => ?_
  unfold yPow at h
  split at h
  · exact ⟨_, _, rfl, rfl, h.1, h.2 _ rfl⟩
  · exact h.elim

/-! ### comparisons -/
def yCmp (p : Int → Int → Bool) : R2 := fun x y H Q => match x, y with
  | .int i, .int j => Q (.bl (p i j)) H
  | _, _ => False
theorem yCmp_rI {p : Int → Int → Bool} {x y : V} {H : Hp} {Q : VK} (h : yCmp p x y H Q) : rI0 (fun i j => .bl (p i j)) x y H Q := by
  unfold yCmp at h
  split at h
  · exact ⟨_, _, rfl, rfl, h⟩
  · exact h.elim
theorem op_ltY : OpR X (compareOp .Lt) (yCmp fun i j => decide (i < j)) := or_str (op_lt (X := X)) fun _ _ _ _ h => yCmp_rI h
theorem op_leY : OpR X (compareOp .LtE) (yCmp fun i j => decide (i ≤ j)) := or_str (op_le (X := X)) fun _ _ _ _ h => yCmp_rI h
theorem op_gtY : OpR X (compareOp .Gt) (yCmp fun i j => decide (j < i)) := or_str (op_gt (X := X)) fun _ _ _ _ h => yCmp_rI h
theorem op_geY : OpR X (compareOp .GtE) (yCmp fun i j => decide (j ≤ i)) := or_str (op_ge (X := X)) fun _ _ _ _ h => yCmp_rI h
def yEq (K : PySem.W.Frag) : R2 := fun x y H Q => match x, y with
  | .int i, .int j => Q (.bl (decide (i = j))) H
  | .str i, .str j => Q (.bl (decide (i = j))) H
  | .bl i, .bl j => Q (.bl (decide (i = j))) H
  | .ref a, .ref b => rEqD K (.ref a) (.ref b) H Q
  | x, y => scal x y = true ∧ Q (.bl (decide (x = y))) H
def yNe (K : PySem.W.Frag) : R2 := fun x y H Q => match x, y with
  | .int i, .int j => Q (.bl (!decide (i = j))) H
  | .str i, .str j => Q (.bl (!decide (i = j))) H
  | .bl i, .bl j => Q (.bl (!decide (i = j))) H
  | .ref a, .ref b => rNeD K (.ref a) (.ref b) H Q
  | x, y => scal x y = true ∧ Q (.bl (!decide (x = y))) H
theorem deci {i j : Int} : decide (V.int i = V.int j) = decide (i = j) := by by_cases h : i = j <;> simp [h]
theorem decs {i j : Str} : decide (V.str i = V.str j) = decide (i = j) := by by_cases h : i = j <;> simp [h]
theorem decb {i j : Bool} : decide (V.bl i = V.bl j) = decide (i = j) := by by_cases h : i = j <;> simp [h]
theorem op_eqY (hu : X.A.units + 64 < cLine) : OpR X (compareOp .Eq) (yEq X.K) := by
  refine or_str (OpR.or (op_eq (X := X)) (op_eqD hu)) fun x y H Q h => ?_
  unfold yEq at h
  split at h
  · exact .inl ⟨rfl, by rw [deci]; exact h⟩
  · exact .inl ⟨rfl, by rw [decs]; exact h⟩
  · exact .inl ⟨rfl, by rw [decb]; exact h⟩
  · exact .inr h
  · exact .inl h
theorem op_neY (hu : X.A.units + 64 < cLine) : OpR X (compareOp .NotEq) (yNe X.K) := by
  refine or_str (OpR.or (op_ne (X := X)) (op_neD hu)) fun x y H Q h => ?_
  unfold yNe at h
  split at h
  · exact .inl ⟨rfl, by rw [deci]; exact h⟩
  · exact .inl ⟨rfl, by rw [decs]; exact h⟩
  · exact .inl ⟨rfl, by rw [decb]; exact h⟩
  · exact .inr h
  · exact .inl h

/-! ### tests -/
/-- a bool as a test -/
def xB (t : TE) : TT := fun σ H Q => t σ H fun x H1 => match x with
  | .bl c => Q c H1
  | _ => False
theorem pe_mono {X : Cx} {e : Expr} {t : TE} (_h : PE X e t) : True := trivial
theorem xt_cmp {op : CmpOp} {r : R2} (ho : OpR X (compareOp op) r) (ha : PE X a ta) (hb : PE X b tb) (hm : behindInMarks op b = false) : PT X (.Compare a [op] [b] pos) (xB (tOp r ta tb)) := by
  refine ⟨fun pins s σ H Q I h => ?_⟩
  refine wpAny_isTrue_Compare1 (thn (ha.run pins s σ H _ I h) fun v s1 ⟨x, H1, I1, r1, q1⟩ => thn (hb.run pins s1 σ H1 _ I1 q1) fun u s2 ⟨y, H2, I2, r2, q2⟩ =>
    thn (ho pins s2 σ H2 x y v u _ I2 r1 r2 q2) fun c s3 ⟨z, H3, I3, r3, q3⟩ => ?_) hm
  cases z with
  | bl k =>
    cases r3
    exact wpAny_truthy_bool ⟨H3, I3, q3⟩
  | _ => exact False.elim q3
theorem xt_val {e : Expr} {t : TE} (h : PE X e t) (he : ∀ whole, isTrue e X.env whole = (do let v ← whole; standAt e.pos; holding [v] (truthy v)) := by intro _; rfl) : PT X e (xB t) := by
  refine ⟨fun pins s σ H Q I hw => ?_⟩
  refine isTrue_plain (thn (h.run pins s σ H _ I hw) fun v s1 ⟨x, H1, I1, r1, q1⟩ => ?_) (he _)
  cases x with
  | bl k =>
    cases r1
    exact wpAny_truthy_bool ⟨H1, I1, q1⟩
  | _ => exact False.elim q1
/-- the truth of a value -/
def yTru (K : PySem.W.Frag) (x : V) (H : Hp) (Q : Bool → Hp → Prop) : Prop := match x with
  | .bl c => Q c H
  | .int i => Q (i != 0) H
  | .non => Q false H
  | x => ∃ k, TruV K x H k ∧ Q k H
def xTru (K : PySem.W.Frag) (t : TE) : TT := fun σ H Q => t σ H fun x H1 => yTru K x H1 Q
theorem xt_tru (ha : PE X a ta) (he : ∀ whole, isTrue a X.env whole = (do let v ← whole; standAt a.pos; holding [v] (truthy v)) := by intro _; rfl) : PT X a (xTru X.K ta) := by
  have hq : PE X a (fun σ H Q => ta σ H Q) := ha
  refine ⟨fun pins s σ H Q I hw => ?_⟩
  refine isTrue_plain (thn (ha.run pins s σ H _ I hw) fun v s1 ⟨x, H1, I1, r1, q1⟩ => ?_) (he _)
  have q2 : ∃ k, TruV X.K x H1 k ∧ Q k H1 := by
    change yTru X.K x H1 Q at q1
    unfold yTru at q1
    split at q1
    · exact ⟨_, rfl, q1⟩
    · exact ⟨_, rfl, q1⟩
    · exact ⟨_, rfl, q1⟩
    · exact q1
  exact tru_ok pins s1 σ H1 x v Q I1 r1 q2
def xAnd (t u : TT) : TT := fun σ H Q => t σ H fun c H1 => (c = true → u σ H1 Q) ∧ (c = false → Q false H1)
def xOr (t u : TT) : TT := fun σ H Q => t σ H fun c H1 => (c = true → Q true H1) ∧ (c = false → u σ H1 Q)
theorem xw_and (ha : PT X a tA) (hb : PW X (.BoolOp .And (b :: rest) pos) tB') : PW X (.BoolOp .And (a :: b :: rest) pos) (xAnd tA tB') := by
  refine ⟨fun wh pins s0 σ H Q J h => ?_⟩
  refine isTrue_and (thn (ha.run pins s0 σ H _ J h) fun k s2 ⟨H2, J2, q2⟩ => ?_)
  cases k with
  | true => exact hb.run wh pins s2 σ H2 Q J2 (q2.1 rfl)
  | false => exact ⟨H2, J2, q2.2 rfl⟩
theorem xw_or (ha : PT X a tA) (hb : PW X (.BoolOp .Or (b :: rest) pos) tB') : PW X (.BoolOp .Or (a :: b :: rest) pos) (xOr tA tB') := by
  refine ⟨fun wh pins s0 σ H Q J h => ?_⟩
  refine isTrue_or (thn (ha.run pins s0 σ H _ J h) fun k s2 ⟨H2, J2, q2⟩ => ?_)
  cases k with
  | true => exact ⟨H2, J2, q2.1 rfl⟩
  | false => exact hb.run wh pins s2 σ H2 Q J2 (q2.2 rfl)
/-- and, or, not as values: of bools -/
def xAndV (ta tb : TE) : TE := fun σ H Q => ta σ H fun x H1 => match x with
  | .bl c => (c = true → tb σ H1 Q) ∧ (c = false → Q (.bl false) H1)
  | _ => False
def xOrV (ta tb : TE) : TE := fun σ H Q => ta σ H fun x H1 => match x with
  | .bl c => (c = true → Q (.bl true) H1) ∧ (c = false → tb σ H1 Q)
  | _ => False
def xNotV (ta : TE) : TE := fun σ H Q => ta σ H fun x H1 => match x with
  | .bl c => Q (.bl (!c)) H1
  | _ => False
theorem xe_and (ha : PE X a ta) (hb : PE X (.BoolOp .And (b :: rest) pos) tb) : PE X (.BoolOp .And (a :: b :: rest) pos) (xAndV ta tb) := by
  refine ⟨fun pins s0 σ H Q J h => ?_⟩
  refine BoolOp_and (thn (ha.run pins s0 σ H _ J h) fun v s2 ⟨x, H2, J2, r2, q2⟩ => ?_)
  cases x with
  | bl k =>
    cases r2
    refine wpAny_truthy_bool ?_
    cases k with
    | true => exact hb.run pins s2 σ H2 Q J2 (q2.1 rfl)
    | false => exact ⟨.bl false, H2, J2, rfl, q2.2 rfl⟩
  | _ => exact False.elim q2
theorem xe_or (ha : PE X a ta) (hb : PE X (.BoolOp .Or (b :: rest) pos) tb) : PE X (.BoolOp .Or (a :: b :: rest) pos) (xOrV ta tb) := by
  refine ⟨fun pins s0 σ H Q J h => ?_⟩
  refine BoolOp_or (thn (ha.run pins s0 σ H _ J h) fun v s2 ⟨x, H2, J2, r2, q2⟩ => ?_)
  cases x with
  | bl k =>
    cases r2
    refine wpAny_truthy_bool ?_
    cases k with
    | true => exact ⟨.bl true, H2, J2, rfl, q2.1 rfl⟩
    | false => exact hb.run pins s2 σ H2 Q J2 (q2.2 rfl)
  | _ => exact False.elim q2
theorem xe_not (ha : PE X a ta) : PE X (.UnaryOp .Not a pos) (xNotV ta) := by
  refine ⟨fun pins s0 σ H Q J h => ?_⟩
  refine UnaryOp_ (thn (ha.run pins s0 σ H _ J h) fun v s2 ⟨x, H2, J2, r2, q2⟩ => ?_)
  cases x with
  | bl k =>
    cases r2
    exact not_of (wpAny_truthy_bool ⟨.bl (!k), H2, J2, rfl, q2⟩)
  | _ => exact False.elim q2
/-- a if t else b -/
def xIf (t : TT) (ta tb : TE) : TE := fun σ H Q => t σ H fun c H1 => (c = true → ta σ H1 Q) ∧ (c = false → tb σ H1 Q)
theorem xe_if {c : Expr} (hc : PT X c tA) (ha : PE X a ta) (hb : PE X b tb) : PE X (.IfExp c a b pos) (xIf tA ta tb) := by
  refine ⟨fun pins s0 σ H Q J h => ?_⟩
  refine wpAny_IfExp (thn (hc.run pins s0 σ H _ J h) fun k s2 ⟨H2, J2, q2⟩ => ?_)
  cases k with
  | true => exact ha.run pins s2 σ H2 Q J2 (q2.1 rfl)
  | false => exact hb.run pins s2 σ H2 Q J2 (q2.2 rfl)
/-- if t: .. else: .. -/
def xIfS (c : TT) (t u : TS) : TS := fun D σ H => c σ H fun b H1 => (b = true → t D σ H1) ∧ (b = false → u D σ H1)
theorem xs_if {c : Expr} {as bs : List Stmt} {tc : TT} {t u : TS} (hc : PT X c tc) (ha : PSs X as t) (hb : PSs X bs u) : PS X (.If c as bs pos) (xIfS tc t u) := by
  refine ⟨fun pins s0 σ H D J h => ?_⟩
  refine wpAny_If (thn (hc.run pins s0 σ H _ J h) fun k s2 ⟨H2, J2, q2⟩ => ?_)
  cases k with
  | true => exact ha.run pins s2 σ H2 D J2 (q2.1 rfl)
  | false => exact hb.run pins s2 σ H2 D J2 (q2.2 rfl)

/-! ### calls of built-ins -/
def yLen (K : PySem.W.Frag) : List V → Hp → VK → Prop := fun xs H Q => match xs with
  | [.str y] => y.length ≤ sizeLine ∧ Q (.int y.length) H
  | [.ref p] => ∃ ys, (SqL K H p ys ∨ SqT K H p ys) ∧ Q (.int ys.length) H
  | _ => False
theorem cr_len : CallR X (.builtin "len") (yLen X.K) := by
  refine cr_str (call_len (X := X)) fun xs H Q h => ?_
  unfold yLen at h
  split at h
  · exact ⟨_, _, rfl, ⟨h.1, rfl⟩, h.2⟩
  · obtain ⟨ys, hy, q⟩ := h
    rcases hy with hy | hy
    · exact ⟨_, _, rfl, .inl ⟨ys, hy, rfl⟩, q⟩
    · exact ⟨_, _, rfl, .inr ⟨ys, hy, rfl⟩, q⟩
  · exact h.elim
def yInt : List V → Hp → VK → Prop := fun xs H Q => match xs with
  | [.int i] => Q (.int i) H
  | [.bl k] => Q (.int (if k then 1 else 0)) H
  | [.str z] => ∃ n, PySem.intText? z = some n ∧ z.length ≤ 640 ∧ Q (.int n) H
  | _ => False
theorem cr_int : CallR X (.type "int") yInt := by
  refine cr_str (CallR.or (call_int1 (X := X)) (call_int_str (X := X))) fun xs H Q h => ?_
  unfold yInt at h
  split at h
  · exact .inl (.inl ⟨_, rfl, h⟩)
  · exact .inl (.inr ⟨_, rfl, h⟩)
  · obtain ⟨n, h1, h2, q⟩ := h
    exact .inr ⟨_, n, rfl, h1, h2, q⟩
  · exact h.elim
def yAbs : List V → Hp → VK → Prop := fun xs H Q => match xs with
  | [.int i] => Q (.int i.natAbs) H
  | _ => False
theorem cr_abs : CallR X (.builtin "abs") yAbs := by
  refine cr_str (call_abs (X := X)) fun xs H Q h => ?_
  unfold yAbs at h
  split at h
  · rename_i i
    refine ⟨i, rfl, ?_⟩
    have e : (if i < 0 then -i else i) = (i.natAbs : Int) := by split <;> omega
    rw [e]
    exact h
  · exact h.elim
def yStr : List V → Hp → VK → Prop := fun xs H Q => match xs with
  | [.int i] => i.natAbs.log2 < 1920 ∧ Q (.str (toString i)) H
  | _ => False
theorem cr_strI : CallR X (.type "str") yStr := by
  refine cr_str (call_str_int (X := X)) fun xs H Q h => ?_
  unfold yStr at h
  split at h
  · exact ⟨_, rfl, h.1, h.2⟩
  · exact h.elim
def yIx (K : PySem.W.Frag) : R2 := fun x y H Q => match x, y with
  | .ref p, .int i => ∃ xs v, (SqL K H p xs ∨ SqT K H p xs) ∧ atI xs i = some v ∧ Q v H
  | .str z, .int i => ∃ c, z.length ≤ sizeLine ∧ atI z.cps.toList i = some c ∧ Q (.str ⟨#[c]⟩) H
  | _, _ => False
theorem ix_y : IxR X (yIx X.K) := by
  intro value slice pins s σ H x y v u Q I rx ry h hs
  refine ix_seq (X := X) value slice pins s σ H x y v u Q I rx ry ?_ hs
  unfold yIx at h
  split at h
  · obtain ⟨xs, z, h1, h2, q⟩ := h
    rcases h1 with h1 | h1
    · exact .inl ⟨_, xs, _, z, rfl, rfl, h1, h2, q⟩
    · exact .inr (.inl ⟨_, xs, _, z, rfl, rfl, h1, h2, q⟩)
  · obtain ⟨k, h1, h2, q⟩ := h
    exact .inr (.inr ⟨_, _, k, rfl, rfl, h1, h2, q⟩)
  · exact h.elim
end

/-! ### the heap: what only grows, and the cells that change -/
def Sep (G : Hp) (M : List (Addr × HO)) (H : Hp) : Prop := Same G H ∧ (∀ p ∈ M, H p.1 = some p.2 ∧ G p.1 = none) ∧ (M.map (·.1)).Nodup
section
variable {G G' H H' : Hp} {M : List (Addr × HO)} {p a b : Addr} {o o' u : HO}
theorem same_upd (h : H p = none) : Same H (upd H p o) := fun b x e => by
  rw [upd_ne (ne_of_none e h)]
  exact e
theorem sep0 : Sep H [] H := ⟨Same.refl H, (fun _ h => nomatch h), List.nodup_nil⟩
theorem Sep.st (S : Sep G M H) (h : G a = some o) : H a = some o := S.1 a o h
theorem Sep.hd (S : Sep G ((a, o) :: M) H) : H a = some o := (S.2.1 _ List.mem_cons_self).1
theorem Sep.at (S : Sep G M H) (h : (a, o) ∈ M) : H a = some o := (S.2.1 _ h).1
theorem Sep.fresh (S : Sep G M H) (h : H p = none) : G p = none := S.1.free h
theorem Sep.new (S : Sep G M H) (h : H p = none) : Sep G ((p, o) :: M) (upd H p o) := by
  refine ⟨S.1.trans (same_upd h), fun q hq => ?_, ?_⟩
  · rcases List.mem_cons.mp hq with rfl | hq
    · exact ⟨upd_same, S.fresh h⟩
    · exact ⟨same_upd h _ _ (S.2.1 q hq).1, (S.2.1 q hq).2⟩
  · rw [List.map_cons, List.nodup_cons]
    refine ⟨fun hm => ?_, S.2.2⟩
    obtain ⟨q, hq, e⟩ := List.mem_map.mp hm
    have z := (S.2.1 q hq).1
    rw [e, h] at z
    cases z
theorem Sep.newG (S : Sep G M H) (h : H p = none) : Sep (upd G p o) M (upd H p o) := by
  refine ⟨fun b x e => ?_, fun q hq => ?_, S.2.2⟩
  · by_cases hb : b = p
    · subst hb
      rw [upd_same] at e ⊢
      exact e
    · rw [upd_ne hb] at e ⊢
      exact S.1 b x e
  · have z := S.2.1 q hq
    refine ⟨same_upd h _ _ z.1, ?_⟩
    rw [upd_ne (ne_of_none z.1 h)]
    exact z.2
theorem Sep.grow (S : Sep G M H) (h : H p = none) : Same G (upd G p o) := same_upd (S.fresh h)
theorem Sep.set (S : Sep G ((a, o) :: M) H) : Sep G ((a, o') :: M) (upd H a o') := by
  have hn := S.2.2
  rw [List.map_cons, List.nodup_cons] at hn
  have ha := S.2.1 _ List.mem_cons_self
  refine ⟨fun b x e => ?_, fun q hq => ?_, S.2.2⟩
  · rw [upd_ne (ne_of_none e ha.2)]
    exact S.1 b x e
  · rcases List.mem_cons.mp hq with rfl | hq
    · exact ⟨upd_same, ha.2⟩
    · refine ⟨?_, (S.2.1 q (List.mem_cons_of_mem _ hq)).2⟩
      rw [upd_ne (show q.1 ≠ a from fun e => hn.1 (by have z : q.1 ∈ M.map (·.1) := List.mem_map_of_mem hq
                                                      rw [e] at z; exact z))]
      exact (S.2.1 q (List.mem_cons_of_mem _ hq)).1
theorem Sep.frz (S : Sep G ((a, o) :: M) H) : Sep (upd G a o) M H := by
  have hn := S.2.2
  rw [List.map_cons, List.nodup_cons] at hn
  have ha := S.2.1 _ List.mem_cons_self
  refine ⟨fun b x e => ?_, fun q hq => ?_, hn.2⟩
  · by_cases hb : b = a
    · subst hb
      rw [upd_same] at e
      cases e
      exact ha.1
    · rw [upd_ne hb] at e
      exact S.1 b x e
  · have z := S.2.1 q (List.mem_cons_of_mem _ hq)
    refine ⟨z.1, ?_⟩
    rw [upd_ne (show q.1 ≠ a from fun e => hn.1 (by have z : q.1 ∈ M.map (·.1) := List.mem_map_of_mem hq
                                                    rw [e] at z; exact z))]
    exact z.2
theorem Sep.none (S : Sep G ((a, o) :: M) H) : G a = none := (S.2.1 _ List.mem_cons_self).2
theorem Sep.frzS (S : Sep G ((a, o) :: M) H) : Same G (upd G a o) := same_upd S.none
theorem Sep.drop {q : Addr × HO} (S : Sep G (q :: M) H) : Sep G M H := by
  have hn := S.2.2
  rw [List.map_cons, List.nodup_cons] at hn
  exact ⟨S.1, fun p hp => S.2.1 p (List.mem_cons_of_mem _ hp), hn.2⟩
theorem Sep.perm {M' : List (Addr × HO)} (S : Sep G M H) (h : M.Perm M') : Sep G M' H :=
  ⟨S.1, fun q hq => S.2.1 q (h.mem_iff.mpr hq), (h.map _).nodup_iff.mp S.2.2⟩
theorem Sep.sw {q r : Addr × HO} (S : Sep G (q :: r :: M) H) : Sep G (r :: q :: M) H := S.perm (List.Perm.swap _ _ _)
theorem same_l {K : PySem.W.Frag} {xs : List V} (e : Same H H') (h : SqL K H a xs) : SqL K H' a xs := e.seq h
theorem same_t {K : PySem.W.Frag} {xs : List V} (e : Same H H') (h : SqT K H a xs) : SqT K H' a xs := by
  rcases h with (h | ⟨o, h⟩) | h
  · exact .inl (.inl (e _ _ h))
  · exact .inl (.inr ⟨o, e _ _ h⟩)
  · exact .inr h
theorem Sep.l {K : PySem.W.Frag} {xs : List V} (S : Sep G M H) (h : SqL K G a xs) : SqL K H a xs := same_l S.1 h
theorem Sep.t {K : PySem.W.Frag} {xs : List V} (S : Sep G M H) (h : SqT K G a xs) : SqT K H a xs := same_t S.1 h
end
mutual
theorem dp_same {K : PySem.W.Frag} {H H' : Hp} (e : Same H H') : ∀ {d : PyData} {v : V}, Dp K H v d → Dp K H' v d
  | _, _, .non => .non
  | _, _, .bl b => .bl b
  | _, _, .int i => .int i
  | _, _, .str x => .str x
  | _, _, .lst h hs => .lst (same_l e h) (dpa_same e hs)
  | _, _, .tup h hs => .tup (same_t e h) (dpa_same e hs)
theorem dpa_same {K : PySem.W.Frag} {H H' : Hp} (e : Same H H') : ∀ {ds : List PyData} {vs : List V}, DpAll K H vs ds → DpAll K H' vs ds
  | _, _, .nil => .nil
  | _, _, .cons h hs => .cons (dp_same e h) (dpa_same e hs)
end

/-! ### loops by what has been gone through -/
theorem take_pre {α : Type} {xs : List α} {i : Nat} {x : α} (h : xs[i]? = some x) : xs = xs.take i ++ x :: xs.drop (i + 1) ∧ xs.take (i + 1) = xs.take i ++ [x] := by
  have hi : i < xs.length := (List.getElem?_eq_some_iff.mp h).1
  have e : xs[i] = x := (List.getElem?_eq_some_iff.mp h).2
  refine ⟨?_, ?_⟩
  · rw [← e, List.getElem_cons_drop, List.take_append_drop]
  · rw [List.take_add_one, h]
    rfl
section
variable {K : PySem.W.Frag} {a : Addr} {xs : List V} {g : TG} {tb : TS} {D : Ends} {σ : L2.St} {H : Hp}
theorem for_pre (Pv : List V → L2.St → Hp → Prop) (h0 : Pv [] σ H) (hl : ∀ pre σ H, Pv pre σ H → SqL K H a xs)
    (hs : ∀ pre x post σ H, xs = pre ++ x :: post → Pv pre σ H → g x σ H fun σ2 H2 => tb { D with nx := Pv (pre ++ [x]), ct := Pv (pre ++ [x]), bk := D.nx } σ2 H2) (hd : ∀ σ H, Pv xs σ H → D.nx σ H) :
    ∃ W : Nat → Nat → L2.St → Hp → Prop, (∃ m, W 0 m σ H) ∧ ∀ i m σ H, W i m σ H →
      ((Itl K a).stop i H ∧ D.nx σ H) ∨ ((Itl K a).go i H ∧ ∃ N : L2.St → Hp → Prop, (∀ σ' H', N σ' H' → ∃ m', m' < m ∧ W (i + 1) m' σ' H') ∧ ∀ x H', (Itl K a).yld i H x H' → g x σ H' fun σ2 H2 => tb { D with nx := N, ct := N, bk := D.nx } σ2 H2) :=
  for_list (fun i => Pv (xs.take i)) h0 (fun i σ H _ p => hl _ σ H p) (fun i x σ H hx p => by
    rw [(take_pre hx).2]
    exact hs _ x _ σ H (take_pre hx).1 p) (fun σ H p => hd σ H (by rw [List.take_length] at p; exact p))
theorem for_preT (Pv : List V → L2.St → Hp → Prop) (h0 : Pv [] σ H) (hl : ∀ pre σ H, Pv pre σ H → SqT K H a xs)
    (hs : ∀ pre x post σ H, xs = pre ++ x :: post → Pv pre σ H → g x σ H fun σ2 H2 => tb { D with nx := Pv (pre ++ [x]), ct := Pv (pre ++ [x]), bk := D.nx } σ2 H2) (hd : ∀ σ H, Pv xs σ H → D.nx σ H) :
    ∃ W : Nat → Nat → L2.St → Hp → Prop, (∃ m, W 0 m σ H) ∧ ∀ i m σ H, W i m σ H →
      ((Itt K a).stop i H ∧ D.nx σ H) ∨ ((Itt K a).go i H ∧ ∃ N : L2.St → Hp → Prop, (∀ σ' H', N σ' H' → ∃ m', m' < m ∧ W (i + 1) m' σ' H') ∧ ∀ x H', (Itt K a).yld i H x H' → g x σ H' fun σ2 H2 => tb { D with nx := N, ct := N, bk := D.nx } σ2 H2) :=
  for_tup (fun i => Pv (xs.take i)) h0 (fun i σ H _ p => hl _ σ H p) (fun i x σ H hx p => by
    rw [(take_pre hx).2]
    exact hs _ x _ σ H (take_pre hx).1 p) (fun σ H p => hd σ H (by rw [List.take_length] at p; exact p))
/-- for i, x in enumerate(xs) -/
theorem for_enum {i j : Nat} (Pv : List V → L2.St → Hp → Prop) (h0 : Pv [] σ H) (hl : ∀ pre σ H, Pv pre σ H → SqL K H a xs)
    (hs : ∀ pre x post σ H T, xs = pre ++ x :: post → Pv pre σ H → H T = none →
      tb { D with nx := Pv (pre ++ [x]), ct := Pv (pre ++ [x]), bk := D.nx } ((σ.set i (some (.int (pre.length : Nat)))).set j (some x)) (upd H T (.tup [.int (pre.length : Nat), x]))) (hd : ∀ σ H, Pv xs σ H → D.nx σ H) :
    ∃ W : Nat → Nat → L2.St → Hp → Prop, (∃ m, W 0 m σ H) ∧ ∀ k m σ H, W k m σ H →
      ((Ite K a).stop k H ∧ D.nx σ H) ∨ ((Ite K a).go k H ∧ ∃ N : L2.St → Hp → Prop, (∀ σ' H', N σ' H' → ∃ m', m' < m ∧ W (k + 1) m' σ' H') ∧ ∀ x H', (Ite K a).yld k H x H' →
        (gTup K 2 (gCons (gName i) (gCons (gName j) gNil))) x σ H' fun σ2 H2 => tb { D with nx := N, ct := N, bk := D.nx } σ2 H2) := by
  refine ⟨fun k m σ H => m = xs.length - k ∧ k ≤ xs.length ∧ Pv (xs.take k) σ H, ⟨xs.length, by simp, Nat.zero_le _, h0⟩, ?_⟩
  rintro k m σ H ⟨rfl, hk, p⟩
  have q := hl _ σ H p
  by_cases hlt : k < xs.length
  · refine .inr ⟨⟨xs, xs[k], q, by simp [hlt]⟩, Pv (xs.take (k + 1)), fun σ' H' p' => ⟨xs.length - (k + 1), by omega, rfl, hlt, p'⟩, fun v H' y => ?_⟩
    obtain ⟨T, x, rfl, nT, rfl, hx⟩ := y
    have hx := hx xs q
    refine ⟨T, _, rfl, SqT.of upd_same, rfl, _, _, rfl, _, _, rfl, rfl, ?_⟩
    have z := hs _ x _ σ H T (take_pre hx).1 p nT
    rw [(take_pre hx).2]
    rw [show (xs.take k).length = k by rw [List.length_take]; omega] at z
    exact z
  · have e : k = xs.length := by omega
    subst e
    rw [List.take_length] at p
    exact .inl ⟨⟨xs, q, Nat.le_refl _⟩, hd σ H p⟩
/-- [e for x in xs] -/
theorem lc_pre {te : TE} {vs : List Nat} {i : Nat} {H1 : Hp} {L : Addr} {Qd : Hp → Prop} (Pv : List V → Hp → Prop) (h0 : Pv [] (upd H1 L (.lst []))) (hl : ∀ pre H, Pv pre H → SqL K H a xs)
    (hw : ∀ x, wipe ((wipe σ vs).set i (some x)) vs = wipe σ vs)
    (hs : ∀ pre x post H, xs = pre ++ x :: post → Pv pre H → te ((wipe σ vs).set i (some x)) H fun y H4 => ∃ acc, H4 L = some (.lst acc) ∧ acc.length < sizeLine ∧ Pv (pre ++ [x]) (upd H4 L (.lst (acc ++ [y])))) (hd : ∀ H, Pv xs H → Qd H) :
    ∃ W : Nat → Nat → Hp → Prop, (∃ m, W 0 m (upd H1 L (.lst []))) ∧ ∀ k m H, W k m H →
      ((Itl K a).stop k H ∧ Qd H) ∨ ((Itl K a).go k H ∧ ∃ Nx : Hp → Prop, (∀ H', Nx H' → ∃ m', m' < m ∧ W (k + 1) m' H') ∧ ∀ x H', (Itl K a).yld k H x H' → gName i x (wipe σ vs) H' fun σ2 H2 => wipe σ2 vs = wipe σ vs ∧ tYes σ2 H2 fun b H3 =>
        if b = true then te σ2 H3 fun y H4 => ∃ acc, H4 L = some (.lst acc) ∧ acc.length < sizeLine ∧ Nx (upd H4 L (.lst (acc ++ [y]))) else Nx H3) :=
  lc_list (fun k => Pv (xs.take k)) h0 (fun k H _ p => hl _ H p) (fun k x H hx p => ⟨hw x, by
    rw [(take_pre hx).2]
    exact hs _ x _ H (take_pre hx).1 p⟩) (fun H p => hd H (by rw [List.take_length] at p; exact p))
/-- [e for x in range(n)] -/
theorem lc_rng {te : TE} {vs : List Nat} {i : Nat} {n : Nat} {lo : Int} {H1 : Hp} {L : Addr} {Qd : Hp → Prop} (Pv : Nat → Hp → Prop) (h0 : Pv 0 (upd H1 L (.lst [])))
    (hw : ∀ x, wipe ((wipe σ vs).set i (some x)) vs = wipe σ vs)
    (hs : ∀ k H, k < n → Pv k H → te ((wipe σ vs).set i (some (.int (lo + k)))) H fun y H4 => ∃ acc, H4 L = some (.lst acc) ∧ acc.length < sizeLine ∧ Pv (k + 1) (upd H4 L (.lst (acc ++ [y])))) (hd : ∀ H, Pv n H → Qd H) :
    ∃ W : Nat → Nat → Hp → Prop, (∃ m, W 0 m (upd H1 L (.lst []))) ∧ ∀ k m H, W k m H →
      ((Itr lo n).stop k H ∧ Qd H) ∨ ((Itr lo n).go k H ∧ ∃ Nx : Hp → Prop, (∀ H', Nx H' → ∃ m', m' < m ∧ W (k + 1) m' H') ∧ ∀ x H', (Itr lo n).yld k H x H' → gName i x (wipe σ vs) H' fun σ2 H2 => wipe σ2 vs = wipe σ vs ∧ tYes σ2 H2 fun b H3 =>
        if b = true then te σ2 H3 fun y H4 => ∃ acc, H4 L = some (.lst acc) ∧ acc.length < sizeLine ∧ Nx (upd H4 L (.lst (acc ++ [y]))) else Nx H3) :=
  lc_range (lo := lo) (n := n) Pv h0 (fun k H hk p => ⟨hw _, hs k H hk p⟩) hd
end
/-! ### places of lists -/
theorem atI_in {α : Type} {xs : List α} {i : Int} (h0 : 0 ≤ i) (h1 : i < xs.length) : ∃ v, atI xs i = some v ∧ v ∈ xs := by
  obtain ⟨j, rfl⟩ : ∃ j : Nat, i = (j : Int) := ⟨i.toNat, by omega⟩
  have hj : j < xs.length := by omega
  exact ⟨xs[j], atI_nat (List.getElem?_eq_getElem hj), List.getElem_mem hj⟩
theorem small {n : Nat} (h : n ≤ 100000) : n ≤ sizeLine := Nat.le_trans h (by decide)
theorem smallL {n : Nat} (h : n < 100000) : n < sizeLine := Nat.lt_of_lt_of_le h (by decide)
theorem sz {n : Nat} (h : Nat.ble n 100000 = true := by rfl) : n ≤ sizeLine := small (Nat.le_of_ble_eq_true h)
theorem seqIdx {i : Int} {n : Nat} (h0 : 0 ≤ i) (h1 : i < n) : seqIndex? i n = some i.toNat := by
  unfold seqIndex?
  have e : (if i < 0 then i + n else i) = i := by rw [if_neg (by omega)]
  simp only [e]
  rw [if_pos (by simp; omega)]
theorem atN {α : Type} {xs : List α} {i : Int} {v : α} (h0 : 0 ≤ i) (h : atI xs i = some v) : xs[i.toNat]? = some v := by
  obtain ⟨j, rfl⟩ : ∃ j : Nat, i = (j : Int) := ⟨i.toNat, by omega⟩
  unfold atI ixN at h
  rw [if_pos (by omega)] at h
  split at h
  · simpa using h
  · cases h
theorem mem_erase {α : Type} {xs : List α} {k : Nat} {y : α} (h : y ∈ xs.eraseIdx k) : y ∈ xs := List.mem_of_mem_eraseIdx h
/-- the i-th of a paired list -/
theorem prd_get {α β : Type} {F : α → β → Prop} : ∀ {xs : List α} {ys : List β} {i : Nat} {x : α}, Paired F xs ys → xs[i]? = some x → ∃ y, ys[i]? = some y ∧ F x y
  | _, _, _, _, .nil, h => by simp at h
  | _, _, 0, _, .cons r _, h => by
    simp at h
    subst h
    exact ⟨_, rfl, r⟩
  | _, _, i + 1, _, .cons _ t, h => by
    rw [List.getElem?_cons_succ] at h
    obtain ⟨y, h1, h2⟩ := prd_get t h
    exact ⟨y, by rw [List.getElem?_cons_succ]; exact h1, h2⟩
theorem prd_len {α β : Type} {F : α → β → Prop} : ∀ {xs : List α} {ys : List β}, Paired F xs ys → xs.length = ys.length
  | _, _, .nil => rfl
  | _, _, .cons _ t => congrArg (· + 1) (prd_len t)
theorem prd_imp {α β : Type} {F F' : α → β → Prop} (k : ∀ x y, F x y → F' x y) : ∀ {xs : List α} {ys : List β}, Paired F xs ys → Paired F' xs ys
  | _, _, .nil => .nil
  | _, _, .cons r t => .cons (k _ _ r) (prd_imp k t)
theorem prd_app {α β : Type} {F : α → β → Prop} : ∀ {xs xs' : List α} {ys ys' : List β}, Paired F xs ys → Paired F xs' ys' → Paired F (xs ++ xs') (ys ++ ys')
  | _, _, _, _, .nil, s => s
  | _, _, _, _, .cons r t, s => .cons r (prd_app t s)
theorem prd_take {α β : Type} {F : α → β → Prop} : ∀ {xs : List α} {ys : List β} (n : Nat), Paired F xs ys → Paired F (xs.take n) (ys.take n)
  | _, _, 0, _ => .nil
  | _, _, _ + 1, .nil => .nil
  | _, _, n + 1, .cons r t => .cons r (prd_take n t)
/-- each has a partner -/
theorem prd_ex {α β : Type} {F : α → β → Prop} : ∀ {xs : List α}, (∀ x ∈ xs, ∃ y, F x y) → ∃ ys, Paired F xs ys
  | [], _ => ⟨[], .nil⟩
  | x :: r, h => by
    obtain ⟨y, hy⟩ := h x List.mem_cons_self
    obtain ⟨ys, hs⟩ := prd_ex fun x hx => h x (List.mem_cons_of_mem _ hx)
    exact ⟨y :: ys, .cons hy hs⟩
theorem prd_mem {α β : Type} {F : α → β → Prop} {x : α} : ∀ {xs : List α} {ys : List β}, Paired F xs ys → x ∈ xs → ∃ y ∈ ys, F x y
  | _, _, .nil, h => nomatch h
  | _, _, .cons (b := b) r t, h => by
    rcases List.mem_cons.mp h with rfl | h
    · exact ⟨b, List.mem_cons_self, r⟩
    · obtain ⟨y, h1, h2⟩ := prd_mem t h
      exact ⟨y, List.mem_cons_of_mem _ h1, h2⟩
/-- a statement and what follows it, with a word J between them -/
def xCut (t u : TS) : TS := fun D σ H => ∃ J : L2.St → Hp → Prop, t { D with nx := J } σ H ∧ ∀ σ' H', J σ' H' → u D σ' H'
theorem xss_cut {X : Cx} {st : Stmt} {sts : List Stmt} {t u : TS} (h1 : PS X st t) (h2 : PSs X sts u) : PSs X (st :: sts) (xCut t u) := by
  refine ⟨fun pins s0 σ H D I h => ?_⟩
  obtain ⟨J, hj, hu⟩ := h
  refine wpAny_execs_cons (thn (h1.run pins s0 σ H { D with nx := J } I hj) fun fl s2 q => ?_)
  cases fl with
  | next =>
    obtain ⟨σ2, H2, I2, q2⟩ := q
    exact h2.run pins s2 σ2 H2 D I2 (hu σ2 H2 q2)
  | _ => exact q
section
variable {K : PySem.W.Frag} {a : Addr} {xs : List V} {σ : L2.St}
/-- [e for x in xs], by the turn -/
theorem lc_at {te : TE} {vs : List Nat} {i : Nat} {H1 : Hp} {L : Addr} {Qd : Hp → Prop} (Pv : Nat → Hp → Prop) (h0 : Pv 0 (upd H1 L (.lst []))) (hl : ∀ k H, Pv k H → SqL K H a xs)
    (hw : ∀ x, wipe ((wipe σ vs).set i (some x)) vs = wipe σ vs)
    (hs : ∀ k x H, xs[k]? = some x → Pv k H → te ((wipe σ vs).set i (some x)) H fun y H4 => ∃ acc, H4 L = some (.lst acc) ∧ acc.length < sizeLine ∧ Pv (k + 1) (upd H4 L (.lst (acc ++ [y])))) (hd : ∀ H, Pv xs.length H → Qd H) :
    ∃ W : Nat → Nat → Hp → Prop, (∃ m, W 0 m (upd H1 L (.lst []))) ∧ ∀ k m H, W k m H →
      ((Itl K a).stop k H ∧ Qd H) ∨ ((Itl K a).go k H ∧ ∃ Nx : Hp → Prop, (∀ H', Nx H' → ∃ m', m' < m ∧ W (k + 1) m' H') ∧ ∀ x H', (Itl K a).yld k H x H' → gName i x (wipe σ vs) H' fun σ2 H2 => wipe σ2 vs = wipe σ vs ∧ tYes σ2 H2 fun b H3 =>
        if b = true then te σ2 H3 fun y H4 => ∃ acc, H4 L = some (.lst acc) ∧ acc.length < sizeLine ∧ Nx (upd H4 L (.lst (acc ++ [y]))) else Nx H3) :=
  lc_list Pv h0 (fun k H _ p => hl _ H p) (fun k x H hx p => ⟨hw x, hs _ x H hx p⟩) hd
end
theorem take_snoc {α : Type} {xs : List α} {i : Nat} {x : α} (h : xs[i]? = some x) : xs.take (i + 1) = xs.take i ++ [x] := (take_pre h).2
theorem ff {A : Prop} (h : false = true) : A := nomatch h
theorem tt {A : Prop} (h : true = false) : A := nomatch h
/-! ### the same with the written part K said (within a comprehension the reading must not name its context) -/
section
variable {X : Cx} (K : PySem.W.Frag) {a b e o : Expr} {es : List Expr} {ta tb te to : TE} {t : TA} {pos : Pos} {tg : Expr}
theorem ix_k (h : X.K = K := by rfl) : IxR X (yIx K) := h ▸ ix_y
theorem cr_lenK (h : X.K = K := by rfl) : CallR X (.builtin "len") (yLen K) := h ▸ cr_len
theorem op_eqK (hu : X.A.units + 64 < cLine) (h : X.K = K := by rfl) : OpR X (compareOp .Eq) (yEq K) := h ▸ op_eqY hu
theorem op_neK (hu : X.A.units + 64 < cLine) (h : X.K = K := by rfl) : OpR X (compareOp .NotEq) (yNe K) := h ▸ op_neY hu
theorem xt_truK (ha : PE X a ta) (h : X.K = K := by rfl) (he : ∀ whole, isTrue a X.env whole = (do let v ← whole; standAt a.pos; holding [v] (truthy v)) := by intro _; rfl) : PT X a (xTru K ta) := h ▸ xt_tru ha he
theorem call_isK (h : X.K = K := by rfl) : CallR X (.builtin "isinstance") (rIsi K) := h ▸ call_isi
def yList (K : PySem.W.Frag) : List V → Hp → VK → Prop := fun xs H Q => ∃ p ys, xs = [.ref p] ∧ (SqL K H p ys ∨ SqT K H p ys) ∧ ∀ l, H l = none → Q (.ref l) (upd H l (.lst ys))
theorem call_listK (h : X.K = K := by rfl) : CallR X (.type "list") (yList K) := h ▸ call_list_of
def yTup (K : PySem.W.Frag) : List V → Hp → VK → Prop := fun xs H Q => ∃ p ys, xs = [.ref p] ∧ ((SqL K H p ys ∧ ∀ l, H l = none → Q (.ref l) (upd H l (.tup ys))) ∨ (SqT K H p ys ∧ Q (.ref p) H))
theorem call_tupleK (h : X.K = K := by rfl) : CallR X (.type "tuple") (yTup K) := h ▸ call_tuple_of
theorem cr_sumK (hc : X.calm = true) (h : X.K = K := by rfl) : CallR X (.builtin "sum") (rSum K) := h ▸ cr_sum hc
theorem sl_listK (h : X.K = K := by rfl) : SlR X (rSlL K) := h ▸ sl_list
theorem pi_listK (ha : PE X a ta) (h : X.K = K := by rfl) : PI X tg a (iList K ta) := h ▸ pi_list ha
theorem pi_tupK (ha : PE X a ta) (h : X.K = K := by rfl) : PI X tg a (iTup K ta) := h ▸ pi_tup ha
theorem pe_bmK {T id : String} {name : Str} {apos cpos : Pos} {r : V → List V → Hp → VK → Prop} (pa : PlainAttrs T) (slot : Slot T name id) (hty : typeOf (.builtin id) = pure (.type "method_descriptor")) (hm : MtR X id r) (ho : PE X o to) (ha : PA X (e :: es) t) (hK : X.K = K := by rfl)
    (hbase : attributeBase o name X.env (eval o X.env) = eval o X.env := by rfl)
    (hfew : ((backTo cpos (starEach (e :: es) X.env)).all (fun x => !x.1) && (backToKw cpos (keywordEach [] X.env)).all (fun x => x.1.isSome)
      && decide ((e :: es).length + ([] : List Keyword).length + (if ([] : List Keyword).isEmpty then 0 else 1) < 30)) = true := by rfl)
    (hline : (apos.endLine == cpos.line) = true := by rfl) (hs : starEach (e :: es) X.env = (false, eval e X.env) :: starEach es X.env := by rfl) (hplain : (backTo cpos (starEach es X.env)).any (·.1) = false := by rfl) :
    PE X (.Call (.Attribute o name apos) (e :: es) [] cpos) (tBM K T r to t) := hK ▸ pe_bm pa slot hty hm ho ha hbase hfew hline hs hplain
end
section
variable {X : Cx} {a b c o : Expr} {ta tb tc : TE} {pos : Pos}
/-- a op1 b op2 c, b asked once -/
def xChain (r r' : R2) (ta tb tc : TE) : TE := fun σ H Q => ta σ H fun x H1 => tb σ H1 fun y H2 => r x y H2 fun z H3 => match z with
  | .bl k => (k = true → tc σ H3 fun w' H4 => r' y w' H4 Q) ∧ (k = false → Q (.bl false) H3)
  | _ => False
theorem xe_chain {op op' : CmpOp} {r r' : R2} (ho : OpR X (compareOp op) r) (ho' : OpR X (compareOp op') r') (ha : PE X a ta) (hb : PE X b tb) (hc : PE X c tc)
    (hm : lastMarks [op, op'] [b, c] = false := by with_unfolding_all rfl) : PE X (.Compare a [op, op'] [b, c] pos) (xChain r r' ta tb tc) := by
  refine ⟨fun pins s0 σ H Q J h => ?_⟩
  refine Compare_chain (thn (ha.run pins s0 σ H _ J h) fun v s1 ⟨x, H1, J1, r1, q1⟩ => chain_link (thn (hb.run pins s1 σ H1 _ J1 q1) fun u s2 ⟨y, H2, J2, r2, q2⟩ =>
    thn (ho pins s2 σ H2 x y v u _ J2 r1 r2 q2) fun d s3 ⟨z, H3, J3, r3, q3⟩ => ?_)) hm
  cases z with
  | bl k =>
    cases r3
    refine wpAny_truthy_bool ?_
    cases k with
    | false => exact ite_ff ⟨.bl false, H3, J3, rfl, q3.2 rfl⟩
    | true => exact ite_tt (chain_last (thn (hc.run pins s3 σ H3 _ J3 (q3.1 rfl)) fun w' s4 ⟨z', H4, J4, r4, q4⟩ => ho' pins s4 σ H4 y z' u w' Q J4 r2 r4 q4))
  | _ => exact False.elim q3
theorem xt_chain {op op' : CmpOp} {r r' : R2} (ho : OpR X (compareOp op) r) (ho' : OpR X (compareOp op') r') (ha : PE X a ta) (hb : PE X b tb) (hc : PE X c tc)
    (hm : lastMarks [op, op'] [b, c] = false := by with_unfolding_all rfl) : PT X (.Compare a [op, op'] [b, c] pos) (xB (xChain r r' ta tb tc)) := by
  refine ⟨fun pins s0 σ H Q J h => ?_⟩
  refine isTrue_chain (thn (ha.run pins s0 σ H _ J h) fun v s1 ⟨x, H1, J1, r1, q1⟩ => test_link (thn (hb.run pins s1 σ H1 _ J1 q1) fun u s2 ⟨y, H2, J2, r2, q2⟩ =>
    thn (ho pins s2 σ H2 x y v u _ J2 r1 r2 q2) fun d s3 ⟨z, H3, J3, r3, q3⟩ => ?_)) hm
  cases z with
  | bl k =>
    cases r3
    refine wpAny_truthy_bool ?_
    cases k with
    | false => exact ite_ff ⟨H3, J3, q3.2 rfl⟩
    | true =>
      refine ite_tt (test_last (thn (hc.run pins s3 σ H3 _ J3 (q3.1 rfl)) fun w' s4 ⟨z', H4, J4, r4, q4⟩ => thn (ho' pins s4 σ H4 y z' u w' _ J4 r2 r4 q4) fun d' s5 ⟨z2, H5, J5, r5, q5⟩ => ?_))
      cases z2 with
      | bl k2 =>
        cases r5
        exact wpAny_truthy_bool ⟨H5, J5, q5⟩
      | _ => exact False.elim q5
  | _ => exact False.elim q3
/-- while: a word with its measure -/
def xWhile (c : TT) (tb : TS) : TS := fun D σ H => ∃ W : Nat → L2.St → Hp → Prop, (∃ m, W m σ H) ∧ ∀ m σ H, W m σ H → c σ H fun b H1 =>
  (b = true → tb { D with nx := fun σ' H' => ∃ m', m' < m ∧ W m' σ' H', ct := fun σ' H' => ∃ m', m' < m ∧ W m' σ' H', bk := D.nx } σ H1) ∧ (b = false → D.nx σ H1)
theorem xs_while {c : Expr} {body : List Stmt} {tc : TT} {tb : TS} (hp : PassesOwn (model X.prog X.w) X.A X.env X.xe) (hc : PT X c tc) (hb : PSs X body tb) : PS X (.While c body [] pos) (xWhile tc tb) := by
  refine ⟨fun pins s0 σ H D J h => ?_⟩
  obtain ⟨W, ⟨m0, w0⟩, turn⟩ := h
  refine wpAny_While (codeAny_whileLoop (fun n s' => ∃ σ' H', L2.Inv X pins σ' H' s' ∧ W n σ' H') ?_ m0 ⟨σ, H, J, w0⟩)
  rintro n s1 ⟨σ1, H1, J1, w1⟩
  refine wpAny_passesOwn hp (thn (hc.run pins s1 σ1 H1 _ J1 (turn n σ1 H1 w1)) fun k s2 ⟨H2, J2, q2⟩ => ?_)
  cases k with
  | true =>
    rw [if_pos rfl]
    refine wpAny_passesOwn hp (thn (hb.run pins s2 σ1 H2 _ J2 (q2.1 rfl)) fun f s3 q3 => ?_)
    cases f with
    | next =>
      obtain ⟨σ3, H3, J3, m', hm, w3⟩ := q3
      exact ⟨m', hm, σ3, H3, J3, w3⟩
    | cont =>
      obtain ⟨σ3, H3, J3, m', hm, w3⟩ := q3
      exact ⟨m', hm, σ3, H3, J3, w3⟩
    | brk => exact q3
    | ret v => exact q3
  | false =>
    rw [if_neg Bool.false_ne_true]
    exact wpAny_execs_nil ⟨σ1, H2, J2, q2.2 rfl⟩
/-- a comparison by an own method (__le__ ..) of two instances of C -/
def yOwn (C : Addr) (sp : Sp) (E : XK) : R2 := fun x y H Q => ∃ a b dx dy fs gs, x = .ref a ∧ y = .ref b ∧ H a = some (.ins C dx fs) ∧ H b = some (.ins C dy gs) ∧ sp [.ref a, .ref b] H Q E
theorem op_own {CX : CXT} {C f : Addr} {fd : FuncData} {ps : List Str} {sp : Sp} {E : XK} {op : CmpOp} {n : Nat} (hop : compareOp op = richCompare op) (F : FnOk X.prog X.w X.K X.mg X.base CX n f fd ps sp)
    (hs : PySem.W.findIn X.K (.ref C) (cmpInfo op).2.1 = some (some (.ref f))) (hf : PySem.W.isFn X.K (.ref f) = true) (hb : Binds X.K fd ps []) (hx : Passes CX X E) (hr : Room n X.A) : OpR X (compareOp op) (yOwn C sp E) := by
  intro pins s σ H x y u v Q I rx ry h
  obtain ⟨a, b, dx, dy, fs, gs, rfl, rfl, ha, hb', hsp⟩ := h
  cases rx
  cases ry
  rw [hop]
  obtain ⟨mA, J1, _⟩ := ins_get I.hok ha
  obtain ⟨mB, J2, _⟩ := ins_get I.hok hb'
  obtain ⟨od, J1, _⟩ := J1.look
  obtain ⟨od', J2, _⟩ := J2.look
  obtain ⟨m, hF⟩ := I.fr
  refine PySem.W.cmp_K (op := op) (tb := .ref C) hr.units0 hF I.ok.mod.kin J1 J2.type (by simp [PySem.W.notFirst]) hs hf ?_
  have hl := F.len _ _ _ _ hsp
  refine wpAny_mono (run_fn (us := [.ref a, .ref b]) (vs := [.ref a, .ref b]) (dvs := []) F hr hb .nil hx I (.cons rfl (.cons rfl .nil)) hsp) (fun v s' q => ?_) fun _ _ e => e
  obtain ⟨z, H', I', rz, q⟩ := q
  have fin : EP X pins σ Q v s' := ⟨z, H', I', rz, q⟩
  cases v <;> first | exact fin | (cases z <;> first | exact absurd (show _ = _ from rz) (by intro e; cases e) | (obtain ⟨_, e⟩ := rz; cases e))
variable (K : PySem.W.Frag)
theorem pe_fldK {f : Str} (ha : PE X a ta) (hb : attributeBase a f X.env (eval a X.env) = eval a X.env := by rfl) (h : X.K = K := by rfl) : PE X (.Attribute a f pos) (tFld K ta f) := h ▸ pe_fld ha hb
theorem in_seqK (h : X.K = K := by rfl) : OpR X (compareOp .In) (rIn K false) := h ▸ op_in_seq
theorem notin_seqK (h : X.K = K := by rfl) : OpR X (compareOp .NotIn) (rIn K true) := h ▸ op_notIn_seq
theorem mt_countK (h : X.K = K := by rfl) : MtR X "list.count" (rCntI K) := h ▸ mt_lcount
theorem cr_allK (hc : X.calm = true) (h : X.K = K := by rfl) : CallR X (.builtin "all") (rAll K) := h ▸ cr_all hc
theorem cr_anyK (hc : X.calm = true) (h : X.K = K := by rfl) : CallR X (.builtin "any") (rAny K) := h ▸ cr_any hc
end
theorem xe_glob {X : Cx} {x z : Str} {pos : Pos} (hg : Gl X x) (hm : ∃ t, X.mg x = some (.str z t)) (hd : (x == ("__debug__" : Str)) = false := by decide) : PE X (.Name x pos) (tC (.str z)) := by
  obtain ⟨t, hm⟩ := hm
  exact pe_glob hg hm ⟨_, rfl⟩ hd
theorem xe_globI {X : Cx} {x : Str} {z : Int} {pos : Pos} (hg : Gl X x) (hm : ∃ t, X.mg x = some (.int z t)) (hd : (x == ("__debug__" : Str)) = false := by decide) : PE X (.Name x pos) (tC (.int z)) := by
  obtain ⟨t, hm⟩ := hm
  exact pe_glob hg hm ⟨_, rfl⟩ hd
theorem prd_unsnoc {α β : Type} {F : α → β → Prop} {x : α} : ∀ {xs : List α} {ys : List β}, Paired F (xs ++ [x]) ys → ∃ ys' y, ys = ys' ++ [y] ∧ Paired F xs ys' ∧ F x y
  | [], _, .cons r .nil => ⟨[], _, rfl, .nil, r⟩
  | _ :: xs, _, .cons (b := b) r t => by
    obtain ⟨ys', y, rfl, h1, h2⟩ := prd_unsnoc (xs := xs) t
    exact ⟨b :: ys', y, rfl, .cons r h1, h2⟩
theorem nil_or_snoc {α : Type} (xs : List α) : xs = [] ∨ ∃ ys y, xs = ys ++ [y] := by
  rcases List.eq_nil_or_concat xs with h | ⟨ys, y, h⟩
  · exact .inl h
  · exact .inr ⟨ys, y, by simpa using h⟩
theorem pg_tupK {X : Cx} (K : PySem.W.Frag) (n : Nat) {es : List Expr} {k : Nat} {pos : Pos} {t : TGs} (h : PGs X es t) (hc : X.calm = true := by rfl) (hK : X.K = K := by rfl)
    (hn : (assignEach es X.env).length = n := by rfl) (hst : (assignEach es X.env).findIdx? (·.1) = none := by rfl) : PG X (.Tuple es k pos) (gTup K n t) := hK ▸ pg_tup hc h hn hst
theorem perm_erase {α : Type} : ∀ {xs : List α} {i : Nat} {x : α}, xs[i]? = some x → (x :: xs.eraseIdx i).Perm xs
  | [], _, _, h => by simp at h
  | y :: r, 0, x, h => by
    simp at h
    subst h
    exact List.Perm.refl _
  | y :: r, i + 1, x, h => by
    rw [List.getElem?_cons_succ] at h
    exact (List.Perm.swap _ _ _).trans (List.Perm.cons _ (perm_erase h))
theorem Sep.new2 {G H : Hp} {M : List (Addr × HO)} {x dx : Addr} {o u : HO} (S : Sep G M H) (h1 : H x = Option.none) (h2 : H dx = Option.none) (ne : dx ≠ x) : Sep G ((x, o) :: (dx, u) :: M) (upd (upd H dx u) x o) :=
  (S.new h2).new (by rw [upd_ne (Ne.symm ne)]; exact h1)
end XL
set_option Elab.async false
set_option linter.all false
set_option maxRecDepth 100000
set_option maxHeartbeats 4000000
/-! XIter: enumerate of a tuple. -/
namespace XL
open PySem PySem.Spec PyProof.Rows L2
theorem meets_enum1 {v : Value} {o : Obj} {Hq : Heap → Prop} (B : Begins v o Hq) :
    Meets (Builtin.«enumerate.__new__» ⟨[.type "enumerate", v], []⟩) (fun _ R s => Hq s.heap ∧
      R (.ok (.ret (.ref (s.heap.push o).objs.size))) { s with heap := (s.heap.push o).push { cls := .type "enumerate", data := .fields #[.none, .bool false, .ref s.heap.objs.size, rawInt 0, .none, .none] } }) :=
  .of_wp fun prog w A R s z => by
    obtain ⟨hp, g, d, tk, os⟩ := s
    obtain ⟨z1, z2⟩ := z
    have hsub := sub_enumerate
    have begin1 : ∀ {A' : Around} {E : Value → Shared → Prop} {Q : Value → Shared → Prop}, Q (.ref hp.objs.size) ⟨hp.push o, g, d, tk, os⟩ → wpAny (model prog w) A' (pyIter v) Q E ⟨hp, g, d, tk, os⟩ := fun q => B.iter prog w _ _ ⟨hp, g, d, tk, os⟩ _ z1 q
    wp_walk using begin1
    refine wpAny_stack_any fun st => wpAny_pure ?_
    split
    · rename_i c _ _ _ _ _
      cases (c == Value.type "enumerate") <;> (wp_walk using begin1; exact ⟨_, rfl, z2⟩)
    · wp_walk using begin1
      exact ⟨_, rfl, z2⟩
theorem call_enum1 {prog : Program} {w : World} {A : Around} {E : Value → Shared → Prop} {s : Shared} {v : Value} {o : Obj} {Hq : Heap → Prop} {Q : Value → Shared → Prop} (B : Begins v o Hq) (h1 : Hq s.heap)
    (k : ∀ h', IsEnum h' (s.heap.objs.size + 1) s.heap.objs.size 0 .none → h'.get? s.heap.objs.size = some o → (∀ b o, s.heap.get? b = some o → h'.get? b = some o) → Q (.ref (s.heap.objs.size + 1)) { s with heap := h' }) :
    wpAny (model prog w) A (call (.type "enumerate") [v]) Q E s := by
  refine callType_new F.called_enumerate (by decide) (F.typeCall_enumerate_1 _) (F.newCall_enumerate_1 _) (fun ob => F.args_object_init_2 ob _) F.entry_enumerate_new (meets_enum1 B) ⟨h1, ?_⟩
  have hz : (s.heap.push o).objs.size = s.heap.objs.size + 1 := Heap.size_push ..
  show _ ∧ _
  rw [hz]
  have he : IsEnum ((s.heap.push o).push { cls := .type "enumerate", data := .fields #[.none, .bool false, .ref s.heap.objs.size, rawInt 0, .none, .none] }) (s.heap.objs.size + 1) s.heap.objs.size 0 .none := by
    have z := Heap.get?_push_size (s.heap.push o) (o := { cls := .type "enumerate", data := .fields #[.none, .bool false, .ref s.heap.objs.size, rawInt 0, .none, .none] }) rfl
    rw [hz] at z
    exact z
  exact ⟨⟨_, he, rfl⟩, k _ he (Heap.get?_push_of_some _ (Heap.get?_push_size _ B.free)) fun b o x => Heap.get?_push_of_some _ (Heap.get?_push_of_some _ x)⟩
/-- the tuple at a, each item in a new pair -/
def IteT (K : PySem.W.Frag) (a : Addr) : It :=
  ⟨fun i H => ∃ (xs : List V) (x : V), SqT K H a xs ∧ xs[i]? = some x, fun i H v H' => ∃ T x, v = .ref T ∧ H T = none ∧ H' = upd H T (.tup [.int (i : Nat), x]) ∧ ∀ xs, SqT K H a xs → xs[i]? = some x, fun i H => ∃ xs : List V, SqT K H a xs ∧ xs.length ≤ i⟩
theorem turn_enumT {P : Program} {w : World} {K : PySem.W.Frag} {elts : List Expr} {kk : Nat} {tpos : Pos} (a e it : Addr) (hai : a ≠ it) (hae : a ≠ e) :
    Turn P w K (.Tuple elts kk tpos) (IteT K a) [e, it] e (fun i h => (∃ old, IsEnum h e it ((i : Nat) : Int) old) ∧ h.IsTupleIter it a i ∧ e ≠ it) where
  mem := by simp
  obj := fun i h st b hb => by
    obtain ⟨⟨old, he⟩, ⟨o, ho, hc, hd⟩, _⟩ := st
    have q : b = e ∨ b = it := by simpa using hb
    rcases q with z | z
    · rw [z]; exact ⟨_, he, fun v q => nomatch q⟩
    · rw [z]; exact ⟨o, ho, fun v q => by rw [hd] at q; cases q⟩
  keep := fun i h h' st k => let ⟨⟨old, he⟩, hi, hne⟩ := st; ⟨⟨old, k e (by simp) _ he⟩, hi.at fun o q => k it (by simp) o q, hne⟩
  item := by
    intro X hP hw hK hc i pins s σ H E I hf st hg
    subst hP hw hK
    obtain ⟨⟨old, he⟩, hit, hne⟩ := st
    obtain ⟨xs, x, hq, hx⟩ := hg
    obtain ⟨its, rv, p, hz⟩ := I.tuple hq
    obtain ⟨u, hu, ru⟩ := rv.get hx
    have hel : e < s.heap.objs.size := Heap.lt_size he
    have hil : it < s.heap.objs.size := by obtain ⟨_, q, _⟩ := hit; exact Heap.lt_size q
    have hlen : i < its.toArray.size := by
      have z := (List.getElem?_eq_some_iff.mp hu).1
      simpa using z
    refine wpAny_pyNext_enum_itemC (c := ((i : Nat) : Int)) (Draws.tuple (A := X.A.in1) (I.ok.hd hc) it a hai its.toArray) he ⟨hit, p⟩ hlen hne (by simp; exact ⟨hne, fun z => hae z.symm⟩) fun y h' tk hy ho st' hT hsz hk => ?_
    have ey : y = u := by
      have z : its[i]? = some y := by simpa using hy
      rw [hu] at z
      exact (Option.some.inj z).symm
    subst ey
    refine ⟨_, rfl, wpAny_letOwnedTupleGo_enum (s := { s with heap := h', toks := tk + 1 }) ho fun h'' he' sb => ?_⟩
    have hT2 : h''.get? s.heap.objs.size = some { cls := .type "tuple", data := .seq #[.int i tk, y] } := (sb.2 _ (Nat.ne_of_gt hel)).trans hT
    have new : ObjOk X.prog X.w (upd H s.heap.objs.size (.tup [.int (i : Nat), x])) h'' s.heap.objs.size (.tup [.int (i : Nat), x]) :=
      ⟨by show 2 ≤ sizeLine; decide, [.int i tk, y], .cons ⟨_, rfl⟩ (.cons ru .nil), ⟨_, hT2, rfl, _, rfl⟩⟩
    have I1 : L2.Inv X pins σ (upd H s.heap.objs.size (.tup [.int (i : Nat), x])) { s with heap := h'', toks := tk + 1 } :=
      I.turnedNew (ch := [e, it]) (fun b ob hb q => (sb.2 b (fun z => hb (by simp [z]))).trans (hk b ob (fun z => hb (by simp [z])) (fun z => hb (by simp [z])) q)) hf (Nat.le_refl _) new
    refine ⟨.ref s.heap.objs.size, _, I1, rfl, ⟨_, x, rfl, I.hok.fresh (Nat.le_refl _), rfl, fun ys hy => by rw [I.tuple_inj hy hq]; exact hx⟩, ⟨⟨y, ?_⟩, st'.1.at fun o q => (sb.2 it (Ne.symm hne)).trans q, hne⟩, fun b hb => ?_⟩
    · have e1 : ((i + 1 : Nat) : Int) = (i : Int) + 1 := by omega
      rw [e1]; exact he'
    · have hb2 : b < s.heap.objs.size := by
        have q : b = e ∨ b = it := by simpa using hb
        rcases q with z | z
        · rw [z]; exact hel
        · rw [z]; exact hil
      rw [upd_ne (Nat.ne_of_lt hb2)]
      exact (hf b hb).1
  done := by
    intro X hP hw hK hc i pins s σ H E I hf st hg
    subst hP hw hK
    obtain ⟨⟨old, he⟩, hit, hne⟩ := st
    obtain ⟨xs, hq, hx⟩ := hg
    obtain ⟨its, rv, p, hz⟩ := I.tuple hq
    obtain ⟨f0, f1, f2, f3, f4, f5⟩ := hf it (by simp)
    have hl := rv.length
    have D := Draws.tuple (prog := X.prog) (w := X.w) (A := X.A.in1) (I.ok.hd hc) it a hai its.toArray
    by_cases hi : i = its.toArray.size
    · subst hi
      exact wpAny_pyNext_enum_endD D he ⟨hit, p⟩ fun h' eb => ⟨rfl, I.turned (t' := s.toks) (fun b o hb q => eb b o hb q) f0 f1 f3 f4 f5⟩
    · have D2 : Draws X.prog X.w X.A.in1 it [it, a] i (fun _ _ => False) (fun j h => (j = i ∨ False) ∧ h.IsTupleIter it a i ∧ h.IsTuple a its.toArray) := {
        live := fun _ _ st => let ⟨o, ho, _⟩ := st.2.1; ⟨o, ho⟩
        frame := fun _ _ _ st hk => ⟨st.1, st.2.1.at fun o e => hk it (by simp) o e, st.2.2.at fun o e => hk a (by simp) o e⟩
        item := fun j s Q E hj st hQ => by
          rcases st.1 with z | z
          · omega
          · exact z.elim
        done := fun s Q E st hE => wpAny_nextOf_tuple_end (I.ok.hd hc) st.2.1 st.2.2 (by
          simp only [List.getElem?_toArray]
          exact List.getElem?_eq_none_iff.mpr (by omega)) hE }
      exact wpAny_pyNext_enum_endD D2 he ⟨.inl rfl, hit, p⟩ fun h' eb => ⟨rfl, I.turned (t' := s.toks) (fun b o hb q => eb b o hb q) f0 f1 f3 f4 f5⟩
  self := fun A i s Q E st h => let ⟨⟨_, he⟩, _⟩ := st; wpAny_pyIter_enum he h
def iEnumT (K : PySem.W.Frag) (ta : TA) : TI := fun σ H R => ta σ H fun vs H1 => ∃ a xs, vs = [.ref a] ∧ SqT K H1 a xs ∧ R (IteT K a) H1
theorem pi_enumT {X : Cx} {e : Expr} {ta : TA} {p pos tpos : Pos} {elts : List Expr} {kk : Nat} (hg : Gl X "enumerate") (hm : X.mg "enumerate" = none) (ha : PA X [e] ta) (hs : starEach [e] X.env = [(false, eval e X.env)] := by rfl) :
    PI X (.Tuple elts kk tpos) (.Call (.Name "enumerate" p) [e] [] pos) (iEnumT X.K ta) := by
  refine ⟨fun pins s σ H R I h => ?_⟩
  refine Call_ (ld_blt I hg hm boot_enumerate (PyProof.Rows.callWith_type1 (thn (ha.run pos pins s σ H _ I h) fun us s1 ⟨vs, H1, I1, r1, q1⟩ => ?_) hs rfl))
  obtain ⟨a, xs, ex, hq, q⟩ := q1
  subst ex
  cases r1 with
  | cons r rr =>
    cases rr
    cases r
    obtain ⟨its, rv, p', hz⟩ := I1.tuple hq
    have hal : a < s1.heap.objs.size := by obtain ⟨o, ho, _⟩ := p'; exact Heap.lt_size ho
    refine call_enum1 (begins_tuple a its.toArray) p' fun h' he hit hk => wpAny_pyIter_enum he ?_
    have I2 : L2.Inv X pins σ H1 { s1 with heap := h' } := I1.kept (t' := s1.toks) hk
    refine ⟨s1.heap.objs.size + 1, [s1.heap.objs.size + 1, s1.heap.objs.size], _, _, H1, rfl, I2, turn_enumT a (s1.heap.objs.size + 1) s1.heap.objs.size (Nat.ne_of_lt hal) (Nat.ne_of_lt (Nat.lt_succ_of_lt hal)), ⟨⟨.none, he⟩, ⟨_, hit, rfl, rfl⟩, Nat.succ_ne_self _⟩, fun b hb => ?_, q⟩
    have q' : b = s1.heap.objs.size + 1 ∨ b = s1.heap.objs.size := by simpa using hb
    have hle : s1.heap.objs.size ≤ b := by
      rcases q' with z | z
      · rw [z]; exact Nat.le_add_right _ _
      · rw [z]; exact Nat.le_refl _
    exact I1.fpOk hle (I1.hok.fresh hle)
theorem for_enumT {K : PySem.W.Frag} {a : Addr} {xs : List V} {tb : TS} {D : Ends} {σ : L2.St} {H : Hp} {i j : Nat} (Pv : Nat → L2.St → Hp → Prop) (h0 : Pv 0 σ H) (hl : ∀ k σ H, Pv k σ H → SqT K H a xs)
    (hs : ∀ k x σ H T, xs[k]? = some x → Pv k σ H → H T = none →
      tb { D with nx := Pv (k + 1), ct := Pv (k + 1), bk := D.nx } ((σ.set i (some (.int (k : Nat)))).set j (some x)) (upd H T (.tup [.int (k : Nat), x]))) (hd : ∀ σ H, Pv xs.length σ H → D.nx σ H) :
    ∃ W : Nat → Nat → L2.St → Hp → Prop, (∃ m, W 0 m σ H) ∧ ∀ k m σ H, W k m σ H →
      ((IteT K a).stop k H ∧ D.nx σ H) ∨ ((IteT K a).go k H ∧ ∃ N : L2.St → Hp → Prop, (∀ σ' H', N σ' H' → ∃ m', m' < m ∧ W (k + 1) m' σ' H') ∧ ∀ x H', (IteT K a).yld k H x H' →
        (gTup K 2 (gCons (gName i) (gCons (gName j) gNil))) x σ H' fun σ2 H2 => tb { D with nx := N, ct := N, bk := D.nx } σ2 H2) := by
  refine ⟨fun k m σ H => m = xs.length - k ∧ k ≤ xs.length ∧ Pv k σ H, ⟨xs.length, by simp, Nat.zero_le _, h0⟩, ?_⟩
  rintro k m σ H ⟨rfl, hk, p⟩
  have q := hl _ σ H p
  by_cases hlt : k < xs.length
  · refine .inr ⟨⟨xs, xs[k], q, by simp [hlt]⟩, Pv (k + 1), fun σ' H' p' => ⟨xs.length - (k + 1), by omega, rfl, hlt, p'⟩, fun v H' y => ?_⟩
    obtain ⟨T, x, rfl, nT, rfl, hx⟩ := y
    refine ⟨T, _, rfl, SqT.of upd_same, rfl, _, _, rfl, _, _, rfl, rfl, ?_⟩
    exact hs k x σ H T (hx xs q) p nT
  · have e : k = xs.length := by omega
    subst e
    exact .inl ⟨⟨xs, q, Nat.le_refl _⟩, hd σ H p⟩
end XL
set_option Elab.async false
set_option linter.all false
set_option maxRecDepth 100000
set_option maxHeartbeats 4000000
/-! XDeep: x in t, t.index(x), items data of any depth, t a list or a tuple. -/
namespace XL
open PySem PySem.Spec PyProof.Rows L2
section
variable {X : Cx} (K : PySem.W.Frag)
def rInX (K : PySem.W.Frag) (neg : Bool) : R2 := fun x y H Q => ∃ d ds, Dp K H x d ∧ (Dp K H y (.list ds) ∨ Dp K H y (.tuple ds)) ∧ SeqAt.shaped d = true ∧ PyData.canLayAll0 ds = true ∧ Q (.bl (if neg then !(ds.any fun z => PyData.eqv z d) else ds.any fun z => PyData.eqv z d)) H
theorem in_deepK (hu : X.A.units + 65 < cLine) (h : X.K = K := by rfl) : OpR X (compareOp .In) (rInX K false) := by
  subst h
  intro pins s σ H x y v u Q I rx ry h
  obtain ⟨d, ds, hd, he, sd, se, q⟩ := h
  obtain ⟨as, r1⟩ := Dp.reads I d x v hd rx
  rcases he with he | he
  · obtain ⟨bs, r2⟩ := Dp.reads I (.list ds) y u he ry
    exact SeqAt.in_list_reads r2 r1 se (SeqAt.canLay_of_shaped sd) (room_in_shaped sd hu) ⟨.bl _, H, I, rfl, q⟩
  · obtain ⟨bs, r2⟩ := Dp.reads I (.tuple ds) y u he ry
    exact SeqAt.in_tuple_reads r2 r1 se (SeqAt.canLay_of_shaped sd) (room_in_shaped sd hu) ⟨.bl _, H, I, rfl, q⟩
theorem notin_deepK (hu : X.A.units + 65 < cLine) (h : X.K = K := by rfl) : OpR X (compareOp .NotIn) (rInX K true) := by
  subst h
  intro pins s σ H x y v u Q I rx ry h
  obtain ⟨d, ds, hd, he, sd, se, q⟩ := h
  obtain ⟨as, r1⟩ := Dp.reads I d x v hd rx
  rcases he with he | he
  · obtain ⟨bs, r2⟩ := Dp.reads I (.list ds) y u he ry
    exact SeqAt.notIn_list_reads r2 r1 se (SeqAt.canLay_of_shaped sd) (room_in_shaped sd hu) ⟨.bl _, H, I, rfl, q⟩
  · obtain ⟨bs, r2⟩ := Dp.reads I (.tuple ds) y u he ry
    exact SeqAt.notIn_tuple_reads r2 r1 se (SeqAt.canLay_of_shaped sd) (room_in_shaped sd hu) ⟨.bl _, H, I, rfl, q⟩
/-- t.index(x), t a tuple: the first place of an equal one -/
def rIndexT (K : PySem.W.Frag) : V → List V → Hp → VK → Prop := fun x xs H Q => ∃ (a : Addr) (y : V) (d : PyData) (ds : List PyData) (j : Nat) (z : PyData), x = V.ref a ∧ xs = [y] ∧ Dp K H (V.ref a) (.tuple ds) ∧ Dp K H y d ∧
  PyData.canLayAll0 ds = true ∧ SeqAt.shaped d = true ∧ ds[j]? = some z ∧ PyData.eqv z d = true ∧ (∀ (m : Nat) (z' : PyData), m < j → ds[m]? = some z' → PyData.eqv z' d = false) ∧ Q (.int (j : Nat)) H
theorem mt_tindexK (hu : X.A.units + 65 < cLine) (h : X.K = K := by rfl) : MtR X "tuple.index" (rIndexT K) := by
  subst h
  intro pins s σ H x xs v us Q I rx rxs h
  obtain ⟨a, y, d, ds, j, z, rfl, rfl, hl, hy, hxs, sd, hz, hzj, hno, q⟩ := h
  cases rx
  cases rxs with
  | cons ry rt =>
    rename_i uy ut
    cases rt
    obtain ⟨bs, r1⟩ := Dp.reads I d y uy hy ry
    have hroom : X.A.units + 1 + min (PyData.depthAll ds) d.depth < cLine := room_in_shaped sd hu
    cases hl with
    | tup hs ha =>
      obtain ⟨its, rv, ⟨⟨cls, dd, data, sls⟩, ho, hc, n, hdt⟩, hlen⟩ := I.tuple hs
      simp only at hc hdt
      subst hc hdt
      obtain ⟨as, h4⟩ := Dp.readsAll I ds _ its ha rv
      have hn : its.length = ds.length := SeqAt.ReadsAll.length ds its as h4
      have hmap : its.map (SeqAt.readOf s.heap) = ds := SeqAt.readsAll_map ds its as hxs h4
      have hvl := rv.length
      obtain ⟨hjd, _⟩ := List.getElem?_eq_some_iff.mp hz
      have hjl : j < its.length := by omega
      have hj : j < its.toArray.size := by simpa using hjl
      have at_ : ∀ (m : Nat) (hm : m < its.toArray.size) (z' : PyData), ds[m]? = some z' → SeqAt.readOf s.heap its.toArray[m] = z' := by
        intro m hm z' hz'
        have hml : m < its.length := by simpa using hm
        rw [← hmap, List.getElem?_map, List.getElem?_eq_getElem hml] at hz'
        have e1 : SeqAt.readOf s.heap its[m] = z' := Option.some.inj (show some (SeqAt.readOf s.heap its[m]) = some z' from hz')
        simpa using e1
      refine call_meets PySem.F.slot_tuple_index ⟨_, ho, rfl⟩ PySem.F.entry_tuple_index (PySem.F.args_tuple_index_2 _ _)
        (TI.tuple_indexAt a its.toArray n dd sls uy (fun u => PyData.eqv (SeqAt.readOf s.heap u) d) j hj ?_ ?_) ⟨ho, SeqAt.items_eqAt (vs := its.toArray) (show ReadsAll s.heap its.toArray.toList ds as from h4) r1 hxs (SeqAt.canLay_of_shaped sd) hroom, ?_⟩
      · show PyData.eqv (SeqAt.readOf s.heap its.toArray[j]) d = true
        rw [at_ j hj z hz]
        exact hzj
      · intro m hm hmj
        have hmd : m < ds.length := by omega
        have hz' : ds[m]? = some ds[m] := List.getElem?_eq_getElem hmd
        show PyData.eqv (SeqAt.readOf s.heap its.toArray[m]) d = false
        rw [at_ m hm _ hz']
        exact hno m _ hmj hz'
      · exact ⟨.int (j : Nat), H, I.tok _, ⟨_, rfl⟩, q⟩
end
theorem u65 {k : Nat} {A : Around} (r : Room k A) : A.units + 65 < cLine := by have := r.un; omega
/-- xs[::-1] of a list -/
def tRev (K : PySem.W.Frag) (te : TE) : TE := fun σ H Q => te σ H fun x H1 => ∃ a xs, x = .ref a ∧ SqL K H1 a xs ∧ ∀ p, H1 p = none → Q (.ref p) (upd H1 p (.lst xs.reverse))
theorem pe_rev {X : Cx} {e m : Expr} {te : TE} {p2 pos : Pos} (he : PE X e te) (hm : PE X m (tC (.int (-1)))) : PE X (.Subscript e (.Slice none none (some m) p2) pos) (tRev X.K te) := by
  refine ⟨fun pins s σ H Q I h => ?_⟩
  refine Subscript_ (thn (he.run pins s σ H _ I h) fun v s1 ⟨x, H1, I1, r1, q1⟩ => ?_)
  refine wpAny_Slice (wpAny_evalPart_none (wpAny_evalPart_none (wpAny_evalPart_some (thn (hm.run pins s1 σ H1 (fun y H2 => y = .int (-1) ∧ H2 = H1) I1 ⟨rfl, rfl⟩) fun vm s3 ⟨y, H3, I3, r3, ey, eH⟩ => ?_))))
  subst ey eH
  obtain ⟨t, rfl⟩ := r3
  obtain ⟨a, xs, rfl, hx, q⟩ := q1
  cases r1
  have I4 : L2.Inv X pins σ H3 { s3 with heap := s3.heap.push { cls := .type "slice", data := .fields #[.none, .none, .int (-1) t] } } := I3.kept (t' := s3.toks) fun b ob q => Heap.get?_push_of_some _ q
  obtain ⟨its, r, ht, hz⟩ := I4.list hx
  have hlen := r.length
  show wpAny (model X.prog X.w) X.A (subscriptTail e (.Slice none none (some m) p2) (.ref a) (.ref s3.heap.objs.size)) (EP X pins σ Q) X.xe { s3 with heap := s3.heap.push { cls := .type "slice", data := .fields #[.none, .none, .int (-1) t] } }
  refine tail_any (ops := [.ref a, .ref s3.heap.objs.size]) ht.isList.typeIs slot_list_getitem.lookup ?_ (by with_unfolding_all rfl)
  refine wpAny_getItem_list_slice ht.isList (Heap.IsSliceOf.new ..) .none .none (.int (-1) t) (by decide) ?_ (by rw [List.size_toArray] <;> omega)
  rw [PySem.W.krv_pick]
  refine ⟨.ref _, _, I4.laid (t' := s3.toks) (o := .lst xs.reverse) (fun b ob q => Heap.get?_push_of_some _ q) (Nat.le_refl _) ?_, rfl, q _ (I4.hok.fresh (Nat.le_refl _))⟩
  exact ⟨by rw [List.length_reverse]; exact hz, _, 0, r.reverse, Heap.get?_push_size _ rfl⟩
theorem pe_revK {X : Cx} {e m : Expr} {te : TE} {p2 pos : Pos} (K : PySem.W.Frag) (he : PE X e te) (hm : PE X m (tC (.int (-1)))) (h : X.K = K := by rfl) : PE X (.Subscript e (.Slice none none (some m) p2) pos) (tRev K te) := h ▸ pe_rev he hm
theorem tst {b : Bool} {A B : Prop} (h1 : b = true → A) (h0 : b = false → B) : if b = true then A else B := by
  cases b
  · exact h0 rfl
  · exact h1 rfl
theorem sl_tupAK {X : Cx} (K : PySem.W.Frag) (h : X.K = K := by rfl) : SlR X (rSlA K) := h ▸ sl_tupA
/-! ### tuples whose object has no dict (so that their methods are reached) -/
def TupF (G : Hp) (a : Addr) (xs : List V) : Prop := ∃ o : Obj, o.dict = none ∧ G a = some (.frz o (.tup xs))
def Tu (G : Hp) (a : Addr) (xs : List V) : Prop := G a = some (.tup xs) ∨ TupF G a xs
theorem TupF.same {G G' : Hp} {a : Addr} {xs : List V} (e : Same G G') (h : TupF G a xs) : TupF G' a xs := let ⟨o, h1, h2⟩ := h; ⟨o, h1, e _ _ h2⟩
theorem Tu.same {G G' : Hp} {a : Addr} {xs : List V} (e : Same G G') (h : Tu G a xs) : Tu G' a xs := by
  rcases h with h | h
  · exact .inl (e _ _ h)
  · exact .inr (h.same e)
theorem Tu.sq {K : PySem.W.Frag} {H : Hp} {a : Addr} {xs : List V} (h : Tu H a xs) : SqT K H a xs := by
  rcases h with h | ⟨o, _, h⟩
  · exact .inl (.inl h)
  · exact .inl (.inr ⟨o, h⟩)
theorem Tu.ty {K : PySem.W.Frag} {H : Hp} {a : Addr} {xs : List V} (h : Tu H a xs) : TyX K H (.ref a) (.type "tuple") := by
  rcases h with h | ⟨o, _, h⟩
  · exact .base (.tup h)
  · exact .fTuple h
theorem TupF.tu {G : Hp} {a : Addr} {xs : List V} (h : TupF G a xs) : Tu G a xs := .inr h
section
variable {X : Cx} (K : PySem.W.Frag)
/-- tuple(xs) -/
def yTupF (K : PySem.W.Frag) : List V → Hp → VK → Prop := fun xs H Q => ∃ p ys, xs = [.ref p] ∧ ((SqL K H p ys ∧ ∀ l o, H l = none → o.dict = none → Q (.ref l) (upd H l (.frz o (.tup ys)))) ∨ (SqT K H p ys ∧ Q (.ref p) H))
theorem call_tupleFK (h : X.K = K := by rfl) : CallR X (.type "tuple") (yTupF K) := by
  subst h
  intro pins s σ H xs us Q I r h
  obtain ⟨p, ys, rfl, h⟩ := h
  obtain ⟨u, rfl, rx⟩ := vals1 r
  cases rx
  rcases h with ⟨hq, q⟩ | ⟨hq, q⟩
  · obtain ⟨its, r', pl, hz⟩ := I.list hq
    have hlen := r'.length
    refine call_tuple_list pl.isList (fun h' kp => ?_) (by simp only [List.size_toArray] <;> omega)
    have I1 : L2.Inv X pins σ H { s with heap := h' } := I.kept (t' := s.toks) kp
    have I2 : L2.Inv X pins σ (upd H h'.objs.size (.frz { cls := .type "tuple", data := .seq its.toArray } (.tup ys))) { s with heap := h'.push { cls := .type "tuple", data := .seq its.toArray } } :=
      I1.laid (t' := s.toks) (fun b o e => Heap.get?_push_of_some _ e) (Nat.le_refl _) (show ObjOk X.prog X.w _ _ _ (.frz { cls := .type "tuple", data := .seq its.toArray } (.tup ys)) from ⟨Heap.get?_push_size _ rfl, hz, its, r', IsTup.new _ _⟩)
    exact ⟨.ref h'.objs.size, _, I2, rfl, q _ _ (I1.hok.fresh (Nat.le_refl _)) rfl⟩
  · obtain ⟨its, r', pl, hz⟩ := I.tuple hq
    exact call_tuple_same pl ⟨.ref p, H, I, rfl, q⟩
/-- t.m(e, ..), t a tuple -/
def tTM (r : V → List V → Hp → VK → Prop) (to : TE) (t : TA) : TE := fun σ H Q => to σ H fun x H1 => (∃ a xs, x = .ref a ∧ TupF H1 a xs) ∧ t σ H1 fun vs H2 => r x vs H2 Q
theorem pe_tm {o e : Expr} {es : List Expr} {to : TE} {t : TA} {id : String} {name : Str} {apos cpos : Pos} {r : V → List V → Hp → VK → Prop} (slot : Slot "tuple" name id) (hty : typeOf (.builtin id) = pure (.type "method_descriptor")) (hm : MtR X id r) (ho : PE X o to) (ha : PA X (e :: es) t)
    (hbase : attributeBase o name X.env (eval o X.env) = eval o X.env := by rfl)
    (hfew : ((backTo cpos (starEach (e :: es) X.env)).all (fun x => !x.1) && (backToKw cpos (keywordEach [] X.env)).all (fun x => x.1.isSome)
      && decide ((e :: es).length + ([] : List Keyword).length + (if ([] : List Keyword).isEmpty then 0 else 1) < 30)) = true := by rfl)
    (hline : (apos.endLine == cpos.line) = true := by rfl) (hs : starEach (e :: es) X.env = (false, eval e X.env) :: starEach es X.env := by rfl) (hplain : (backTo cpos (starEach es X.env)).any (·.1) = false := by rfl) :
    PE X (.Call (.Attribute o name apos) (e :: es) [] cpos) (tTM r to t) := by
  refine ⟨fun pins s σ H Q I h => ?_⟩
  refine wpAny_Call_method_late hbase hfew hline rfl (thn (ho.run pins s σ H _ I h) fun v s1 ⟨x, H1, I1, r1, ty, q1⟩ => ?_)
  obtain ⟨a, xs, rfl, ob, hd, ha'⟩ := ty
  cases r1
  obtain ⟨h1, _, _, _, h2⟩ := I1.hok _ _ ha'
  refine ⟨"tuple", id, PySem.F.plainAttrs_tuple, slot, hty, ⟨ob, h1, ?_⟩, fun b e => ?_, ?_⟩
  · obtain ⟨ob', e1, e2, _⟩ := h2
    rw [h1] at e1
    rw [Option.some.inj e1]
    exact e2
  · cases e
    exact ⟨ob, h1, hd⟩
  have hA := ha.run cpos pins s1 σ H1 _ I1 q1
  rw [hs] at hA ⊢
  refine Calls.callWith_builtin (by show (false || (backTo cpos (starEach es X.env)).any (·.1)) = false; rw [hplain] <;> rfl) (Calls.evalArgs_plain ?_)
  exact thn hA fun us s2 ⟨vs, H2, I2, r2, q2⟩ => hm pins s2 σ H2 (V.ref a) vs (.ref a) us Q I2 rfl r2 q2
end
/-- t[lo:hi]: the whole of it is t itself -/
def rSlF (K : PySem.W.Frag) : V → Option Int → Option Int → Hp → VK → Prop := fun x lo hi H Q => ∃ a xs, x = .ref a ∧ SqT K H a xs ∧
  (HT.sIx xs.length 0 lo = 0 ∧ HT.sIx xs.length xs.length hi = xs.length → Q (.ref a) H) ∧ (¬ (HT.sIx xs.length 0 lo = 0 ∧ HT.sIx xs.length xs.length hi = xs.length) → ∀ p ob, H p = none → ob.dict = none → Q (.ref p) (upd H p (.frz ob (.tup (cutV xs lo hi)))))
theorem sl_tupFK {X : Cx} (K : PySem.W.Frag) (h : X.K = K := by rfl) : SlR X (rSlF K) := by
  subst h
  intro pins s σ H x v vl vu lo hi sl Q I rx hs pl pu h
  obtain ⟨a, xs, rfl, hx, q1, q2⟩ := h
  by_cases hw : HT.sIx xs.length 0 lo = 0 ∧ HT.sIx xs.length xs.length hi = xs.length
  · exact sl_tupA pins s σ H _ v vl vu lo hi sl Q I rx hs pl pu ⟨a, xs, rfl, hx, q1, fun z => absurd hw z⟩
  · cases rx
    obtain ⟨its, r, ht, hz⟩ := I.tuple hx
    have hlen : its.toArray.size = xs.length := by rw [List.size_toArray]; exact r.length.symm
    refine ⟨"tuple", _, PyProof.Rows.slot_tuple_getitem.lookup, ht.typeIs, ?_⟩
    refine HT.getItem_tuple_cut ht hs pl pu (by rw [hlen]; exact hw) ?_ (by rw [hlen]; exact hz)
    rw [hlen]
    refine ⟨.ref s.heap.objs.size, _, I.laid (t' := s.toks) (o := .frz { cls := .type "tuple", data := .seq (List.take (HT.sIx xs.length xs.length hi - HT.sIx xs.length 0 lo) (List.drop (HT.sIx xs.length 0 lo) its.toArray.toList)).toArray } (.tup (cutV xs lo hi))) (fun b ob q => Heap.get?_push_of_some _ q) (Nat.le_refl _) ?_, rfl, q2 hw _ _ (I.hok.fresh (Nat.le_refl _)) ?_⟩
    · exact ⟨Heap.get?_push_size _ rfl, Nat.le_trans (cutV_length xs lo hi) hz, _, (r.drop (HT.sIx xs.length 0 lo)).take (HT.sIx xs.length xs.length hi - HT.sIx xs.length 0 lo), IsTup.new _ _⟩
    · rfl
theorem Sep.sub {G H : Hp} {M M' : List (Addr × HO)} (S : Sep G M H) (h : M'.Sublist M) : Sep G M' H := ⟨S.1, fun p hp => S.2.1 p (h.subset hp), List.Nodup.sublist (h.map _) S.2.2⟩
theorem Sep.rot2 {G H : Hp} {a b c d : Addr × HO} {M : List (Addr × HO)} (S : Sep G (a :: b :: c :: d :: M) H) : Sep G (c :: d :: a :: b :: M) H := S.perm (List.perm_append_comm_assoc [a, b] [c, d] M)
theorem Sep.no3 {G H : Hp} {a b c : Addr × HO} {M : List (Addr × HO)} (S : Sep G (a :: b :: c :: M) H) : Sep G (a :: b :: M) H := S.sub ((List.sublist_cons_self c M).cons₂ b |>.cons₂ a)
/-! ### lists of ints, of pairs of ints, as data -/
def prd (p : Int × Int) : PyData := .tuple [.int p.1, .int p.2]
theorem prd_can (p : Int × Int) : (prd p).canLay0 = true := by simp [prd, PyData.canLay0, PyData.canLayAll0]
theorem prd_shaped (p : Int × Int) : SeqAt.shaped (prd p) = true := by
  unfold SeqAt.shaped
  rw [prd_can]
  simp [prd, PyData.depth, PyData.depthAll]
theorem prds_can : ∀ ps : List (Int × Int), PyData.canLayAll0 (ps.map prd) = true
  | [] => by simp [PyData.canLayAll0]
  | p :: r => by simp [PyData.canLayAll0, prd_can p, prds_can r]
theorem ints_can : ∀ ns : List Int, PyData.canLayAll0 (ns.map PyData.int) = true
  | [] => by simp [PyData.canLayAll0]
  | n :: r => by simp [PyData.canLayAll0, PyData.canLay0, ints_can r]
theorem prd_eqv (p q : Int × Int) : PyData.eqv (prd p) (prd q) = decide (p = q) := by
  obtain ⟨a, b⟩ := p
  obtain ⟨c, d⟩ := q
  simp only [prd, PyData.eqv, PyData.eqvAll, Bool.and_true]
  by_cases h1 : a = c <;> by_cases h2 : b = d <;> simp [h1, h2]
theorem int_shaped (n : Int) : SeqAt.shaped (.int n) = true := by simp [SeqAt.shaped, PyData.canLay0, PyData.depth]
theorem ints_dp {K : PySem.W.Frag} {H : Hp} : ∀ ns : List Int, DpAll K H (ns.map V.int) (ns.map PyData.int)
  | [] => .nil
  | n :: r => .cons (.int n) (ints_dp r)
theorem any_ints (n : Int) (ns : List Int) : ((ns.map PyData.int).any fun z => PyData.eqv z (.int n)) = decide (n ∈ ns) := by
  induction ns with
  | nil => rfl
  | cons m r ih =>
    rw [List.map_cons, List.any_cons, ih]
    show ((m == n) || decide (n ∈ r)) = decide (n ∈ m :: r)
    by_cases e : n = m
    · subst e; simp
    · have e2 : ¬ m = n := fun q => e q.symm
      simp [e, e2]
theorem any_prds (p : Int × Int) (ps : List (Int × Int)) : ((ps.map prd).any fun z => PyData.eqv z (prd p)) = decide (p ∈ ps) := by
  induction ps with
  | nil => rfl
  | cons q r ih =>
    rw [List.map_cons, List.any_cons, ih, prd_eqv]
    by_cases e : p = q
    · subst e; simp
    · have e2 : ¬ q = p := fun h => e h.symm
      simp [e, e2]
end XL
set_option Elab.async false
set_option linter.all false
set_option maxRecDepth 100000
set_option maxHeartbeats 4000000
/-! XOwn: o[i], o[i] = v by own methods. -/
namespace XL
open PySem PySem.Spec PyProof.Rows L2
section
variable {X : Cx} {CX : CXT} {C f : Addr} {fd : FuncData} {ps : List Str} {sp : Sp} {E : XK} {n : Nat} {o i : Expr} {to ti : TE} {pos : Pos}
def yIxO (C : Addr) (sp : Sp) (E : XK) : R2 := fun x y H Q => ∃ a dx fs, x = .ref a ∧ H a = some (.ins C dx fs) ∧ sp [.ref a, y] H Q E
theorem pe_ixO (ho : PE X o to) (hi : PE X i ti) (F : FnOk X.prog X.w X.K X.mg X.base CX n f fd ps sp) (hs : PySem.W.findIn X.K (.ref C) "__getitem__" = some (some (.ref f))) (hf : PySem.W.fnIn X.K f = true) (hfn : PySem.W.isFn X.K (.ref f) = true)
    (hb : Binds X.K fd ps []) (hx : Passes CX X E) (hr : Room (n + 1) X.A) (hsl : ∀ x v, subscripted i true (.ref x) v = runValue (.builtin "lifetime.subscript" ⟨[.ref x, v], []⟩) := by intro _ _; with_unfolding_all rfl) :
    PE X (.Subscript o i pos) (tOp (yIxO C sp E) to ti) := by
  refine ⟨fun pins s σ H Q I h => ?_⟩
  refine Subscript_ (thn (ho.run pins s σ H _ I h) fun v s1 ⟨x, H1, I1, r1, q1⟩ => thn (hi.run pins s1 σ H1 _ I1 q1) fun u s2 ⟨y, H2, I2, r2, q2⟩ => ?_)
  obtain ⟨a, dx, fs, rfl, ha, hsp⟩ := q2
  cases r1
  obtain ⟨mA, J, _⟩ := ins_get I2.hok ha
  obtain ⟨od, J, _⟩ := J.look
  obtain ⟨m, hF⟩ := I2.fr
  refine PySem.W.sub_K hF I2.ok.mod.kin J hs hf hfn ?_ (hsl _ _)
  have hl : ([Value.ref a, u] ++ []).length = ps.length := F.len _ _ _ _ hsp
  refine wpAny_call (codeAny_mono (F.run X.A.in1 X.stack s2 H2 ⟨[.ref a, u], []⟩ [.ref a, u] [.ref a, y] Q E hr.in1 I2.env0.in1 (hb s2 [.ref a, u] I2.kIn hl) (.cons rfl (.cons r2 .nil)) hsp) fun r s' hq => ?_)
  cases r with
  | error e => exact hx pins σ H2 s2 e s' I2 hq
  | ok fl =>
    cases fl with
    | ret u => exact I2.after hq
    | next => exact False.elim hq
    | brk => exact False.elim hq
    | cont => exact False.elim hq
def yStO (C : Addr) (sp : Sp) (E : XK) : TSet := fun x y v H Q => ∃ a dx fs, x = .ref a ∧ H a = some (.ins C dx fs) ∧ sp [.ref a, y, v] H (fun _ H' => Q H') E
theorem set_own (F : FnOk X.prog X.w X.K X.mg X.base CX n f fd ps sp) (hq : PySem.W.noSeq X.K C = true) (hs : PySem.W.findIn X.K (.ref C) "__setitem__" = some (some (.ref f))) (hfn : PySem.W.isFn X.K (.ref f) = true)
    (hb : Binds X.K fd ps []) (hx : Passes CX X E) (hr : Room n X.A) : PSet X (yStO C sp E) := by
  intro pins s σ H x y v xv yv vv Q I rx ry rv h
  obtain ⟨a, dx, fs, rfl, ha, hsp⟩ := h
  cases rx
  obtain ⟨mA, J, _⟩ := ins_get I.hok ha
  obtain ⟨od, J, _⟩ := J.look
  obtain ⟨m, hF⟩ := I.fr
  refine PySem.W.ksp_setItem hF I.ok.mod.kin J hq hs hfn ?_
  refine wpAny_mono (run_fn (us := [.ref a, yv, vv]) (vs := [.ref a, y, v]) (dvs := []) F hr hb .nil hx I (.cons rfl (.cons ry (.cons rv .nil))) hsp) (fun r s' q => ?_) fun _ _ e => e
  obtain ⟨z, H', I', rz, q⟩ := q
  exact ⟨H', I', q⟩
end
end XL
set_option Elab.async false
set_option linter.all false
set_option maxRecDepth 100000
set_option maxHeartbeats 4000000
/-! XTup: tuples made by a display or by +, as objects without a dict. -/
namespace XL
open PySem PySem.Spec PyProof.Rows L2
section
variable {X : Cx} {es : List Expr} {t : TA} {pos : Pos}
def tTupF (t : TA) : TE := fun σ H Q => t σ H fun xs H1 => xs.length ≤ sizeLine ∧ ∀ p ob, H1 p = none → ob.dict = none → Q (.ref p) (upd H1 p (.frz ob (.tup xs)))
theorem pe_tupF {x1} (h : PA X es t) : PE X (.Tuple es x1 pos) (tTupF t) := by
  refine ⟨fun pins s σ H Q I hq => ?_⟩
  refine wpAny_Tuple_spliced (thn (h.run pos pins s σ H _ I hq) fun us s1 ⟨xs, H1, I1, r, z, q⟩ => ⟨by rw [← r.length]; exact z, ?_⟩)
  have hf : H1 s1.heap.objs.size = none := I1.hok.fresh (Nat.le_refl _)
  refine ⟨.ref s1.heap.objs.size, _, I1.laid (t' := s1.toks) (o := .frz { cls := .type "tuple", data := .seq us.toArray } (.tup xs)) (fun b u e => Heap.get?_push_of_some _ e) (Nat.le_refl _) ?_, rfl, q _ _ hf rfl⟩
  exact ⟨Heap.get?_push_size _ rfl, z, us, r, ⟨_, Heap.get?_push_size _ rfl, rfl, _, rfl⟩⟩
def rCatF (K : PySem.W.Frag) : R2 := fun x y H Q => ∃ a b xs ys, x = .ref a ∧ y = .ref b ∧ SqT K H a xs ∧ SqT K H b ys ∧ xs.length + ys.length ≤ sizeLine ∧
  (xs = [] → Q (.ref b) H) ∧ (xs ≠ [] → ys = [] → Q (.ref a) H) ∧ (xs ≠ [] → ys ≠ [] → ∀ p ob, H p = none → ob.dict = none → Q (.ref p) (upd H p (.frz ob (.tup (xs ++ ys)))))
theorem op_catFK (K : PySem.W.Frag) (h : X.K = K := by rfl) : OpR X (binaryOp .Add) (rCatF K) := by
  subst h
  intro pins s σ H x y v u Q I rx ry h
  obtain ⟨a, b, xs, ys, rfl, rfl, ha, hb, hz, q0, q1, q2⟩ := h
  by_cases hx : xs = []
  · exact op_catA pins s σ H _ _ v u Q I rx ry ⟨a, b, xs, ys, rfl, rfl, ha, hb, hz, q0, fun z => absurd hx z, fun z => absurd hx z⟩
  · cases rx
    cases ry
    obtain ⟨its, r1, p1, _⟩ := I.tuple ha
    obtain ⟨its2, r2, p2, _⟩ := I.tuple hb
    refine HT.cat_tup p1 p2 (fun z => hx (r1.nil_iff.mp z)) (fun z => ⟨.ref a, H, I, rfl, q1 hx (r2.nil_iff.mp z)⟩) (fun z => ?_) (by rw [← r1.length, ← r2.length]; exact hz)
    refine ⟨.ref s.heap.objs.size, _, I.laid (t' := s.toks) (o := .frz { cls := .type "tuple", data := .seq (its ++ its2).toArray } (.tup (xs ++ ys))) (fun b ob q => Heap.get?_push_of_some _ q) (Nat.le_refl _) ?_, rfl, q2 hx (fun w => z (r2.nil_iff.mpr w)) _ _ (I.hok.fresh (Nat.le_refl _)) rfl⟩
    exact ⟨Heap.get?_push_size _ rfl, by rw [List.length_append]; exact hz, _, r1.append r2, IsTup.new _ _⟩
end
section
variable {K : PySem.W.Frag} {a : Addr} {xs : List V} {Qd : Hp → Prop} {B : V → Hp → (Hp → Prop) → Prop} {H0 : Hp}
/-- a clause of a comprehension over a list -/
theorem loopL (Pv : Nat → Hp → Prop) (h0 : Pv 0 H0) (hl : ∀ k H, Pv k H → SqL K H a xs) (hs : ∀ k x H, xs[k]? = some x → Pv k H → B x H (Pv (k + 1))) (hd : ∀ H, Pv xs.length H → Qd H) :
    ∃ W : Nat → Nat → Hp → Prop, (∃ m, W 0 m H0) ∧ ∀ i m H, W i m H → ((Itl K a).stop i H ∧ Qd H) ∨ ((Itl K a).go i H ∧ ∃ Nx : Hp → Prop, (∀ H', Nx H' → ∃ m', m' < m ∧ W (i + 1) m' H') ∧ ∀ x H', (Itl K a).yld i H x H' → B x H' Nx) := by
  refine ⟨fun i m H => m = xs.length - i ∧ i ≤ xs.length ∧ Pv i H, ⟨xs.length, by simp, Nat.zero_le _, h0⟩, ?_⟩
  rintro i m H ⟨rfl, hi, p⟩
  have q := hl i H p
  by_cases hlt : i < xs.length
  · refine .inr ⟨⟨xs, xs[i], q, by simp [hlt]⟩, Pv (i + 1), fun H' p' => ⟨xs.length - (i + 1), by omega, rfl, hlt, p'⟩, fun x H' y => ?_⟩
    obtain ⟨e, y⟩ := y
    subst e
    exact hs i x _ (y xs q) p
  · have e : i = xs.length := by omega
    subst e
    exact .inl ⟨⟨xs, q, Nat.le_refl _⟩, hd H p⟩
/-- a clause of a comprehension over a range -/
theorem loopR {lo : Int} {n : Nat} (Pv : Nat → Hp → Prop) (h0 : Pv 0 H0) (hs : ∀ k H, k < n → Pv k H → B (.int (lo + k)) H (Pv (k + 1))) (hd : ∀ H, Pv n H → Qd H) :
    ∃ W : Nat → Nat → Hp → Prop, (∃ m, W 0 m H0) ∧ ∀ i m H, W i m H → ((Itr lo n).stop i H ∧ Qd H) ∨ ((Itr lo n).go i H ∧ ∃ Nx : Hp → Prop, (∀ H', Nx H' → ∃ m', m' < m ∧ W (i + 1) m' H') ∧ ∀ x H', (Itr lo n).yld i H x H' → B x H' Nx) := by
  refine ⟨fun i m H => m = n - i ∧ i ≤ n ∧ Pv i H, ⟨n, by simp, Nat.zero_le _, h0⟩, ?_⟩
  rintro i m H ⟨rfl, hi, p⟩
  by_cases hlt : i < n
  · refine .inr ⟨hlt, Pv (i + 1), fun H' p' => ⟨n - (i + 1), by omega, rfl, hlt, p'⟩, fun x H' y => ?_⟩
    obtain ⟨e, y⟩ := y
    subst e y
    exact hs i _ hlt p
  · have e : i = n := by omega
    subst e
    exact .inl ⟨Nat.le_refl _, hd H p⟩
/-- row + (item,) -/
theorem cat_one {G H : Hp} {M : List (Addr × HO)} {r : Addr} {n : List Int} {i : Int} {Q : VK} (S : Sep G M H) (hr : TupF G r (n.map V.int)) (hl : n.length ≤ 1000)
    (q : ∀ (p : Addr) (G' H' : Hp), Same G G' → Sep G' M H' → TupF G' p ((n ++ [i]).map V.int) → Q (.ref p) H') :
    [V.int i].length ≤ sizeLine ∧ ∀ p ob, H p = none → ob.dict = none → rCatF K (.ref r) (.ref p) (upd H p (.frz ob (.tup [.int i]))) Q := by
  refine ⟨sz, fun p ob np hob => ?_⟩
  have S1 := S.newG (o := .frz ob (.tup [.int i])) np
  have s1 := S.grow (o := .frz ob (.tup [.int i])) np
  have h1 : TupF (upd G p (.frz ob (.tup [.int i]))) p [.int i] := ⟨ob, hob, upd_same⟩
  refine ⟨r, p, n.map V.int, [.int i], rfl, rfl, ((hr.same s1).same S1.1).tu.sq, (h1.same S1.1).tu.sq, small (by rw [List.length_map]; simp; omega), fun e => ?_, fun _ e => (nomatch e), fun _ _ p2 ob2 np2 hob2 => ?_⟩
  · have e2 : n = [] := List.map_eq_nil_iff.mp e
    subst e2
    exact q p _ _ s1 S1 h1
  · have e3 : n.map V.int ++ [V.int i] = (n ++ [i]).map V.int := by rw [List.map_append]; rfl
    rw [e3]
    exact q p2 _ _ (s1.trans (S1.grow np2)) (S1.newG np2) ⟨ob2, hob2, upd_same⟩
end
end XL
set_option Elab.async false
set_option linter.all false
set_option maxRecDepth 100000
set_option maxHeartbeats 4000000
/-! XExc: an error of the program's own, class E(ScreenError): __init__(self, x): super().__init__(f'..{x!r}'); self.x = x: made, raised, caught. -/
namespace PySem
namespace XExc
open PySem.W PySem.Calls PyProof.Rows PySem.HandSPX
/-! ### the text of __init__ -/
def iA (fld : Str) (p1 p2 : Pos) : Arguments := { posonlyargs := [], args := [{ arg := "self", annotation := none, pos := p1 }, { arg := fld, annotation := none, pos := p2 }], vararg := none, kwonlyargs := [], kw_defaults := [], kwarg := none, defaults := [] }
structure Ps where
  a : Pos
  b : Pos
  c : Pos
  d : Pos
  e : Pos
  f : Pos
  g : Pos
  h : Pos
  i : Pos
  j : Pos
  k : Pos
  l : Pos
  m : Pos
  cv : Int
  cp : cv = 114 ∨ cv = -1
def iSup (q : Ps) : Expr := .Call (.Name "super" q.a) [] [] q.b
def iArg (fld : Str) (msg : Str) (q : Ps) : Expr := .JoinedStr [.Constant (.str msg) 0 q.d, .FormattedValue (.Name fld q.e) q.cv none q.f] q.g
def iCall (fld : Str) (msg : Str) (q : Ps) : Expr := .Call (.Attribute (iSup q) "__init__" q.c) [iArg fld msg q] [] q.h
def iB (fld : Str) (msg : Str) (q : Ps) : List Stmt := [.Expr (iCall fld msg q) q.i, .Assign [.Attribute (.Name "self" q.j) fld q.k] (.Name fld q.l) q.m]
/-- how the call is evaluated (the positions decide nothing here) -/
def Evals (fld msg : Str) (q : Ps) : Prop := ∃ pl : Env → Sem Bool, ∀ env : Env, eval (iCall fld msg q) env = (do
  let ov ← attributeBase (iSup q) "__init__" env (eval (iSup q) env)
  standAt q.c.atName
  let (f, first) ← holding [ov] (getMethod ov "__init__" (pl env))
  callWith q.h f first (backTo q.h (starEach [iArg fld msg q] env)) [])
def iN (fld : Str) : List (Str × NameKind) := [(PySem.Str.ofString "self", .local), (fld, .local), (PySem.Str.ofString "__class__", .free), (PySem.Str.ofString "super", .globalImplicit)]
def iS (fld : Str) : Scope := { kind := .function, names := iN fld, isGenerator := false, isCoroutine := false, more := [] }
/-- what the written part says of the class at C and of its __init__ at fI -/
structure ExTxt (P : Program) (K : Frag) (mg : Str → Option Value) (nm fld msg : Str) (C fI : Addr) : Prop where
  gC : mg nm = some (.ref C)
  cls : ∃ nm q N bs bm sn sub ab col dd k0 k1 k2 k3 k5, K.lookup C = some (excClassObj nm q C N bs bm true sn sub ab col dd k0 k1 k2 k3 k5 "ValueError.__new__") ∧ refsVE bm = true
  sa : findIn K (.ref C) "__setattr__" = some (some (.builtin "object.__setattr__"))
  ga : findIn K (.ref C) "__getattribute__" = some (some (.builtin "BaseException.__getattribute__"))
  gg : findIn K (.ref C) "__getattr__" = some none
  noN : findIn K (.ref C) fld = some none
  iC : findIn K (.ref C) "__init__" = some (some (.ref fI))
  tC : typeIn K (.ref fI) = some (.type "function")
  kC : keepIn K (.ref C) = true
  exC : subIn K (.ref C) (.type "BaseException") = some true
  tyC : typeIn K (.ref C) = some (.type "type")
  hdC : hasDictIn K C = true
  fn : ∃ (oc kV doc pm ct : Value) (od an : Option Addr) (osl : Array (Option Value)) (qual : Str) (cda cc : Addr) (p1 p2 : Pos) (q : Ps) (vs : Array Value) (file : Str) (tf : Tok) (ccl cl : Value) (cdd cld : Option Addr) (ccs csl : Array (Option Value)),
    K.lookup fI = some ⟨oc, od, .func (ksFn "__init__" qual (iA fld p1 p2) (iB fld msg q) (iS fld) .none kV doc pm an (.ref cda) ct cc), osl⟩ ∧ codeIn K (.ref cda) qual = true ∧ K.lookup cda = some ⟨ccl, cdd, .fields vs, ccs⟩ ∧ vs[2]? = some (.str file tf) ∧
    ((P.main.file : Str) == file) = true ∧ K.lookup cc = some ⟨cl, cld, .cell (some (.ref C)), csl⟩ ∧ Evals fld msg q ∧
    ∀ x v : Value, bindArgs (ksFn "__init__" qual (iA fld p1 p2) (iB fld msg q) (iS fld) .none kV doc pm an (.ref cda) ct cc) ⟨[x, v], []⟩ = pure [(("self" : Str), x), (fld, v)]
  sup : ks_superIn K C C "__init__" = some (some (.builtin "ValueError.__init__"))
  subV : subIn K (.ref C) (.type "ValueError") = some true
  mroS : mroIn K C (.ref C) = some true
  opq : nsIn K cStatics "thirdparty.any" = some none
  htop : (P.main.scope.names.lookup ("super" : Str)).isSome = false
  hsup : mg "super" = none
  f1 : fld ≠ "self"
  f2 : fld ≠ "__class__"
  f3 : fld ≠ "super"
  f4 : (fld == ("__debug__" : Str)) = false
  ml : msg.length ≤ 1000
/-- where the program stands -/
def PF (P : Program) (fl : Str) : Prop := ((P.main.file : Str) == fl) = true ∧ (P.main.scope.names.lookup ("super" : Str)).isSome = false
/-- what can be told in the message -/
def Rp (v : Value) : Prop := (∃ (y : Str) (t : Tok), v = .str y t ∧ (reprText y).length ≤ 100000) ∨ ∃ (i : Int) (t : Tok), v = .int i t ∧ i.natAbs.log2 < 1920
structure InitEnd (h h' : Heap) (x C dx : Addr) (fld : Str) (v : Value) : Prop where
  keep : ∀ b o, b ≠ x → h.get? b = some o → h'.get? b = some o
  obj : ∃ t1 : Addr, h'.get? x = some { cls := .ref C, dict := some dx, data := .fields #[.ref t1, .none, .none, .none, .bool false, .none] }
  dbig : h.objs.size ≤ dx
  dne : dx ≠ x
  ns : h'.Ns1 dx (fun y => if y = fld then some v else none)
structure OwnMade (h h' : Heap) (e C d : Addr) (fld : Str) (v : Value) : Prop where
  keep : ∀ b o, h.get? b = some o → h'.get? b = some o
  new : h.objs.size ≤ e
  obj : ∃ oe vs, h'.get? e = some oe ∧ oe.cls = .ref C ∧ oe.dict = some d ∧ oe.data = .fields vs ∧ vs[1]? = some .none
  dbig : h.objs.size ≤ d
  dne : d ≠ e
  ns : h'.Ns1 d (fun y => if y = fld then some v else none)
section
variable {prog : Program} {w : World} {A : Around} {E : Value → Shared → Prop} {h : Heap} {g : Array GenState} {d : Drawn} {t : Nat} {os : OsState}
variable {nm q : Str} {C N : Addr} {bs bm : List Value} {hdct : Bool} {sn : List Str} {sub : List Value} {ab : Bool} {col : Option Bool} {dd : Option Addr} {k0 k1 k2 k3 k5 : Option Value}
theorem call_mw {u e t0 : Addr} {rest : List Value} {Q : Value → Shared → Prop}
    (hC : h.get? C = some (excClassObj nm q C N bs bm hdct sn sub ab col dd k0 k1 k2 k3 k5 "ValueError.__new__")) (he : h.get? e = some (excO C t0)) (hu : h.get? u = some (kxs_mw "ValueError.__init__" e)) (hrest : rest.length ≤ sizeLine)
    (hq : ∀ h' t1, (∀ b o, b ≠ e → h.get? b = some o → h'.get? b = some o) → h.objs.size ≤ h'.objs.size → h'.get? e = some (excO C t1) → Q .none ⟨h', g, d, t, os⟩) :
    wpAny (model prog w) A (call (.ref u) rest) Q E ⟨h, g, d, t, os⟩ := by
  refine wpAny_call (codeAny_of_tree ?_)
  show wpAny _ A.in1 (callAny (.ref u) ⟨rest, []⟩) _ _ _
  simp only [callAny]
  refine wpAny_bind (wpAny_load hu ?_)
  simp only [kxs_mw, show (Value.type "method-wrapper" == Value.type "method" || Value.type "method-wrapper" == Value.type "builtin_function_or_method" || Value.type "method-wrapper" == Value.type "method-wrapper") = true by decide, if_true]
  refine W.KFB.if_so (by decide) ?_
  refine wpAny_bind (check_bound_init F.excBase_ValueError.toExcCallFacts hC he rfl ?_)
  refine wpAny_bind (wpAny_pure (wpAny_pure ?_))
  refine ⟨plainId_quiet F.excBase_ValueError.init.plain _, codeAny_builtin F.excBase_ValueError.initEntry ?_⟩
  rw [Around.under_plainId F.excBase_ValueError.init.plain _]
  wp_walk
  refine hq _ h.objs.size (fun b o hb ho => ?_) ?_ ?_
  · rw [Heap.get?_update_other _ _ (Ne.symm hb)]
    exact Heap.get?_push_of_some _ ho
  · simp [Heap.size_push]
  · rw [Heap.get?_update_self _ (Heap.get?_push_of_some _ he) rfl]
    rfl
end
section
variable {prog : Program} {w : World} {A : Around} {E : Value → Shared → Prop} {R : Result → Shared → Prop} {s : Shared} {K : Frag} {mg mb : Str → Option Value} {nm fld msg : Str} {C fI : Addr}
theorem one_size (v : Value) : [v].length ≤ sizeLine := by
  rw [sizeLine_eq]
  exact (by decide : 1 ≤ 16777216)
theorem reprChar_ge (q c : Nat) : 1 ≤ (Builtin.Str.reprChar q c).length := by
  unfold Builtin.Str.reprChar
  dsimp only
  repeat' split
  all_goals simp only [List.length_append, List.length_cons, List.length_nil]
  all_goals omega
theorem foldl_repr_ge1 (q : Nat) : ∀ (l : List Nat) (acc : Array Nat), acc.size + l.length ≤ (l.foldl (fun out c => out ++ (Builtin.Str.reprChar q c).toArray) acc).size
  | [], acc => Nat.le_refl _
  | c :: r, acc => by
    have ih := foldl_repr_ge1 q r (acc ++ (Builtin.Str.reprChar q c).toArray)
    have hc := reprChar_ge q c
    simp only [List.foldl_cons, List.length_cons]
    simp only [Array.size_append, List.size_toArray] at ih
    omega
theorem reprText_ge (x : Str) : x.length ≤ (reprText x).length := by
  unfold reprText
  show x.length ≤ ((x.cps.foldl (fun out c => out ++ (Builtin.Str.reprChar (reprQuote x) c).toArray) #[reprQuote x]).push (reprQuote x)).size
  rw [Array.size_push, ← Array.foldl_toList]
  have := foldl_repr_ge1 (reprQuote x) x.cps.toList #[reprQuote x]
  have e : x.cps.toList.length = x.length := by simp [Str.length]
  rw [e] at this
  omega
/-- f'..{v!r}' -/
theorem told_ok {env : Env} {q : Ps} {m : Str → Option Value} {v : Value} {Q : Value → Shared → Prop} (hn : s.heap.Ns env.locals m) (hv : m fld = some v) (hr : Rp v) (hml : msg.length ≤ 1000) (hk : env.scope.kind = .function) (hl : env.kindOf fld = some .local) (hd : (fld == ("__debug__" : Str)) = false)
    (h : ∀ u tk, Q u { s with toks := tk }) : wpAny (model prog w) A (eval (iArg fld msg q) env) Q E s := by
  unfold iArg
  have sm : ∀ n : Nat, n ≤ 200000 → n ≤ sizeLine := fun n hn => Nat.le_trans hn (by decide)
  rcases q.cp with ecv | ecv
  · rw [ecv]
    refine wpAny_JoinedStr ?_
    have e0 : evalEach [Expr.Constant (.str msg) 0 q.d, .FormattedValue (.Name fld q.e) 114 none q.f] env = [eval (.Constant (.str msg) 0 q.d) env, eval (.FormattedValue (.Name fld q.e) 114 none q.f) env] := by first | rfl | simp [evalEach]
    rw [e0]
    refine Calls.Constant_str ⟨msg, _, rfl, ?_, ?_⟩
    · rw [Str.length_append]
      exact sm _ (by show 0 + msg.length ≤ _; omega)
    refine wpAny_FormattedValue_repr (ESX.ldL hn hv ?_ hk hl hd)
    rcases hr with ⟨y, t, rfl, hz⟩ | ⟨i, t, rfl, hz⟩
    · have hz' : (reprText y).length ≤ sizeLine := sm _ (by omega)
      have out : ∀ (tk : Tok) (tt : Nat), ∃ (y' : Str) (t' : Tok), Value.str (reprText y) tk = .str y' t' ∧ (Str.empty ++ msg ++ y').length ≤ sizeLine ∧ Joins (model prog w) A E [] (Str.empty ++ msg ++ y') (fun out s₁ => out.length ≤ sizeLine ∧ Q (.str out s₁.toks) { s₁ with toks := s₁.toks + 1 }) { s with toks := tt } := fun tk tt => by
        have hl : (Str.empty ++ msg ++ reprText y).length ≤ sizeLine := by
          rw [Str.length_append, Str.length_append]
          exact sm _ (by show 0 + msg.length + _ ≤ _; omega)
        exact ⟨_, _, rfl, hl, hl, h _ _⟩
      exact pyReprObj_str (wpAny_formatField_str (out _ _) (out _ _) hz') hz'
    · have hz' := int_text_fits hz
      have ln : (toString i : Str).length ≤ 100000 := by
        have e := int_text_length_le (k := 1920) (by decide) hz
        show (Str.ofString (toString i)).length ≤ 100000
        rw [ofString_length]
        omega
      have out : ∀ (tk : Tok) (tt : Nat), ∃ (y' : Str) (t' : Tok), Value.str (toString i) tk = .str y' t' ∧ (Str.empty ++ msg ++ y').length ≤ sizeLine ∧ Joins (model prog w) A E [] (Str.empty ++ msg ++ y') (fun out s₁ => out.length ≤ sizeLine ∧ Q (.str out s₁.toks) { s₁ with toks := s₁.toks + 1 }) { s with toks := tt } := fun tk tt => by
        have hl : (Str.empty ++ msg ++ (toString i : Str)).length ≤ sizeLine := by
          rw [Str.length_append, Str.length_append]
          exact sm _ (by show 0 + msg.length + _ ≤ _; omega)
        exact ⟨_, _, rfl, hl, hl, h _ _⟩
      exact pyReprObj_int hz (wpAny_formatField_str (out _ _) (out _ _) hz')
  · rw [ecv]
    refine wpAny_JoinedStr ?_
    have e0 : evalEach [Expr.Constant (.str msg) 0 q.d, .FormattedValue (.Name fld q.e) (-1) none q.f] env = [eval (.Constant (.str msg) 0 q.d) env, eval (.FormattedValue (.Name fld q.e) (-1) none q.f) env] := by first | rfl | simp [evalEach]
    rw [e0]
    refine Calls.Constant_str ⟨msg, _, rfl, ?_, ?_⟩
    · rw [Str.length_append]
      exact sm _ (by show 0 + msg.length ≤ _; omega)
    refine wpAny_FormattedValue_plain (ESX.ldL hn hv ?_ hk hl hd)
    rcases hr with ⟨y, t, rfl, hz⟩ | ⟨i, t, rfl, hz⟩
    · have hy := reprText_ge y
      have hl : (Str.empty ++ msg ++ y).length ≤ sizeLine := by
        rw [Str.length_append, Str.length_append]
        exact sm _ (by show 0 + msg.length + _ ≤ _; omega)
      have out : ∀ (tk : Tok) (tt : Nat), ∃ (y' : Str) (t' : Tok), Value.str y tk = .str y' t' ∧ (Str.empty ++ msg ++ y').length ≤ sizeLine ∧ Joins (model prog w) A E [] (Str.empty ++ msg ++ y') (fun out s₁ => out.length ≤ sizeLine ∧ Q (.str out s₁.toks) { s₁ with toks := s₁.toks + 1 }) { s with toks := tt } := fun tk tt => ⟨_, _, rfl, hl, hl, h _ _⟩
      exact wpAny_formatField_str (out _ _) (out _ _) (sm _ (by omega))
    · have hz' := int_text_fits hz
      have ln : (toString i : Str).length ≤ 100000 := by
        have e := int_text_length_le (k := 1920) (by decide) hz
        show (Str.ofString (toString i)).length ≤ 100000
        rw [ofString_length]
        omega
      have hl : (Str.empty ++ msg ++ (toString i : Str)).length ≤ sizeLine := by
        rw [Str.length_append, Str.length_append]
        exact sm _ (by show 0 + msg.length + _ ≤ _; omega)
      exact wpAny_formatField_int hz ⟨_, _, rfl, hl, hl, h _ _⟩
end
section
variable {prog : Program} {w : World} {A : Around} {E : Value → Shared → Prop} {R : Result → Shared → Prop} {K : Frag} {mg mb : Str → Option Value} {nm fld msg : Str} {C fI : Addr}
theorem kept_but {K : Frag} {h h' : Heap} {x : Addr} (X : K.In h) (hx : K.lookup x = none) (k : ∀ b o, b ≠ x → h.get? b = some o → h'.get? b = some o) : K.In h' := fun a o e =>
  k a o (fun z => by rw [z, hx] at e; cases e) (X a o e)
theorem exc_init (T : ExTxt prog K mg nm fld msg C fI) {x t0 : Addr} {v : Value} {hp : Heap} {g : Array GenState} {dr : Drawn} {tk : Nat} {os : OsState} (X : K.In hp) (hlim : hp.NoLimit) (hG : hp.Ns mainGlobals mg) (hB : hp.Ns builtinsNs mb) (hbb : ∀ x : Str, x ≠ "__name__" → mb x = bootBuiltins x)
    (hx : hp.get? x = some (excO C t0)) (hnx : K.lookup x = none) (hroom : A.depth < recursionLimit) (hr : Rp v)
    (hq : ∀ h' tk' dx, InitEnd hp h' x C dx fld v → R (.ok (.ret .none)) ⟨h', g, dr, tk', os⟩) :
    codeAny (model prog w) A (.call (.ref fI) ⟨[.ref x, v], []⟩) R ⟨hp, g, dr, tk, os⟩ := by
  obtain ⟨oc, kV, doc, pm, ct, od, an, osl, qual, cda, cc, p1, p2, q, vs, file, tf, ccl, cl, cdd, cld, ccs, csl, ho, hcd, hcda, hvs, hfile, hcc, ⟨pl, hev⟩, hbind⟩ := T.fn
  obtain ⟨nm', q', N, bs, bm, sn, sub, ab, col, dd, k0, k1, k2, k3, k5, hC, hbm⟩ := T.cls
  have hcl : clsIn K C = some { name := nm', bases := bs, mro := .ref C :: bm, ns := N, qualname := q', hasDict := true, slotNames := sn, subclasses := sub, abstract := ab, collection := col, hasDel := false } := by unfold clsIn; rw [hC] <;> rfl
  have e1 : (iS fld).names.lookup fld = some .local := by
    show (iN fld).lookup fld = _
    unfold iN
    have z : (fld == PySem.Str.ofString "self") = false := by simpa using T.f1
    simp [List.lookup, z]
  have e2 : (iS fld).names.lookup ("self" : Str) = some .local := rfl
  have e3 : (iS fld).names.lookup ("__class__" : Str) = some .free := by
    show (iN fld).lookup ("__class__" : Str) = _
    unfold iN
    have z : (("__class__" : Str) == fld) = false := by simpa using Ne.symm T.f2
    have z2 : (("__class__" : Str) == PySem.Str.ofString "self") = false := by decide
    simp [List.lookup, z, z2]
  have e4 : (iS fld).names.lookup ("super" : Str) = some .globalImplicit := by
    show (iN fld).lookup ("super" : Str) = _
    unfold iN
    have z : (("super" : Str) == fld) = false := by simpa using Ne.symm T.f3
    have z2 : (("super" : Str) == PySem.Str.ofString "self") = false := by decide
    have z3 : (("super" : Str) == PySem.Str.ofString "__class__") = false := by decide
    simp [List.lookup, z, z2, z3]
  refine ks_codeAny_call_defAt (fd := ksFn "__init__" qual (iA fld p1 p2) (iB fld msg q) (iS fld) .none kV doc pm an (.ref cda) ct cc) (body := iB fld msg q) (binds := [("self", .ref x), (fld, v)]) hroom (X _ _ ho) rfl hlim (codeRec_of X hcd) rfl (BindsTo.of_eq (hbind _ _)) ?_ ?_ (fun h₁ hn k => ?_) rfl rfl rfl
  · intro y hy
    have hy : y ∈ iN fld := hy
    unfold iN at hy
    simp only [List.mem_cons, List.not_mem_nil, or_false] at hy
    rcases hy with rfl | rfl | rfl | rfl <;> exact fun z => nomatch z
  · intro y hy
    simp only [List.mem_cons, List.not_mem_nil, or_false] at hy
    rcases hy with rfl | rfl
    · exact e2
    · exact e1
  have X₁ : K.In h₁ := X.keeps k
  have hxL : hp.objs.size ≠ x := Nat.ne_of_gt (Heap.lt_size hx)
  have hx₁ := k _ _ hx
  have mS : List.lookup ("self" : Str) (List.reverse [(("self" : Str), Value.ref x), (fld, v)]) = some (.ref x) := by
    show List.lookup ("self" : Str) [(fld, v), (("self" : Str), Value.ref x)] = _
    have z : (("self" : Str) == fld) = false := by simpa using Ne.symm T.f1
    simp [List.lookup, z]
  have mF : List.lookup fld (List.reverse [(("self" : Str), Value.ref x), (fld, v)]) = some v := by
    show List.lookup fld [(fld, v), (("self" : Str), Value.ref x)] = _
    simp [List.lookup]
  refine ks_wpAt_execs_cons (ks_wpAt_Expr_any (ks_wpAt_MethodCall (o := iSup q) (name := "__init__") (he := hev _) ?_))
  have oC := X₁ _ _ hC
  refine ks_wpAt_super_base (env := callEnv (ksFn "__init__" qual (iA fld p1 p2) (iB fld msg q) (iS fld) .none kV doc pm an (.ref cda) ct cc) hp.objs.size fI) e4 e3 (by decide) rfl (X₁ _ _ ho) rfl rfl rfl (X₁ _ _ hcda) rfl hvs hfile T.htop ?_
  refine ks_loadName_global rfl e4 (loadGlobal_builtin (hG.keeps k) T.hsup (hB.keeps k) ((hbb _ (by decide +kernel)).trans (by first | boot_by_name | rfl | kernel_rfl)) ⟨rfl, ?_⟩)
  refine wpAny_loadName_free rfl e3 rfl ⟨_, X₁ _ _ hcc, rfl⟩ ?_
  refine wpAny_loadName_local rfl e2 hn mS ?_
  refine ks_wpAny_isType_cls oC rfl ⟨rfl, ?_⟩
  refine ks_wpAny_call_super oC rfl hx₁ rfl (fun c e => (nomatch e)) (looks_mroIn X₁ T.mroS) (fun h₂ hso k₂ => ?_)
  have X₂ : K.In h₂ := X₁.keeps k₂
  have hx₂ := k₂ _ _ hx₁
  have hsup : alongIn K "__init__" (((Value.ref C :: bm).dropWhile (· != .ref C)).drop 1) = some (some (.builtin "ValueError.__init__")) := by
    have z := T.sup
    unfold ks_superIn at z
    rw [hcl] at z
    exact z
  have I₂ : InstAt h₂ x (excO C t0) C none := ⟨hx₂, rfl, rfl, trivial⟩
  refine kxs_getMethod kxs_ValueError hso (looks_opaque X₂ T.opq) (l₀ := .ref C :: bm) ?_ rfl X₂ hsup (I₂.type.andThen (looks_subIn X₂ T.subV)) (ks_ne X₂ I₂ hcl) (by decide) ?_
  · exact fun A Q E s k q => wpAny_bind ((looks_clsIn X₂ hcl) A _ E s k (wpAny_pure q))
  have hu : (h₂.push (kxs_mw "ValueError.__init__" x)).get? h₂.objs.size = some (kxs_mw "ValueError.__init__" x) := Heap.get?_push_at rfl rfl
  have k₃ : ∀ b o, h₂.get? b = some o → (h₂.push (kxs_mw "ValueError.__init__" x)).get? b = some o := fun b o e => Heap.get?_push_of_some _ e
  have X₃ := X₂.keeps k₃
  have hn₃ : (h₂.push (kxs_mw "ValueError.__init__" x)).Ns hp.objs.size _ := (hn.keeps k₂).keeps k₃
  refine kxs_callWith (i := "ValueError.__init__") (x := x) rfl (evalArgs_plain ?_)
  show wpAny _ _ (spliced ((false, eval (iArg fld msg q) _) :: backTo q.h (starEach [] _))) _ _ _
  refine Calls.spliced_cons (told_ok hn₃ mF hr T.ml rfl e1 T.f4 fun u tk' => Calls.spliced_nil ⟨hu, ?_⟩)
  show wpAny _ _ (call (.ref h₂.objs.size) [u]) _ _ _
  refine call_mw (X₃ _ _ hC) (k₃ _ _ hx₂) hu (one_size _) fun h₄ t1 k₄ sz₄ hx₄ => ?_
  show wpAt _ _ _ (execs _ _) _ _ _
  refine wpAt_of_wpAny ?_
  have X₄ : K.In h₄ := kept_but X₃ hnx k₄
  have hn₄ : h₄.Ns hp.objs.size (fun x_1 => List.lookup x_1 (List.reverse [(("self" : Str), Value.ref x), (fld, v)])) := by
    obtain ⟨oL, es, ep, hL, r⟩ := hn₃
    exact ⟨oL, es, ep, k₄ _ _ hxL hL, r⟩
  refine wpAny_execs_cons (plainObj_wpAny_Assign_Attribute ?_)
  refine ESX.ldL hn₄ mF (ESX.ldL hn₄ mS ?_ rfl e2) rfl e1 T.f4
  refine set_plain X₄ (ox := excO C t1) (od := none) ⟨hx₄, rfl, rfl, trivial⟩ T.sa ?_
  refine exc_osa X₄ hx₄ hcl (show refsVE (.ref C :: bm) = true from hbm) rfl T.noN (fun h₅ tk₅ dx k₅ dn dne hx₅ hn₅ => ?_)
  show wpAny _ _ (execs _ _) _ _ _
  have z : hp.objs.size < h₄.objs.size := hn₄.lt
  exact wpAny_execs_nil (hq h₅ tk₅ dx ⟨fun b o hb e => k₅ b o hb (k₄ b o hb (k₃ b o (k₂ b o (k b o e)))), ⟨t1, hx₅⟩, Nat.le_of_lt (Nat.lt_of_lt_of_le z dn), dne, hn₅⟩)
end
section
variable {prog : Program} {w : World} {A : Around} {R : Result → Shared → Prop} {K : Frag} {mg mb : Str → Option Value} {nm fld msg : Str} {C fI : Addr}
theorem exc_made (T : ExTxt prog K mg nm fld msg C fI) {v : Value} {hp : Heap} {g : Array GenState} {dr : Drawn} {tk : Nat} {os : OsState} (X : K.In hp) (hlim : hp.NoLimit) (hG : hp.Ns mainGlobals mg) (hB : hp.Ns builtinsNs mb) (hbb : ∀ x : Str, x ≠ "__name__" → mb x = bootBuiltins x) (hroom : A.depth + 1 < recursionLimit) (hr : Rp v)
    (hq : ∀ h' tk' e d, OwnMade hp h' e C d fld v → R (.ok (.ret (.ref e))) ⟨h', g, dr, tk', os⟩) :
    codeAny (model prog w) A (.call (.ref C) ⟨[v], []⟩) R ⟨hp, g, dr, tk, os⟩ := by
  obtain ⟨nm', q', N, bs, bm, sn, sub, ab, col, dd, k0, k1, k2, k3, k5, hC, hbm⟩ := T.cls
  have k : ∀ b o, hp.get? b = some o → ((hp.push (kdv_tup [v])).push (excO C hp.objs.size)).get? b = some o := fun b o e => Heap.get?_push_of_some _ (Heap.get?_push_of_some _ e)
  have hget : ((hp.push (kdv_tup [v])).push (excO C hp.objs.size)).get? (hp.objs.size + 1) = some (excO C hp.objs.size) := by heap_get
  have hnx : K.lookup (hp.objs.size + 1) = none := by
    cases e : K.lookup (hp.objs.size + 1) with
    | none => rfl
    | some o =>
      have z : hp.get? (hp.objs.size + 1) = some o := X _ _ e
      exact absurd (Nat.lt_of_succ_lt (Heap.lt_size z)) (Nat.lt_irrefl _)
  refine call_own F.excBase_ValueError (fun X => refsVE_contains X bm hbm) (X _ _ hC) (looks_findIn X T.iC) (fun self => bind_fn X self T.tC) (one_size v) ?_
  refine exc_init (tk := tk) T (X.keeps k) (hlim.keeps k) (hG.keeps k) (hB.keeps k) hbb hget hnx ?_ hr fun h' tk' dx ⟨k', ⟨t1, hx⟩, dn, dne, hns⟩ => ?_
  · show A.depth + 1 < recursionLimit
    exact hroom
  · have old : ∀ b o, hp.get? b = some o → h'.get? b = some o := fun b o e => k' b o (Nat.ne_of_lt (Nat.lt_succ_of_lt (Heap.lt_size e))) (k b o e)
    have z : hp.objs.size + 1 + 1 ≤ dx := by
      first
        | (simpa only [Heap.size_push] using dn)
        | exact dn
        | (have q := dn; rw [Heap.size_push, Heap.size_push] at q; exact q)
    exact ⟨rfl, hq h' tk' (hp.objs.size + 1) dx ⟨old, Nat.le_succ _, ⟨_, _, hx, rfl, rfl, rfl, rfl⟩, Nat.le_trans (Nat.le_trans (Nat.le_succ _) (Nat.le_succ _)) z, dne, hns⟩⟩
end
end XExc
end PySem
namespace XL
open PySem PySem.Spec PyProof.Rows L2
/-! ### the error, over the abstract heap -/
def RpV (v : V) : Prop := (∃ y : Str, v = .str y ∧ (reprText y).length ≤ 100000) ∨ ∃ i : Int, v = .int i ∧ i.natAbs.log2 < 1920
theorem RpV.rp {v : V} {u : Value} (h : RpV v) (r : RelV v u) : PySem.XExc.Rp u := by
  rcases h with ⟨y, rfl, hz⟩ | ⟨i, rfl, hz⟩
  · obtain ⟨t, rfl⟩ := r
    exact .inl ⟨y, t, rfl, hz⟩
  · obtain ⟨t, rfl⟩ := r
    exact .inr ⟨i, t, rfl, hz⟩
theorem relO_one {fld : Str} {v : V} {v' : Value} (r : RelV v v') (f : Str) : RelO (List.lookup f [(fld, v)]) (if f = fld then some v' else none) := by
  by_cases hw : f = fld
  · subst hw
    rw [if_pos rfl]
    have q : List.lookup f [(f, v)] = some v := by simp [List.lookup]
    rw [q]
    exact r
  · rw [if_neg hw]
    have qw : (f == fld) = false := by simpa using hw
    have q2 : List.lookup f [(fld, v)] = none := by simp [List.lookup, qw]
    rw [q2]
    trivial
section
variable {X : Cx} {C fI : Addr} {nm fld msg : Str}
def tMkX (C : Addr) (fld : Str) (ta : TA) : L2.St → Hp → XK → Prop := fun σ H Q => ta σ H fun vs H1 => ∃ v, vs = [v] ∧ RpV v ∧ ∀ d, H1 d = none → Q (.ref C) (some d) (upd H1 d (.xd [(fld, v)]))
theorem pmk_x {a : Expr} {ta : TA} {p pos : Pos} {k : Nat} (T : PySem.XExc.ExTxt X.prog X.K X.mg nm fld msg C fI) (hr : Room (k + 1) X.A) (ha : PA X [a] ta) (hg : Gl X nm := by rfl) (hd : (nm == ("__debug__" : Str)) = false := by decide)
    (he : starEach (a :: []) X.env = (false, eval a X.env) :: starEach [] X.env := by rfl) (hpl : (backTo pos (starEach [] X.env)).any (·.1) = false := by rfl) :
    PMk X (.Call (.Name nm p) [a] [] pos) (tMkX C fld ta) := by
  intro pins s σ H Q I h
  refine wpAny_Call_Name_kw (ld_glob I hg T.gC ?_ hd)
  refine PySem.W.callWith_K (h₀ := X.base) I.ok.mod.kin T.kC (thn (ha.run pos pins s σ H _ I h) fun us s1 hh => ?_) he hpl
  obtain ⟨vs, H1, I1, r1, v, ev, rp, q1⟩ := hh
  subst ev
  refine ⟨I1.kIn, ?_⟩
  cases r1 with
  | cons rv rn =>
    rename_i v' us'
    cases rn
    show wpAny _ _ (call (.ref C) [v']) _ _ _
    have hlim := I1.nolimit
    have hG := I1.mod.glob.keeps I1.bk
    obtain ⟨mb, hB, hbb⟩ := I1.mod.blt
    have hB := hB.keeps I1.bk
    obtain ⟨hp, g, dr, tk, os⟩ := s1
    refine wpAny_call (PySem.XExc.exc_made T I1.kIn hlim hG hB hbb (by have := hr.dp; omega) (rp.rp rv) fun h' tk' e d M => ?_)
    show MkP X pins σ Q (.ref e) ⟨h', g, dr, tk', os⟩
    obtain ⟨oe, fv, hoe, hc, hd, hdat, h1⟩ := M.obj
    have hns := M.ns
    obtain ⟨G', g1, g2⟩ := restrict h' fun b => decide (b ≠ e)
    have gk : ∀ b, b ≠ e → G'.get? b = h'.get? b := fun b hb => g1 b (decide_eq_true hb)
    have ge : G'.get? e = none := g2 e (by simp)
    have old : ∀ b o, hp.get? b = some o → G'.get? b = some o := fun b o q => (gk b (Nat.ne_of_lt (Nat.lt_of_lt_of_le (Heap.lt_size q) M.new))).trans (M.keep b o q)
    have ob : ObjOk X.prog X.w (upd H1 d (.xd [(fld, v)])) G' d (.xd [(fld, v)]) :=
      ⟨_, hns.at (fun o q => (gk d M.dne).trans q), fun f => relO_one rv f⟩
    have J : Inv X pins σ (upd H1 d (.xd [(fld, v)])) ⟨G', g, dr, tk', os⟩ := I1.laid (t' := tk') old M.dbig ob
    refine ⟨e, oe, fv, ⟨G', g, dr, tk', os⟩, _, .ref C, some d, rfl, J, fun b o q => ?_, ge, hoe, ⟨hc, hd⟩, hdat, h1, ?_, rfl, I1.bare, raises_own T.exC T.tyC, q1 d (I1.hok.fresh M.dbig)⟩
    · by_cases hb : b = e
      · have q' : G'.get? b = some o := q
        rw [hb, ge] at q'; cases q'
      · exact (gk b hb).symm.trans q
    · rw [upd_ne (Ne.symm M.dne)]
      exact I1.hok.fresh M.new
def tRaiseX (C : Addr) (fld : Str) (W : WX) (ta : TA) : TS := fun _ σ H => tMkX C fld ta σ H fun cls d H' => W cls d σ H'
theorem ps_raiseX {a : Expr} {ta : TA} {W : WX} {p pos pos2 : Pos} {k : Nat} (hc : X.calm = true) (T : PySem.XExc.ExTxt X.prog X.K X.mg nm fld msg C fI) (hr : Room (k + 1) X.A) (tk : Takes X W) (ha : PA X [a] ta) (hg : Gl X nm := by rfl) (hd : (nm == ("__debug__" : Str)) = false := by decide)
    (he : starEach (a :: []) X.env = (false, eval a X.env) :: starEach [] X.env := by rfl) (hpl : (backTo pos (starEach [] X.env)).any (·.1) = false := by rfl) :
    PS X (.Raise (some (.Call (.Name nm p) [a] [] pos)) none pos2) (tRaiseX C fld W ta) := ps_raise hc tk (pmk_x T hr ha hg hd he hpl)
end
/-! ### isinstance(e, c), isinstance(e, (c, ..)) of a caught error -/
section
variable {X : Cx} {a : Addr} {oe : Obj} {cls : Value} {d : Option Addr} {pn : List (Addr × Obj)}
inductive ClsRs : List V → List Value → Prop where
  | nil : ClsRs [] []
  | cons {c : Addr} {cs : List V} {us : List Value} (h : ClsRs cs us) : ClsRs (.ref c :: cs) (.ref c :: us)
theorem ClsRs.eq : ∀ {cs : List V} {us : List Value}, ClsRs cs us → ∀ {ws : List Value}, Vals cs ws → ws = us
  | _, _, .nil, _, .nil => rfl
  | _, _, .cons h, _, .cons r rs => by
    cases r
    rw [h.eq rs]
def rIsX (K : PySem.W.Frag) (cls : Value) (d : Option Addr) (a : Addr) : List V → Hp → VK → Prop := fun xs H Q => ∃ (D dd : Addr) (fs : List (Str × V)) (b : Bool), cls = .ref D ∧ d = some dd ∧ H dd = some (.xd fs) ∧ ExcC K D ∧
  ((∃ (c : V) (cv : Value), xs = [.ref a, c] ∧ (∀ u, RelV c u → u = cv) ∧ PySem.W.kitOne K (.ref D) cv = some b) ∨ ∃ (p : Addr) (cs : List V) (us : List Value), xs = [.ref a, .ref p] ∧ H p = some (.tup cs) ∧ ClsRs cs us ∧ PySem.W.kitAny K (.ref D) us = some b) ∧ Q (.bl b) H
theorem call_isX (hz : Zc cls d oe) (hf : ∃ vs, oe.data = .fields vs) : CallR (X.suite a ((a, oe) :: pn)) (.builtin "isinstance") (rIsX X.K cls d a) := by
  intro pins s σ H xs us Q I r h
  obtain ⟨D, dd, fs, b, rfl, rfl, hd, C, hcs, q⟩ := h
  obtain ⟨hget, _⟩ := I.pin (a, oe) (List.mem_append.mpr (.inl List.mem_cons_self))
  obtain ⟨vs, hv⟩ := hf
  have hx : ObjOk X.prog X.w H s.heap dd (.xd fs) := I.hok dd _ hd
  obtain ⟨mA, hns, _⟩ := hx
  obtain ⟨od, ho, _⟩ := lookIn_ns hns
  have J : PySem.W.InstAt s.heap a oe D (some od) := ⟨hget, hz.1, by unfold PySem.W.notCls; rw [hv] <;> rfl, by rw [hz.2]; exact ho⟩
  have cl : (PySem.W.clsIn X.K D).isSome = true := by
    obtain ⟨cd, hc, _⟩ := PySem.W.any_some C.hd
    rw [hc]
    rfl
  have Z := PySem.W.kitx_exc (x := a) (ox := oe) (od := some od) cl C.hg C.hk C.hs C.ha C.hn C.ht C.hm
  rcases hcs with ⟨c, cv, rfl, hcv, e⟩ | ⟨p, cs, us2, rfl, hp, hc, e⟩
  · cases r with
    | cons rx rr =>
      cases rr with
      | cons rt rr =>
        cases rr
        cases rx
        have ec := hcv _ rt
        subst ec
        exact PySem.W.kia_one Z I.kIn J e (fun z => nomatch z) fun tk => ⟨.bl b, H, I.kept (t' := tk) fun _ _ z => z, rfl, q⟩
  · cases r with
    | cons rx rr =>
      cases rr with
      | cons rt rr =>
        cases rr
        cases rx
        cases rt
        obtain ⟨_, its, rv, o, h1, h2, n, h3⟩ := (show ObjOk X.prog X.w H s.heap p (.tup cs) from I.hok p _ hp)
        have ei := hc.eq rv
        subst ei
        obtain ⟨oc, od', oda, osl⟩ := o
        dsimp only at h2 h3
        subst h2 h3
        exact PySem.W.kia_tup Z I.kIn J h1 e (fun z => nomatch z) fun tk => ⟨.bl b, H, I.kept (t' := tk) fun _ _ z => z, rfl, q⟩
end
/-! ### own [ ] and [ ] = within a try -/
section
variable {X : Cx} {CX : CXT} {C f : Addr} {fd : FuncData} {ps : List Str} {sp : Sp} {E : L2.St → XK} {n : Nat} {o i e : Expr} {to ti te : TE} {pos pos' : Pos}
def tIxOS (C : Addr) (sp : Sp) (E : L2.St → XK) (to ti : TE) : TE := fun σ H Q => to σ H fun x H1 => ti σ H1 fun y H2 => ∃ a dx fs, x = .ref a ∧ H2 a = some (.ins C dx fs) ∧ sp [.ref a, y] H2 Q (E σ)
theorem pe_ixOS (ho : PE X o to) (hi : PE X i ti) (F : FnOk X.prog X.w X.K X.mg X.base CX n f fd ps sp) (hs : PySem.W.findIn X.K (.ref C) "__getitem__" = some (some (.ref f))) (hf : PySem.W.fnIn X.K f = true) (hfn : PySem.W.isFn X.K (.ref f) = true)
    (hb : Binds X.K fd ps []) (hx : ∀ σ, PassesAt CX X σ (E σ)) (hr : Room (n + 1) X.A) (hsl : ∀ x v, subscripted i true (.ref x) v = runValue (.builtin "lifetime.subscript" ⟨[.ref x, v], []⟩) := by intro _ _; with_unfolding_all rfl) :
    PE X (.Subscript o i pos) (tIxOS C sp E to ti) := by
  refine ⟨fun pins s σ H Q I h => ?_⟩
  refine Subscript_ (thn (ho.run pins s σ H _ I h) fun v s1 ⟨x, H1, I1, r1, q1⟩ => thn (hi.run pins s1 σ H1 _ I1 q1) fun u s2 ⟨y, H2, I2, r2, q2⟩ => ?_)
  obtain ⟨a, dx, fs, rfl, ha, hsp⟩ := q2
  cases r1
  obtain ⟨mA, J, _⟩ := ins_get I2.hok ha
  obtain ⟨od, J, _⟩ := J.look
  obtain ⟨m, hF⟩ := I2.fr
  refine PySem.W.sub_K hF I2.ok.mod.kin J hs hf hfn ?_ (hsl _ _)
  have hl : ([Value.ref a, u] ++ []).length = ps.length := F.len _ _ _ _ hsp
  refine wpAny_call (codeAny_mono (F.run X.A.in1 X.stack s2 H2 ⟨[.ref a, u], []⟩ [.ref a, u] [.ref a, y] Q (E σ) hr.in1 I2.env0.in1 (hb s2 [.ref a, u] I2.kIn hl) (.cons rfl (.cons r2 .nil)) hsp) fun r s' hq => ?_)
  cases r with
  | error e => exact hx σ pins H2 s2 e s' I2 hq
  | ok fl =>
    cases fl with
    | ret u => exact I2.after hq
    | next => exact False.elim hq
    | brk => exact False.elim hq
    | cont => exact False.elim hq
def gSubS (C : Addr) (sp : Sp) (E : L2.St → XK) (to ti : TE) : TG := fun v σ H Q => to σ H fun x H1 => ti σ H1 fun y H2 => ∃ a dx fs, x = .ref a ∧ H2 a = some (.ins C dx fs) ∧ sp [.ref a, y, v] H2 (fun _ H' => Q σ H') (E σ)
theorem pg_subOS (ho : PE X o to) (hi : PE X i ti) (F : FnOk X.prog X.w X.K X.mg X.base CX n f fd ps sp) (hq : PySem.W.noSeq X.K C = true) (hs : PySem.W.findIn X.K (.ref C) "__setitem__" = some (some (.ref f))) (hfn : PySem.W.isFn X.K (.ref f) = true)
    (hb : Binds X.K fd ps []) (hx : ∀ σ, PassesAt CX X σ (E σ)) (hr : Room n X.A)
    (ha : ∀ v, assign (.Subscript o i pos) X.env v = (do
      let ov ← holding [v] (eval o X.env)
      let iv ← holding [v, ov] (eval i X.env)
      standAt pos
      holding [v, ov, iv] (setItem ov iv v)
      release [v, ov, iv] []) := by intro _; rfl) : PG X (.Subscript o i pos) (gSubS C sp E to ti) := by
  refine ⟨fun pins s σ H v u Q I r h => ?_⟩
  rw [ha]
  refine wpAny_bind (wpAny_holding (thn (ho.run pins s σ H _ I h) fun ov s1 ⟨x, H1, I1, r1, q1⟩ => ?_))
  refine wpAny_bind (wpAny_holding (thn (hi.run pins s1 σ H1 _ I1 q1) fun iv s2 ⟨y, H2, I2, r2, q2⟩ => ?_))
  obtain ⟨a, dx, fs, rfl, ha2, hsp⟩ := q2
  cases r1
  obtain ⟨mA, J, _⟩ := ins_get I2.hok ha2
  obtain ⟨od, J, _⟩ := J.look
  obtain ⟨m, hF⟩ := I2.fr
  refine wpAny_bind (wpAny_standAt (wpAny_bind (wpAny_holding (PySem.W.ksp_setItem hF I2.ok.mod.kin J hq hs hfn ?_))))
  refine wpAny_mono (run_fnS (us := [.ref a, iv, u]) (vs := [.ref a, y, v]) (E := E) F hr hb (hx σ) I2 (.cons rfl (.cons r2 (.cons r .nil))) hsp) (fun r s' q => ?_) fun _ _ e => e
  obtain ⟨z, H', I', rz, q⟩ := q
  exact wpAny_release ⟨σ, H', I', q⟩
end
end XL
set_option Elab.async false
set_option linter.all false
set_option maxRecDepth 100000
set_option maxHeartbeats 4000000
/-! XOwnIt: list(o), o an object whose own __iter__ hands on iter(t), t a tuple. -/
namespace XL
open PySem PySem.Spec PyProof.Rows L2
/-- an iterator over the tuple at t, the next place is i -/
def ItT (t it : Addr) (i : Nat) : HO := .ext fun h => IsTupIter h it t i
/-- .. that has ended -/
def ItTE (it : Addr) : HO := .ext fun h => ∃ o, h.get? it = some o
theorem itT_ok {P : Program} {w : World} {H : Hp} {h : Heap} {t it : Addr} {i : Nat} (e : IsTupIter h it t i) : ObjOk P w H h it (ItT t it i) := by
  obtain ⟨o, h1, h2⟩ := e
  exact ⟨⟨o, h1, h2⟩, ⟨_, h1⟩, fun g1 g2 ⟨o', q1, q2⟩ k => ⟨o', k _ q1, q2⟩⟩
theorem itTE_ok {P : Program} {w : World} {H : Hp} {h : Heap} {it : Addr} {o : Obj} (e : h.get? it = some o) : ObjOk P w H h it (ItTE it) := ⟨⟨o, e⟩, ⟨_, e⟩, fun g1 g2 ⟨o', q1⟩ k => ⟨o', k _ q1⟩⟩
section
variable {X : Cx} {pins : List (Addr × Obj)} {σ : L2.St} {H : Hp} {s : Shared}
theorem itT_get {t it : Addr} {i : Nat} (I : Inv X pins σ H s) (e : H it = some (ItT t it i)) : IsTupIter s.heap it t i := (I.hok it _ e).1
theorem call_iter_tup {M : Program} {w : World} {A : Around} {E : Value → Shared → Prop} {s : Shared} {t : Addr} {items : Array Value} {Q : Value → Shared → Prop} (ht : IsTup s.heap t items)
    (h : Q (.ref s.heap.objs.size) { s with heap := s.heap.push { cls := .type "tuple_iterator", data := .fields #[.ref t, .int 0 0] } }) : wpAny (model M w) A (call (.builtin "iter") [.ref t]) Q E s := by
  refine Calls.call_function_entry (by decide +kernel) (by decide +kernel) PySem.W.kdk_entry_iter (PySem.W.kdk_args_iter _) ?_
  unfold Builtin.«iter»
  refine wpAny_bind (m := someArgs "iter" 1 2 _) (wpAny_of_eq (a := [Value.ref t]) (by first | rfl | kernel_rfl!) ?_)
  show wpAny _ _ (pyIter (.ref t) >>= _) _ _ _
  refine wpAny_bind (iter_tuple ht ?_)
  exact wpAny_pure ⟨_, rfl, h⟩
/-- iter(t) -/
def rIterT (K : PySem.W.Frag) : List V → Hp → VK → Prop := fun xs H Q => ∃ (t : Addr) (zs : List V), xs = [.ref t] ∧ SqT K H t zs ∧ ∀ it, H it = none → Q (.ref it) (upd H it (ItT t it 0))
theorem call_iterT : CallR X (.builtin "iter") (rIterT X.K) := by
  intro pins s σ H xs us Q I r h
  obtain ⟨t, zs, rfl, hq, q⟩ := h
  obtain rfl := Vals.ref1 r
  obtain ⟨its, rv, pl, hz⟩ := I.tuple hq
  refine call_iter_tup pl ?_
  exact ⟨.ref s.heap.objs.size, _, I.laid (t' := s.toks) (fun b u e => Heap.get?_push_of_some _ e) (Nat.le_refl _) (itT_ok ⟨_, Heap.get?_push_size _ rfl, rfl, rfl⟩), rfl, q _ (I.hok.fresh (Nat.le_refl _))⟩
theorem call_iterTK (K : PySem.W.Frag) (h : X.K = K := by rfl) : CallR X (.builtin "iter") (rIterT K) := h ▸ call_iterT
theorem sqT_upd {K : PySem.W.Frag} {H : Hp} {t x : Addr} {zs : List V} {o : HO} (h : SqT K H t zs) (hx : ∀ o' xs, H x ≠ some (.tup xs) ∧ H x ≠ some (.frz o' (.tup xs))) : SqT K (upd H x o) t zs := by
  rcases h with (h | ⟨ob, h⟩) | h
  · have ne : t ≠ x := fun z => (hx default zs).1 (by rw [← z]; exact h)
    exact .inl (.inl (by rw [upd_ne ne]; exact h))
  · have ne : t ≠ x := fun z => (hx ob zs).2 (by rw [← z]; exact h)
    exact .inl (.inr ⟨ob, by rw [upd_ne ne]; exact h⟩)
  · exact .inr h
/-- the end of a tuple: the iterator itself stays there -/
theorem next_tup_end {P : Program} {w : World} {A : Around} {E : Value → Shared → Prop} {s : Shared} {it t : Addr} {i : Nat} {items : Array Value} {Q : Option Value → Shared → Prop} (hh : A.handled = none)
    (hit : IsTupIter s.heap it t i) (ht : IsTup s.heap t items) (hx : items[i]? = none)
    (hQ : ∀ h', Heap.ExtBut it s.heap h' → (∃ o, h'.get? it = some o) → Q none { s with heap := h' }) : wpAny (model P w) A (pyNext (.ref it)) Q E s := by
  obtain ⟨o, ho, hc, hd⟩ := id hit
  obtain ⟨ol, hol, _, nl, hdl⟩ := ht
  unfold pyNext
  refine wpAny_bind (wpAny_attempt (wpAny_callSpecial?_slot (name := Str.ofString "__next__") hit.typeIs slot_tupleiter_next (wpAny_call_entry slot_tupleiter_next hit.typeIs entry_tupleiter_next ?_ (args_tupleiter_next _))))
  show wpAny _ _ (field (.ref it) 0 >>= _) _ _ s
  refine wpAny_bind (wpAny_field ho hd (x := .ref t) rfl (PySem.W.KFB.if_not rfl ?_))
  show wpAny _ _ (field (.ref it) 1 >>= _) _ _ s
  refine wpAny_bind (wpAny_field ho hd (x := .int i 0) rfl ?_)
  show wpAny _ _ (seqItems? (.ref t) >>= _) _ _ s
  refine wpAny_bind (wpAny_seqItems hol hdl ?_)
  simp only [Int.toNat_natCast, hx]
  refine wpAny_bind (wpAny_rule (wpAny_bind (wpAny_setField ho hd (by simp) ?_)))
  show wpAny _ _ (newExc (.type "StopIteration") [] >>= _) _ _ _
  refine wpAny_bind ?_
  simp only [newExc, newTuple]
  refine wpAny_bind (wpAny_newObj_type ?_ (by size_fits))
  refine wpAny_bind (m := firstArgMember _ _) (wpAny_of_eq (a := Value.none) (by first | rfl | (simp only [firstArgMember]; rfl)) ?_)
  refine wpAny_newObj_type ?_ (by size_fits)
  simp only [raiseNew]
  refine wpAny_bind (wpAny_handled ?_)
  first | rw [show A.in1.handled = none from hh] | rw [hh]
  refine wpAny_bind (wpAny_pure (wpAny_throw ?_))
  refine wpAny_bind (wpAny_isInstance (T := "StopIteration") (b := true) ⟨_, Heap.get?_push_size _ rfl, rfl⟩ isSubtype_stop ?_)
  exact wpAny_pure (hQ _ (((Heap.SameBut.update ..).extBut.push _).push _) ⟨_, Heap.get?_push_of_some _ (Heap.get?_push_of_some _ (Heap.get?_update_self _ ho (Obj.isFreed_of_fields (Obj.data_mapFields hd _))))⟩)
/-- the loop that fills the list at q -/
theorem loop_tup {A1 : Around} {Rs : Result → Shared → Prop} {q it t : Addr} {zs : List V} (hd : A1.in1.handled = none) (hne : q ≠ it) :
    ∀ (k i : Nat) (H : Hp) (s : Shared), zs.length - i = k → i ≤ zs.length → Inv X pins σ H s → H it = some (ItT t it i) → SqT X.K H t zs → H q = some (.lst (zs.take i)) →
      (∀ s', Inv X pins σ (upd (upd H it (ItTE it)) q (.lst zs)) s' → Rs (.ok (.ret .none)) s') → codeAny (model X.prog X.w) A1 (.builtin "list.extend.loop" ⟨[.ref q, .ref it, .none], []⟩) Rs s := by
  intro k
  induction k with
  | zero =>
    intro i H s hk hi I hit ht hq hR
    obtain ⟨its, rv, pl, hz⟩ := I.tuple ht
    have hin : zs.length = its.length := rv.length
    have mu : Mut (H it) := by rw [hit]; exact True.intro
    refine codeAny_builtin PySem.F.entry_extend_loop ?_
    rw [Around.under_plainId PySem.F.plain_extend_loop _]
    show wpAny _ A1.in1 (pyNext (.ref it) >>= _) _ _ s
    have ei : i = zs.length := by omega
    refine wpAny_bind (next_tup_end hd (itT_get I hit) pl (by rw [List.getElem?_toArray]; exact List.getElem?_eq_none (by omega)) fun h' eb ⟨o, ho⟩ => wpAny_pure ?_)
    have I2 : Inv X pins σ (upd H it (ItTE it)) { s with heap := h' } := I.write (x := it) (e := it) (t' := s.toks) mu (.inl rfl) (fun b o nb z => eb b o nb z) ⟨_, ho⟩ (itTE_ok ho)
    refine hR _ ?_
    have e : upd (upd H it (ItTE it)) q (.lst zs) = upd H it (ItTE it) := by
      funext b
      by_cases hb : b = q
      · rw [hb, upd_same, upd_ne hne, hq, ei, List.take_length]
      · rw [upd_ne hb]
    rw [e]
    exact I2
  | succ k ih =>
    intro i H s hk hi I hit ht hq hR
    obtain ⟨its, rv, pl, hz⟩ := I.tuple ht
    have hin : zs.length = its.length := rv.length
    have mu : Mut (H it) := by rw [hit]; exact True.intro
    have hlt : i < zs.length := by omega
    have hzi := List.getElem?_eq_getElem hlt
    obtain ⟨u, hu, ru⟩ := rv.get hzi
    refine codeAny_builtin PySem.F.entry_extend_loop ?_
    rw [Around.under_plainId PySem.F.plain_extend_loop _]
    show wpAny _ A1.in1 (pyNext (.ref it) >>= _) _ _ s
    refine wpAny_bind (next_tuple_item (itT_get I hit) pl (by rw [List.getElem?_toArray]; exact hu) fun h' hit' sb => ?_)
    obtain ⟨o, ho, _⟩ := id hit'
    have I2 : Inv X pins σ (upd H it (ItT t it (i + 1))) { s with heap := h' } := I.write (x := it) (e := it) (t' := s.toks) mu (.inl rfl) (fun b o nb z => (sb.2 b nb).trans z) ⟨_, ho⟩ (itT_ok hit')
    have hq2 : upd H it (ItT t it (i + 1)) q = some (.lst (zs.take i)) := by rw [upd_ne hne]; exact hq
    show wpAny _ A1.in1 (updateSeq q (·.push u) >>= _) _ _ _
    obtain ⟨z, its2, c, r2, hl, e⟩ := I2.lstM hq2
    have l2 : its2.length ≤ 16777215 := by
      rw [← hl, List.length_take]
      have := hz
      rw [sizeLine_eq] at this
      omega
    refine wpAny_bind (wpAny_updateSeq e rfl (wpAny_pure ⟨plainId_quiet PySem.F.plain_extend_loop _, ?_⟩) (by rw [List.size_toArray, sizeLine_eq]; omega) (by show (its2.toArray.push u).size ≤ sizeLine + 1; rw [Array.size_push, List.size_toArray, sizeLine_eq]; omega))
    have I3 := I2.lset (f := (·.push u)) (its' := its2 ++ [u]) (ys := zs.take i ++ [zs[i]]) (t' := s.toks) hq2 e (by simp) (r2.append (.cons ru .nil)) (by rw [List.length_append, List.length_singleton, List.length_take, sizeLine_eq]; rw [sizeLine_eq] at hz; omega)
    refine ih (i + 1) _ _ (by omega) (by omega) I3 ?_ ?_ ?_ fun s' I4 => hR s' ?_
    · rw [upd_ne (Ne.symm hne), upd_same]
    · exact sqT_upd (sqT_upd ht fun o' xs => ⟨by rw [hit]; exact fun z => (nomatch z), by rw [hit]; exact fun z => (nomatch z)⟩) fun o' xs => ⟨by rw [hq2]; exact fun z => (nomatch z), by rw [hq2]; exact fun z => (nomatch z)⟩
    · rw [upd_same, take_snoc hzi]
    · have e4 : upd (upd (upd (upd H it (ItT t it (i + 1))) q (.lst (zs.take i ++ [zs[i]]))) it (ItTE it)) q (.lst zs) = upd (upd H it (ItTE it)) q (.lst zs) := by
        funext b
        by_cases hb : b = q
        · rw [hb, upd_same, upd_same]
        · rw [upd_ne hb, upd_ne hb]
          by_cases hb2 : b = it
          · rw [hb2, upd_same, upd_same]
          · rw [upd_ne hb2, upd_ne hb2, upd_ne hb, upd_ne hb2]
      rw [← e4]
      exact I4
/-- list(o) -/
def rListIt (K : PySem.W.Frag) (C : Addr) (sp : Sp) (E : XK) : List V → Hp → VK → Prop := fun xs H Q => ∃ a dx fs, xs = [.ref a] ∧ H a = some (.ins C dx fs) ∧
  ∀ q, H q = none → sp [.ref a] (upd H q (.lst [])) (fun v H1 => ∃ (it t : Addr) (zs : List V), v = .ref it ∧ H1 it = some (ItT t it 0) ∧ SqT K H1 t zs ∧ H1 q = some (.lst []) ∧ (∃ dx' fs', H1 a = some (.ins C dx' fs')) ∧ Q (.ref q) (upd (upd H1 it (ItTE it)) q (.lst zs))) E
theorem hint_own {M : Model} {A : Around} {E : Value → Shared → Prop} {s : Shared} {Q : Bool → Shared → Prop} {K : PySem.W.Frag} {C a : Addr} {ox : Obj} {od : Option Obj} (h1 : PySem.W.findIn K (.ref C) "__len__" = some none) (h2 : PySem.W.findIn K (.ref C) "__length_hint__" = some none)
    (hK : K.In s.heap) (J : PySem.W.InstAt s.heap a ox C od) (h : Q true s) : wpAny M A (Builtin.List.listLengthHint (.ref a)) Q E s := by
  unfold Builtin.List.listLengthHint
  refine wpAny_bind (wpAny_bind (J.type.here ((PySem.W.looks_findIn hK h1).here (PySem.W.KFB.if_not rfl (PySem.W.KFB.if_not rfl ?_)))))
  exact wpAny_bind (wpAny_bind (J.type.here ((PySem.W.looks_findIn hK h2).here (wpAny_pure h))))
theorem call_listIt {C f : Addr} {fd : FuncData} {ps : List Str} {sp : Sp} {E : XK} {n : Nat} {CX : CXT} (hs : PySem.W.findIn X.K (.ref C) "__iter__" = some (some (.ref f))) (hfn : PySem.W.isFn X.K (.ref f) = true) (n1 : PySem.W.findIn X.K (.ref C) "__len__" = some none) (n2 : PySem.W.findIn X.K (.ref C) "__length_hint__" = some none)
    (F : FnOk X.prog X.w X.K X.mg X.base CX n f fd ps sp) (hb : Binds X.K fd ps []) (hx : Passes CX X E) (hr : Room (n + 2) X.A) : CallR X (.type "list") (rListIt X.K C sp E) := by
  intro pins s σ H xs us Q I rv h
  obtain ⟨a, dx, fs, rfl, ha, hq⟩ := h
  obtain ⟨u, rfl, ru⟩ := rv.one
  cases ru
  have sb : Sub X n X.A.in1.in1 := (Sub.in1 (Sub.in1 (⟨hr, rfl⟩ : Sub X (n + 2) X.A)))
  refine callType_codes (Q₁ := fun obj s₁ => obj = .ref s.heap.objs.size ∧ s₁ = { s with heap := s.heap.push { cls := .type "list", data := .seq #[] } }) PySem.F.called_list (PySem.F.typeCall_list_1 _) PySem.F.entry_list_init
    (code_list_new _ ⟨rfl, rfl⟩) fun obj s₁ h₁ => ?_
  obtain ⟨rfl, rfl⟩ := h₁
  have hS : (s.heap.push { cls := .type "list", data := .seq #[] }).get? s.heap.objs.size = some { cls := .type "list", data := .seq #[] } := Heap.get?_push_size _ rfl
  refine ⟨⟨_, hS, rfl⟩, PySem.F.args_list_init_2 _ _, ?_⟩
  have fr : H s.heap.objs.size = none := I.hok.fresh (Nat.le_refl _)
  have hsp := hq _ fr
  have I1 : Inv X pins σ (upd H s.heap.objs.size (.lst [])) { s with heap := s.heap.push { cls := .type "list", data := .seq #[] } } := I.lnew (its := []) (t' := s.toks) .nil (Nat.zero_le _)
  show wpAny _ _ (do let old ← Builtin.List.listItems (.ref s.heap.objs.size); Builtin.List.listUpdate (.ref s.heap.objs.size) (fun _ => #[]); letGo old.toList.reverse; Builtin.List.listExtendWith (.ref s.heap.objs.size) (.ref a) .none) _ _ _
  refine wpAny_bind ?_
  unfold Builtin.List.listItems
  refine wpAny_bind (wpAny_seqItems hS rfl (wpAny_pure ?_))
  show wpAny _ _ (updateSeq s.heap.objs.size (fun _ => #[]) >>= fun _ => letGo (#[] : Array Value).toList.reverse >>= fun _ => Builtin.List.listExtendWith (.ref s.heap.objs.size) (.ref a) .none) _ _ _
  refine wpAny_bind (wpAny_updateSeq hS rfl ?_)
  have I2 := I1.lset (f := fun _ => #[]) (its := []) (its' := []) (ys := []) (t' := s.toks) upd_same hS rfl .nil (Nat.zero_le _)
  rw [upd_upd] at I2
  refine wpAny_bind (wpAny_letGo ?_)
  have ha2 : upd H s.heap.objs.size (.lst []) a = some (.ins C dx fs) := by rw [upd_ne (ne_of_none ha fr)]; exact ha
  have hne : s.heap.objs.size ≠ a := Ne.symm (ne_of_none ha fr)
  generalize hH2 : upd H s.heap.objs.size (.lst []) = H2 at *
  generalize s.heap.objs.size = q at *
  obtain ⟨mA, J, _⟩ := ins_get I2.hok ha2
  obtain ⟨od, J, _⟩ := J.look
  obtain ⟨m0, hF⟩ := I2.fr
  unfold Builtin.List.listExtendWith
  refine wpAny_bind (J.type.here ?_)
  have h1 : Builtin.List.listSameRef (.ref q) (.ref a) = false := by simp [Builtin.List.listSameRef, hne]
  have h2 : (Value.ref C == Value.type "list") = false := rfl
  have h3 : (Value.ref C == Value.type "tuple") = false := rfl
  simp only [h1, h2, h3, Bool.or_false, Bool.false_eq_true, if_false]
  refine wpAny_bind (PySem.W.owit_iter hF I2.ok.mod.kin J hs hfn ?_)
  have e0 : ∀ {s : Shared} {H : Hp}, Inv X pins σ H s → Env0 X.prog X.w X.K X.mg X.base X.A.in1.in1 X.stack s H := fun {s H} I => by
    have e := I.env0
    exact ⟨by rw [sb.fr]; exact e.frames, e.mod, e.bs, e.bsz, e.funs, e.frf, e.hok, e.bare⟩
  have hl := F.len _ _ _ _ hsp
  have r2 : Vals [V.ref a] [Value.ref a] := .cons rfl .nil
  refine wpAny_call (codeAny_mono (F.run X.A.in1.in1 X.stack _ _ ⟨[.ref a], []⟩ [.ref a] [.ref a] _ E sb.room (e0 I2) (by
    have := hb _ [.ref a] I2.kIn (by simpa using hl)
    simpa using this) r2 hsp) fun r s' hq' => ?_)
  cases r with
  | error e => exact hx pins σ _ _ e s' I2 hq'
  | ok fl =>
    cases fl with
    | next => exact False.elim hq'
    | brk => exact False.elim hq'
    | cont => exact False.elim hq'
    | ret u =>
      obtain ⟨v, H', I', rv, it, t, zs, ev, hit, ht, hqq, ⟨dx', fs', ha'⟩, hQ⟩ := I2.after hq'
      subst ev
      cases rv
      have hT : s'.TypeIs (.ref it) "tuple_iterator" := (itT_get I' hit).typeIs
      have hqi : q ≠ it := fun z => by
        rw [z, hit] at hqq
        exact (nomatch hqq)
      show wpAny _ _ (specialOf (.ref it) "__next__") _ _ _
      refine wpAny_specialOf hT slot_tupleiter_next.lookup ?_
      obtain ⟨mA', J', _⟩ := ins_get I'.hok ha'
      obtain ⟨od', J', _⟩ := J'.look
      refine wpAny_bind (wpAny_holding (hint_own n1 n2 I'.kIn J' ?_))
      have go : ∀ s'', Inv X pins σ H' s'' → codeAny (model X.prog X.w) X.A.in1 (.builtin "list.extend.loop" ⟨[.ref q, .ref it, .none], []⟩) (wants (fun r s₂ => r = .none ∧ EP X pins σ Q (.ref q) s₂) X.xe) s'' := fun s'' I'' =>
        loop_tup (t := t) (zs := zs) sb.room.hd hqi zs.length 0 H' s'' (by simp) (Nat.zero_le _) I'' hit ht (by rw [hqq]; rfl) fun s3 I3 => ⟨rfl, .ref q, _, I3, rfl, hQ⟩
      obtain ⟨z, its, k, r3, hl3, e3⟩ := I'.lstM hqq
      cases r3
      refine wpAny_ite_split (fun _ => ?_) (fun _ => wpAny_pure ⟨plainId_quiet PySem.F.plain_extend_loop _, go s' I'⟩)
      refine wpAny_bind (wpAny_rule ?_)
      refine wpAny_bind ?_
      show wpAny _ _ (updateSeq q (·.push .none) >>= fun _ => updateSeq q (·.pop)) _ _ _
      refine wpAny_bind (wpAny_updateSeq e3 rfl ?_)
      have I3 := I'.lset (f := (·.push Value.none)) (its' := [Value.none]) (ys := [.non]) (t' := s'.toks) hqq e3 (by simp) (.cons rfl .nil) (by rw [List.length_singleton, sizeLine_eq]; decide)
      obtain ⟨z4, its4, k4, r4, hl4, e4⟩ := I3.lstM upd_same
      obtain ⟨u4, rfl, ru4⟩ := r4.one
      refine wpAny_updateSeq e4 rfl ?_ (by show 1 ≤ sizeLine; rw [sizeLine_eq]; decide) (by show 0 ≤ sizeLine + 1; exact Nat.zero_le _)
      have I4 := I3.lset (f := (·.pop)) (its := [u4]) (its' := []) (ys := []) (t' := s'.toks) upd_same e4 (by rfl) .nil (Nat.zero_le _)
      rw [upd_upd] at I4
      have hH : upd H' q (.lst []) = H' := by
        funext b
        by_cases hb : b = q
        · rw [hb, upd_same, hqq]
        · rw [upd_ne hb]
      rw [hH] at I4
      exact wpAny_pure ⟨plainId_quiet PySem.F.plain_extend_loop _, go _ I4⟩
end
end XL
set_option Elab.async false
set_option linter.all false
set_option maxRecDepth 100000
set_option maxHeartbeats 4000000
/-! XOr: two rules for one piece of text; what classes say of an own error. -/
namespace XL
open PySem PySem.Spec PyProof.Rows L2
section
variable {X : Cx}
theorem pe_or {e : Expr} {t u : TE} (h : PE X e t) (k : PE X e u) : PE X e (fun σ H Q => t σ H Q ∨ u σ H Q) := ⟨fun pins s σ H Q I q => q.elim (h.run pins s σ H Q I) (k.run pins s σ H Q I)⟩
theorem pg_or {e : Expr} {t u : TG} (h : PG X e t) (k : PG X e u) : PG X e (fun v σ H Q => t v σ H Q ∨ u v σ H Q) := ⟨fun pins s σ H v w Q I r q => q.elim (h.run pins s σ H v w Q I r) (k.run pins s σ H v w Q I r)⟩
theorem cr_or {f : Value} {t u : List V → Hp → VK → Prop} (h : CallR X f t) (k : CallR X f u) : CallR X f (fun xs H Q => t xs H Q ∨ u xs H Q) := fun pins s σ H xs us Q I r q => q.elim (h pins s σ H xs us Q I r) (k pins s σ H xs us Q I r)
end
section
variable {P : Program} {w : World} {K : PySem.W.Frag} {mg : Str → Option Value} {base : Heap} {CX : CXT} {k : Nat} {f : Addr} {fd : FuncData} {ps : List Str} {sp sq : Sp}
theorem fn_or (h : FnOk P w K mg base CX k f fd ps sp) (h2 : FnOk P w K mg base CX k f fd ps sq) : FnOk P w K mg base CX k f fd ps (fun vs H Q E => sp vs H Q E ∨ sq vs H Q E) :=
  ⟨fun vs H Q E q => q.elim (h.len vs H Q E) (h2.len vs H Q E), fun A outer s H args us vs Q E hr he hb hv q => q.elim (h.run A outer s H args us vs Q E hr he hb hv) (h2.run A outer s H args us vs Q E hr he hb hv)⟩
end
theorem kit_of {K : PySem.W.Frag} {D C : Addr} {b : Bool} (hne : (Value.ref D == Value.ref C) = false) (h2 : PySem.W.isClsIn K C = true) (h3 : PySem.W.typeIn K (.ref C) = some (.type "type")) (h4 : PySem.W.subIn K (.ref D) (.ref C) = some b) : PySem.W.kitOne K (.ref D) (.ref C) = some b := by
  have e2 : ((PySem.W.clsIn K C).isSome && PySem.W.typeIn K (.ref C) == some (.type "type")) = true := by
    have h2' : (PySem.W.clsIn K C).isSome = true := h2
    rw [h2', h3]
    rfl
  show (if (Value.ref D == Value.ref C) = true then some true else (if ((PySem.W.clsIn K C).isSome && PySem.W.typeIn K (.ref C) == some (.type "type")) = true then PySem.W.subIn K (.ref D) (.ref C) else none)) = some b
  rw [if_neg (by rw [hne]; decide), if_pos e2]
  exact h4
theorem exm_of {K : PySem.W.Frag} {S : Addr} {cls : Value} {b : Bool} (h1 : PySem.W.subIn K (.ref S) (.type "BaseException") = some true) (h2 : PySem.W.isClsIn K S = true) (h3 : PySem.W.typeIn K (.ref S) = some (.type "type")) (h4 : PySem.W.subIn K cls (.ref S) = some b) : PySem.W.exmOne K cls (.ref S) = some b := by
  have e1 : (PySem.W.subIn K (.ref S) (.type "BaseException") == some true) = true := by rw [h1] <;> rfl
  have e2 : ((PySem.W.clsIn K S).isSome && PySem.W.typeIn K (.ref S) == some (.type "type")) = true := by
    have h2' : (PySem.W.clsIn K S).isSome = true := h2
    rw [h2', h3] <;> rfl
  show (if (PySem.W.subIn K (.ref S) (.type "BaseException") == some true) = true then (if ((PySem.W.clsIn K S).isSome && PySem.W.typeIn K (.ref S) == some (.type "type")) = true then PySem.W.subIn K cls (.ref S) else none) else none) = some b
  rw [if_pos e1, if_pos e2]
  exact h4
end XL
set_option Elab.async false
set_option linter.all false
set_option maxRecDepth 100000
set_option maxHeartbeats 4000000
/-! XTxt: texts of small letters; a name that is not used. -/
namespace XL
open PySem PySem.Spec PyProof.Rows L2
def LS : Str := "abcdefghijklmnopqrstuvwxyz"
structure Lt (a b : Nat) (z : Str) : Prop where
  lo : a ≤ z.length
  hi : z.length ≤ b
  ch : ∀ c ∈ z.cps.toList, c ∈ LS.cps.toList
theorem len_tl (z : Str) : z.length = z.cps.toList.length := by
  show z.cps.size = _
  rw [Array.length_toList]
theorem Lt.one {c : Nat} (h : c ∈ LS.cps.toList) : Lt 1 1 ⟨#[c]⟩ := ⟨Nat.le_refl _, Nat.le_refl _, fun d hd => by
  have : d = c := by simpa using hd
  rw [this]
  exact h⟩
theorem Lt.wide {a b a' b' : Nat} {z : Str} (h : Lt a b z) (h1 : a' ≤ a) (h2 : b ≤ b') : Lt a' b' z := ⟨Nat.le_trans h1 h.lo, Nat.le_trans h.hi h2, h.ch⟩
theorem app_len (x y : Str) : (x ++ y).length = x.length + y.length := Str.length_append x y
theorem app_tl (x y : Str) : (x ++ y).cps.toList = x.cps.toList ++ y.cps.toList := by
  rw [Str.cps_append]
  simp
theorem Lt.app {a b c d : Nat} {x y : Str} (h : Lt a b x) (k : Lt c d y) : Lt (a + c) (b + d) (x ++ y) := by
  have h1 := h.lo; have h2 := h.hi; have h3 := k.lo; have h4 := k.hi
  refine ⟨by rw [app_len]; omega, by rw [app_len]; omega, fun e he => ?_⟩
  rw [app_tl] at he
  rcases List.mem_append.mp he with z | z
  · exact h.ch e z
  · exact k.ch e z
theorem cut_mem {z : Str} {lo hi : Option Int} {c : Nat} (h : c ∈ (cutS z lo hi).cps.toList) : c ∈ z.cps.toList := by
  have h2 : c ∈ (z.cps.toList.drop (HT.sIx z.length 0 lo)).take (HT.sIx z.length z.length hi - HT.sIx z.length 0 lo) := by simpa [cutS] using h
  exact List.mem_of_mem_drop (List.mem_of_mem_take h2)
theorem cut_to_len (z : Str) (k : Nat) : (cutS z none (some (k : Int))).length = min k z.length := by
  rw [len_tl]
  show ((z.cps.toList.drop (HT.sIx z.length 0 none)).take (HT.sIx z.length z.length (some (k : Int)) - HT.sIx z.length 0 none)).toArray.toList.length = _
  rw [HT.sIx_nat, HT.sIx_none]
  rw [Nat.sub_zero, List.drop_zero, List.length_take, ← len_tl]
  omega
theorem cut_from_len (z : Str) (k : Nat) (h : k ≤ z.length) : (cutS z (some (k : Int)) none).length = z.length - k := by
  rw [len_tl]
  show ((z.cps.toList.drop (HT.sIx z.length 0 (some (k : Int)))).take (HT.sIx z.length z.length none - HT.sIx z.length 0 (some (k : Int)))).toArray.toList.length = _
  rw [HT.sIx_nat, HT.sIx_none, List.length_take, List.length_drop, ← len_tl]
  omega
theorem Lt.to {a b : Nat} {z : Str} (h : Lt a b z) (k : Nat) : Lt (min k a) (min k b) (cutS z none (some (k : Int))) := by
  have h1 := h.lo; have h2 := h.hi
  exact ⟨by rw [cut_to_len]; omega, by rw [cut_to_len]; omega, fun c hc => h.ch c (cut_mem hc)⟩
theorem joinL_nil : ∀ ps : List (List Nat), TL.joinL [] ps = ps.flatten
  | [] => rfl
  | [p] => by simp [TL.joinL]
  | p :: q :: r => by
    show p ++ ([] ++ TL.joinL [] (q :: r)) = _
    rw [joinL_nil (q :: r)]
    simp
theorem Lt.join {ys : List Str} (h : ∀ y ∈ ys, Lt 1 1 y) : Lt ys.length ys.length (Txt.join "" ys) := by
  have e : (Txt.join "" ys).cps.toList = (ys.map fun y => y.cps.toList).flatten := by
    rw [TL.join_eq]
    exact (TL.tl_join "" ys).trans (joinL_nil _)
  have el : ∀ {ys : List Str}, (∀ y ∈ ys, Lt 1 1 y) → ((ys.map fun y => y.cps.toList).flatten).length = ys.length := by
    intro ys
    induction ys with
    | nil => intro _; rfl
    | cons y r ih =>
      intro h
      have h1 := h y List.mem_cons_self
      have z := ih fun y hy => h y (List.mem_cons_of_mem _ hy)
      have l1 := h1.lo; have l2 := h1.hi
      rw [len_tl] at l1 l2
      rw [List.map_cons, List.flatten_cons, List.length_append, z, List.length_cons]
      omega
  have l := el h
  refine ⟨by rw [len_tl, e, l]; exact Nat.le_refl _, by rw [len_tl, e, l]; exact Nat.le_refl _, fun c hc => ?_⟩
  rw [e] at hc
  obtain ⟨p, hp, hcp⟩ := List.mem_flatten.mp hc
  obtain ⟨y, hy, rfl⟩ := List.mem_map.mp hp
  exact (h y hy).ch c hcp
theorem sum_ones : ∀ {ys : List Str}, (∀ y ∈ ys, Lt 1 1 y) → (ys.map (·.length)).sum = ys.length
  | [], _ => rfl
  | y :: r, h => by
    have h1 := h y List.mem_cons_self
    have z := sum_ones fun y hy => h y (List.mem_cons_of_mem _ hy)
    have l1 := h1.lo; have l2 := h1.hi
    rw [List.map_cons, List.sum_cons, z, List.length_cons]
    omega
/-! ### one that is not used -/
theorem nd_sub {α : Type} [DecidableEq α] : ∀ {xs ys : List α}, xs.Nodup → (∀ x ∈ xs, x ∈ ys) → xs.length ≤ ys.length
  | [], _, _, _ => Nat.zero_le _
  | x :: r, ys, nd, h => by
    have hx := h x List.mem_cons_self
    have nd' := List.nodup_cons.mp nd
    have z := nd_sub (ys := ys.erase x) nd'.2 fun y hy => (List.mem_erase_of_ne (fun e : y = x => nd'.1 (by rw [← e]; exact hy))).mpr (h y (List.mem_cons_of_mem _ hy))
    rw [List.length_erase_of_mem hx] at z
    have : 0 < ys.length := List.length_pos_of_mem hx
    rw [List.length_cons]
    omega
def letter (k : Nat) : Nat := LS.cps.toList.getD k 0
theorem letter_at {k : Nat} (h : k < 26) : LS.cps.toList[k]? = some (letter k) := by
  have z : ∀ j : Nat, j < 26 → LS.cps.toList[j]? = some (letter j) := by decide +kernel
  exact z k h
theorem letter_inj {i j : Nat} (hi : i < 26) (hj : j < 26) (h : letter i = letter j) : i = j := by
  have z : ∀ i : Nat, i < 26 → ∀ j : Nat, j < 26 → letter i = letter j → i = j := by decide +kernel
  exact z i hi j hj h
def tail2 (k : Nat) : Str := (⟨#[letter (k / 26)]⟩ : Str) ++ ⟨#[letter (k % 26)]⟩
theorem tail2_inj {p : Str} {i j : Nat} (hi : i < 676) (hj : j < 676) (h : p ++ tail2 i = p ++ tail2 j) : i = j := by
  have e := congrArg (fun z : Str => z.cps.toList) h
  simp only [app_tl, tail2] at e
  have e2 := List.append_cancel_left e
  have e3 : [letter (i / 26), letter (i % 26)] = [letter (j / 26), letter (j % 26)] := by simpa using e2
  injection e3 with h1 h2
  injection h2 with h2 _
  have a := letter_inj (by omega) (by omega) h1
  have b := letter_inj (by omega) (by omega) h2
  omega
theorem tail2_lt {k : Nat} (h : k < 676) : Lt 2 2 (tail2 k) :=
  (Lt.one (List.mem_of_getElem? (letter_at (by omega)))).app (Lt.one (List.mem_of_getElem? (letter_at (by omega))))
theorem unused (p : Str) (us : List Str) (h : us.length < 676) : ∃ k, k < 676 ∧ p ++ tail2 k ∉ us := by
  apply Classical.byContradiction
  intro no
  have all : ∀ z ∈ (List.range 676).map (fun k => p ++ tail2 k), z ∈ us := fun z hz => by
    obtain ⟨k, hk, rfl⟩ := List.mem_map.mp hz
    apply Classical.byContradiction
    intro q
    exact no ⟨k, List.mem_range.mp hk, q⟩
  have nd : ((List.range 676).map (fun k => p ++ tail2 k)).Nodup := by
    unfold List.Nodup
    rw [List.pairwise_map]
    refine List.Pairwise.imp_of_mem ?_ (List.nodup_range (n := 676))
    intro a b ha hb hab e
    exact hab (tail2_inj (List.mem_range.mp ha) (List.mem_range.mp hb) e)
  have z := nd_sub nd all
  rw [List.length_map, List.length_range] at z
  omega
theorem inV_str {x : Str} (xs : List Str) : inV (.str x) (xs.map V.str) = decide (x ∈ xs) := by
  unfold inV
  induction xs with
  | nil => rfl
  | cons y r ih =>
    rw [List.map_cons, List.any_cons, ih]
    show ((y == x) || decide (x ∈ r)) = decide (x ∈ y :: r)
    by_cases e : x = y
    · subst e; simp
    · have e2 : ¬ y = x := fun q => e q.symm
      simp [e, e2]
theorem strs_flat (xs : List Str) : (xs.map V.str).all flatV = true := by
  rw [List.all_eq_true]
  intro x hx
  obtain ⟨n, _, rfl⟩ := List.mem_map.mp hx
  rfl
end XL
set_option Elab.async false
set_option linter.all false
set_option maxRecDepth 100000
set_option maxHeartbeats 4000000
/-! XLine: C(*row), a method within a try, zip with K said, classes of an own error. -/
namespace XL
open PySem PySem.Spec PyProof.Rows L2
section
variable {X : Cx} {CX : CXT} {k : Nat} {f C : Addr} {fd : FuncData} {ps : List Str} {ds : List Value} {dvs : List V} {sp : Sp} {x m : Str} {p pos apos sp_ : Pos} {e o : Expr} {es : List Expr} {te ta : TE} {t : TA}
def tMakeS (K : PySem.W.Frag) (C : Addr) (sp : Sp) (dvs : List V) (E : XK) (te : TE) : TE := fun σ H Q => te σ H fun y H1 => ∃ a xs, y = V.ref a ∧ (SqT K H1 a xs ∨ SqL K H1 a xs) ∧
  ∀ x dx, H1 x = none → H1 dx = none → dx ≠ x → sp (.ref x :: (xs ++ dvs)) (upd (upd H1 dx (.own x)) x (.ins C dx [])) (fun v H2 => v = .non ∧ Q (.ref x) H2) E
/-- C(*row) -/
theorem pe_makeS {E : XK} (K : PySem.W.Frag) (M : Mk X.K C f) (F : FnOk X.prog X.w X.K X.mg X.base CX k f fd ps sp) (hr : Room (k + 1) X.A) (hg : Gl X x) (hm : X.mg x = some (.ref C)) (hb : Binds X.K fd ps ds) (hd : Vals dvs ds) (hx : Passes CX X E) (he : PE X e te) (hK : X.K = K := by rfl) (hdb : (x == ("__debug__" : Str)) = false := by decide)
    (hst : starEach [.Starred e sp_] X.env = [(true, eval e X.env)] := by rfl) : PE X (.Call (.Name x p) [.Starred e sp_] [] pos) (tMakeS K C sp dvs E te) := by
  subst hK
  refine ⟨fun pins s σ H Q I h => ?_⟩
  refine wpAny_Call_Name_kw (ld_glob I hg hm ?_ hdb)
  refine PySem.W.callWith_S (h₀ := X.base) I.ok.mod.kin M.kp (thn (he.run pins s σ H _ I h) fun v s1 ⟨y, H1, I1, ry, a, xs, ey, hxs, q⟩ => ?_) hst
  subst ey
  obtain rfl : v = Value.ref a := ry
  exact StX.star_any I1 hxs fun us s2 I2 rv => ⟨I2.kIn, run_make M F hr hb hd hx I2 rv q⟩
def tMethS (C : Addr) (m : Str) (sp : Sp) (E : L2.St → XK) (ta : TE) (t : TA) : TE := fun σ H Q => ta σ H fun x H1 => ∃ a dx fs, x = .ref a ∧ H1 a = some (.ins C dx fs) ∧ fs.lookup m = none ∧
  t σ H1 fun vs H2 => sp (x :: vs) H2 Q (E σ)
/-- o.m(..) within a try -/
theorem pe_methT {E : L2.St → XK} {pl : Sem Bool} (he : PE X o ta) (c : Cls X.K C) (hm : Meth X.K C m f) (F : FnOk X.prog X.w X.K X.mg X.base CX k f fd ps sp) (hr : Room k X.A) (hb : Binds X.K fd ps []) (hx : ∀ σ, PassesAt CX X σ (E σ)) (ha : PA X (e :: es) t)
    (hst : starEach (e :: es) X.env = (false, eval e X.env) :: starEach es X.env := by rfl) (hpl : (backTo pos (starEach es X.env)).any (·.1) = false := by rfl)
    (ht : eval (.Call (.Attribute o m apos) (e :: es) [] pos) X.env = (do
      let ov ← eval o X.env
      standAt apos.atName
      let (f, first) ← holding [ov] (getMethod ov m pl)
      callWith pos f first (backTo pos (starEach (e :: es) X.env)) (backToKw pos (keywordEach [] X.env))) := by rfl) :
    PE X (.Call (.Attribute o m apos) (e :: es) [] pos) (tMethS C m sp E ta t) := by
  refine ⟨fun pins s σ H Q I h => ?_⟩
  refine PySem.W.methodCall_KW (pl := pl) (thn (he.run pins s σ H _ I h) fun u s1 ⟨x, H1, I1, rx, a, dx, fs, ex, ea, l, q⟩ => ?_) ht
  subst ex
  obtain rfl : u = Value.ref a := rx
  refine getmeth_ok I1 ea c hm l ?_
  refine PySem.W.callWith_K (first := [.ref a]) (h₀ := X.base) I.ok.mod.kin hm.kp (thn (ha.run pos pins s1 σ H1 _ I1 q) fun us s2 ⟨vs, H2, I2, r, q2⟩ => ⟨I2.kIn, ?_⟩) hst hpl
  exact run_fnS (us := .ref a :: us) (vs := .ref a :: vs) (E := E) F hr hb (hx σ) I2 (.cons rfl r) q2
theorem pe_methT0 {E : L2.St → XK} {pl : Sem Bool} (he : PE X o ta) (c : Cls X.K C) (hm : Meth X.K C m f) (F : FnOk X.prog X.w X.K X.mg X.base CX k f fd ps sp) (hr : Room k X.A) (hb : Binds X.K fd ps []) (hx : ∀ σ, PassesAt CX X σ (E σ))
    (ht : eval (.Call (.Attribute o m apos) [] [] pos) X.env = (do
      let ov ← eval o X.env
      standAt apos.atName
      let (f, first) ← holding [ov] (getMethod ov m pl)
      callWith pos f first (backTo pos (starEach [] X.env)) (backToKw pos (keywordEach [] X.env))) := by rfl) :
    PE X (.Call (.Attribute o m apos) [] [] pos) (tMethS C m sp E ta tNil) := by
  refine ⟨fun pins s σ H Q I h => ?_⟩
  refine PySem.W.methodCall_KW (pl := pl) (thn (he.run pins s σ H _ I h) fun u s1 ⟨x, H1, I1, rx, a, dx, fs, ex, ea, l, q⟩ => ?_) ht
  subst ex
  obtain rfl : u = Value.ref a := rx
  refine getmeth_ok I1 ea c hm l ?_
  exact PySem.W.callWith_K0 (first := [.ref a]) I1.kIn hm.kp (run_fnS (us := [.ref a]) (vs := [.ref a]) (E := E) F hr hb (hx σ) I1 (.cons rfl .nil) q)
theorem pi_zipK {e e2 : Expr} {ta : TA} {p pos tpos : Pos} {elts : List Expr} {kk : Nat} (K : PySem.W.Frag) (hg : Gl X "zip") (hm : X.mg "zip" = none) (ha : PA X [e, e2] ta) (hK : X.K = K := by rfl)
    (hs : starEach [e, e2] X.env = (false, eval e X.env) :: starEach [e2] X.env := by rfl) (hpl : (backTo pos (starEach [e2] X.env)).any (·.1) = false := by rfl) :
    PI X (.Tuple elts kk tpos) (.Call (.Name "zip" p) [e, e2] [] pos) (iZip K ta) := hK ▸ pi_zip hg hm ha hs hpl
end
theorem kit_ty_of {K : PySem.W.Frag} {D : Addr} {T : String} {b : Bool} (h1 : PySem.W.kitMeta T = true) (h2 : PySem.W.subIn K (.ref D) (.type T) = some b) : PySem.W.kitOne K (.ref D) (.type T) = some b := by
  show (if (Value.ref D == Value.type T) = true then some true else (if PySem.W.kitMeta T = true then PySem.W.subIn K (.ref D) (.type T) else none)) = some b
  rw [if_neg (fun h => by cases h), if_pos h1]
  exact h2
end XL
set_option Elab.async false
set_option linter.all false
set_option maxRecDepth 100000
set_option maxHeartbeats 4000000
/-! XHot: a def that raises nothing and walks nothing, called within an except suite. -/
namespace XL
open PySem PySem.Spec PyProof.Rows L2 L2H
/-- what a def promises there -/
structure FnQ (P : Program) (w : World) (K : PySem.W.Frag) (mg : Str → Option Value) (base : Heap) (k : Nat) (f : Addr) (fd : FuncData) (ps : List Str) (sp : Sp) : Prop where
  len : ∀ vs H Q E, sp vs H Q E → vs.length = ps.length
  run : ∀ (A : Around) (outer : List Env) (s : Shared) (H : Hp) (args : Args) (us : List Value) (vs : List V) (Q : VK) (E : XK) (p : Addr × Obj), RoomH k A → PinOk outer H s p → Env0 P w K mg base A outer s H → BindsTo s fd args (ps.zip us) → Vals vs us → sp vs H Q E →
    codeAny (model P w) A (.call (.ref f) args) (CR CX0 outer P w H s Q E) s
theorem okQ {P : Program} {w : World} {K : PySem.W.Frag} {mg : Str → Option Value} {base : Heap} {x qual : Str} {st : Stmt} {f : Addr} {fd : FuncData} {N ps : List Str} {k : Nat} {sp : Sp} (F : Fun K x qual st f fd) (S : FnScope N ps (defScope st)) (len : ∀ vs H Q E, sp vs H Q E → vs.length = ps.length)
    (hbody : ∀ (cdv : Value) (A : Around) (outer : List Env) (s : Shared) (H : Hp) (vs : List V) (Q : VK) (E : XK) (p : Addr × Obj), RoomH k (A.deeper (envOfC qual (defScope st) s.heap.objs.size f cdv)) → sp vs H Q E →
      ∃ t, PSs (cxH CX0 P w K mg base N qual (defScope st) f cdv A outer s H E p) (defBody st) t ∧ t { nx := fun _ H' => Q .non H', rt := Q } (L2.start N vs) H) : FnQ P w K mg base (k + 1) f fd ps sp := by
  obtain ⟨oc, od, kV, doc, pm, an, cdv, ct, osl, rfl, lk, hcd⟩ := F.ex
  refine ⟨len, fun A outer s H args us vs Q E p hr hpin e0 hb r hsp => ?_⟩
  have hl := len _ _ _ _ hsp
  have KX : K.In s.heap := e0.mod.kin.keeps fun b o e => (e0.bs b o e).1
  have lim : s.heap.NoLimit := e0.mod.nolimit.keeps fun b o e => (e0.bs b o e).1
  have hkind : ∀ y ∈ ps.zip us, (defScope st).names.lookup y.1 = some .local ∨ ((defScope st).names.lookup y.1 = some .cell ∧ ((cellsFrom (s.heap.objs.size + 1) (defScope st).names []).lookup y.1).isSome = true) := fun ⟨n, v⟩ hy => by
    rcases S.par n (List.of_mem_zip hy).1 with q | q
    · exact .inl q
    · exact .inr ⟨q, PySem.W.cellsFrom_some _ _ _ (.inl q)⟩
  refine codeAny_call_function hr.depth (KX _ _ lk) rfl S.co S.gen rfl (PySem.W.codeRec_of KX hcd) (hb _ _ _ _ ?_)
  refine wpAny_newFunctionEnv_cells S.kind hkind fun env he s1 x => ?_
  subst he
  refine ⟨lim.keeps x.toInCall.keep, codeAny_func ?_⟩
  obtain ⟨t, ht, hq⟩ := hbody cdv A outer s H vs Q E p (hr.deeper _) hsp
  have I : Inv (cxH CX0 P w K mg base N qual (defScope st) f cdv A outer s H E p) [] (L2.start N vs) H s1 := inv_startH S hpin e0 hl r x
  refine wpAny_mono (ht.run [] s1 (L2.start N vs) H _ I hq) (fun fl s' hs => ?_) fun e s' hs => hs
  have fin : ∀ {σ' : L2.St} {H' : Hp} {v : V} {u : Value}, Inv (cxH CX0 P w K mg base N qual (defScope st) f cdv A outer s H E p) [] σ' H' s' → RelV v u → Q v H' → CE outer P w H s Q u s' :=
    fun {σ' H' v u} J rv q => ⟨v, H', J.os, J.bare, J.base, J.hok, rv, q⟩
  cases fl with
  | ret u =>
    obtain ⟨v, σ', H', J, rv, q⟩ := hs
    exact fin J rv q
  | next =>
    obtain ⟨σ', H', J, q⟩ := hs
    exact fin (v := V.non) (u := Value.none) J rfl q
  | brk =>
    obtain ⟨_, _, _, q⟩ := hs
    exact False.elim q
  | cont =>
    obtain ⟨_, _, _, q⟩ := hs
    exact False.elim q
section
variable {X : Cx} {k : Nat} {f : Addr} {fd : FuncData} {ps : List Str} {sp : Sp} {E : XK} {x : Str} {q pos : Pos} {e : Expr} {es : List Expr} {t : TA}
theorem pe_callQ (F : FnQ X.prog X.w X.K X.mg X.base k f fd ps sp) (hr : RoomH k X.A) (hc : ∃ p, p ∈ X.pn) (hg : Gl X x) (hm : X.mg x = some (.ref f)) (hk : PySem.W.keepIn X.K (.ref f) = true) (hb : Binds X.K fd ps []) (hx : Passes CX0 X E)
    (ha : PA X (e :: es) t) (hdb : (x == ("__debug__" : Str)) = false := by decide) (he : starEach (e :: es) X.env = (false, eval e X.env) :: starEach es X.env := by rfl) (hpl : (backTo pos (starEach es X.env)).any (·.1) = false := by rfl) :
    PE X (.Call (.Name x q) (e :: es) [] pos) (fun σ H Q => t σ H fun vs H1 => sp vs H1 Q E) := by
  refine ⟨fun pins s σ H Q I h => ?_⟩
  refine wpAny_Call_Name_kw (ld_glob I hg hm ?_ hdb)
  refine PySem.W.callWith_K (h₀ := X.base) I.ok.mod.kin hk (thn (ha.run pos pins s σ H _ I h) fun us s1 ⟨vs, H1, I1, r, q⟩ => ⟨I1.kIn, ?_⟩) he hpl
  obtain ⟨p, hp⟩ := hc
  have hl : us.length = ps.length := by rw [← r.length]; exact F.len _ _ _ _ q
  have b := hb s1 us I1.kIn (by rw [List.append_nil]; exact hl)
  rw [List.append_nil] at b
  have P1 := I1.pin p (List.mem_append_left _ hp)
  have hpin : PinOk X.stack H1 s1 p := ⟨P1.1, P1.2.1, fun hm => (List.mem_cons.mp (I1.stkSub p.1 hm)).elim P1.2.2.1 P1.2.2.2.1, P1.2.2.2.2⟩
  refine wpAny_call (codeAny_mono (F.run X.A X.stack s1 H1 ⟨us, []⟩ us vs Q E p hr hpin I1.env0 b r q) fun r s' hq => ?_)
  cases r with
  | error e => exact hx pins σ _ _ e s' I1 hq
  | ok fl =>
    cases fl with
    | ret u => exact I1.after hq
    | next => exact False.elim hq
    | brk => exact False.elim hq
    | cont => exact False.elim hq
end
theorem roomQ {X : Cx} {k j : Nat} {a : Addr} {pn : List (Addr × Obj)} (hr : Room k X.A) (h : j ≤ k) : RoomH j (X.suite a pn).A := ⟨(hr.mono h).dp, (hr.mono h).un⟩
end XL
set_option Elab.async false
set_option linter.all false
set_option maxRecDepth 100000
set_option maxHeartbeats 4000000
/-! XGuard: defs that are called while no repr is under way (Around.guards is known to be empty); repr of data there. -/
namespace XL
open PySem PySem.Spec PyProof.Rows L2
/-- what a def promises when no repr is under way -/
structure FnG (P : Program) (w : World) (K : PySem.W.Frag) (mg : Str → Option Value) (base : Heap) (CX : CXT) (k : Nat) (f : Addr) (fd : FuncData) (ps : List Str) (sp : Sp) : Prop where
  len : ∀ vs H Q E, sp vs H Q E → vs.length = ps.length
  run : ∀ (A : Around) (outer : List Env) (s : Shared) (H : Hp) (args : Args) (us : List Value) (vs : List V) (Q : VK) (E : XK), Room k A → A.guards = some [] → Env0 P w K mg base A outer s H → BindsTo s fd args (ps.zip us) → Vals vs us → sp vs H Q E →
    codeAny (model P w) A (.call (.ref f) args) (CR CX outer P w H s Q E) s
section
variable {P : Program} {w : World} {K : PySem.W.Frag} {mg : Str → Option Value} {base : Heap} {CX : CXT}
theorem FnG.of {k : Nat} {f : Addr} {fd : FuncData} {ps : List Str} {sp : Sp} (F : FnOk P w K mg base CX k f fd ps sp) : FnG P w K mg base CX k f fd ps sp := ⟨F.len, fun A outer s H args us vs Q E hr _ => F.run A outer s H args us vs Q E hr⟩
theorem fnG_of {x qual : Str} {st : Stmt} {f : Addr} {fd : FuncData} {N ps : List Str} {k : Nat} {sp : Sp} (F : Fun K x qual st f fd) (S : FnScope N ps (defScope st)) (len : ∀ vs H Q E, sp vs H Q E → vs.length = ps.length)
    (hbody : ∀ (cdv : Value) (A : Around) (outer : List Env) (s : Shared) (H : Hp) (vs : List V) (Q : VK) (E : XK), Room k (A.deeper (envOfC qual (defScope st) s.heap.objs.size f cdv)) → A.guards = some [] → sp vs H Q E →
      ∃ t, PSs (cxOf CX P w K mg base N qual (defScope st) f cdv A outer s H E) (defBody st) t ∧ t { nx := fun _ H' => Q .non H', rt := Q } (L2.start N vs) H) : FnG P w K mg base CX (k + 1) f fd ps sp := by
  obtain ⟨oc, od, kV, doc, pm, an, cdv, ct, osl, rfl, lk, hcd⟩ := F.ex
  refine ⟨len, fun A outer s H args us vs Q E hr hg e0 hb r hsp => ?_⟩
  have hl := len _ _ _ _ hsp
  have KX : K.In s.heap := e0.mod.kin.keeps fun b o e => (e0.bs b o e).1
  have lim : s.heap.NoLimit := e0.mod.nolimit.keeps fun b o e => (e0.bs b o e).1
  have hkind : ∀ y ∈ ps.zip us, (defScope st).names.lookup y.1 = some .local ∨ ((defScope st).names.lookup y.1 = some .cell ∧ ((cellsFrom (s.heap.objs.size + 1) (defScope st).names []).lookup y.1).isSome = true) := fun ⟨n, v⟩ hy => by
    rcases S.par n (List.of_mem_zip hy).1 with q | q
    · exact .inl q
    · exact .inr ⟨q, PySem.W.cellsFrom_some _ _ _ (.inl q)⟩
  refine codeAny_call_function hr.depth (KX _ _ lk) rfl S.co S.gen rfl (PySem.W.codeRec_of KX hcd) (hb _ _ _ _ ?_)
  refine wpAny_newFunctionEnv_cells S.kind hkind fun env he s1 x => ?_
  subst he
  refine ⟨lim.keeps x.toInCall.keep, codeAny_func ?_⟩
  obtain ⟨t, ht, hq⟩ := hbody cdv A outer s H vs Q E (hr.deeper _) hg hsp
  have I : Inv (cxOf CX P w K mg base N qual (defScope st) f cdv A outer s H E) [] (L2.start N vs) H s1 := inv_start S hr.hd e0 hl r x
  refine wpAny_mono (ht.run [] s1 (L2.start N vs) H _ I hq) (fun fl s' hs => ?_) fun e s' hs => hs
  cases fl with
  | ret u =>
    obtain ⟨v, σ', H', J, rv, q⟩ := hs
    exact ⟨v, H', J.os, J.bare, J.base, J.hok, rv, q⟩
  | next =>
    obtain ⟨σ', H', J, q⟩ := hs
    exact ⟨V.non, H', J.os, J.bare, J.base, J.hok, rfl, q⟩
  | brk =>
    obtain ⟨_, _, _, q⟩ := hs
    exact False.elim q
  | cont =>
    obtain ⟨_, _, _, q⟩ := hs
    exact False.elim q
/-- a def that raises nothing -/
theorem okG {x qual : Str} {st : Stmt} {f : Addr} {fd : FuncData} {N ps : List Str} {k : Nat} {sp : Sp} (F : Fun K x qual st f fd) (S : FnScope N ps (defScope st)) (len : ∀ vs H Q E, sp vs H Q E → vs.length = ps.length)
    (hbody : ∀ (cdv : Value) (A : Around) (outer : List Env) (s : Shared) (H : Hp) (vs : List V) (Q : VK) (E : XK), Room k (A.deeper (envOfC qual (defScope st) s.heap.objs.size f cdv)) → A.guards = some [] → sp vs H Q E →
      ∃ t, PSs (cxOf CX0 P w K mg base N qual (defScope st) f cdv A outer s H E).nox (defBody st) t ∧ t { nx := fun _ H' => Q .non H', rt := Q } (L2.start N vs) H) : FnG P w K mg base CX0 (k + 1) f fd ps sp :=
  fnG_of F S len fun cdv A outer s H vs Q E hr hg hsp => let ⟨t, h, q⟩ := hbody cdv A outer s H vs Q E hr hg hsp; ⟨t, h.nox, q⟩
end
section
variable {X : Cx} {CX : CXT} {k : Nat} {f : Addr} {fd : FuncData} {ps : List Str} {sp : Sp} {E : XK} {x : Str} {p pos : Pos} {e : Expr} {es : List Expr} {t : TA}
theorem run_fnG {pins : List (Addr × Obj)} {σ : L2.St} {H : Hp} {s : Shared} {Q : VK} {us : List Value} {vs : List V} (F : FnG X.prog X.w X.K X.mg X.base CX k f fd ps sp) (hr : Room k X.A) (hg : X.A.guards = some []) (hb : Binds X.K fd ps []) (hx : Passes CX X E)
    (I : Inv X pins σ H s) (r : Vals vs us) (h : sp vs H Q E) : wpAny (model X.prog X.w) X.A (call (.ref f) us) (EP X pins σ Q) X.xe s := by
  have hl : us.length = ps.length := by rw [← r.length]; exact F.len _ _ _ _ h
  have b := hb s us I.kIn (by rw [List.append_nil]; exact hl)
  rw [List.append_nil] at b
  refine wpAny_call (codeAny_mono (F.run X.A X.stack s H ⟨us, []⟩ us vs Q E hr hg I.env0 b r h) fun r s' hq => ?_)
  cases r with
  | error e => exact hx pins σ _ _ e s' I hq
  | ok fl =>
    cases fl with
    | ret u => exact I.after hq
    | next => exact False.elim hq
    | brk => exact False.elim hq
    | cont => exact False.elim hq
theorem pe_callG (F : FnG X.prog X.w X.K X.mg X.base CX k f fd ps sp) (hr : Room k X.A) (hg : X.A.guards = some []) (hgl : Gl X x) (hm : X.mg x = some (.ref f)) (hk : PySem.W.keepIn X.K (.ref f) = true) (hb : Binds X.K fd ps []) (hx : Passes CX X E)
    (ha : PA X (e :: es) t) (hdb : (x == ("__debug__" : Str)) = false := by decide) (he : starEach (e :: es) X.env = (false, eval e X.env) :: starEach es X.env := by rfl) (hpl : (backTo pos (starEach es X.env)).any (·.1) = false := by rfl) :
    PE X (.Call (.Name x p) (e :: es) [] pos) (fun σ H Q => t σ H fun vs H1 => sp vs H1 Q E) := by
  refine ⟨fun pins s σ H Q I h => ?_⟩
  refine wpAny_Call_Name_kw (ld_glob I hgl hm ?_ hdb)
  refine PySem.W.callWith_K (h₀ := X.base) I.ok.mod.kin hk (thn (ha.run pos pins s σ H _ I h) fun us s1 ⟨vs, H1, I1, r, q⟩ => ⟨I1.kIn, ?_⟩) he hpl
  exact run_fnG F hr hg hb hx I1 r q
theorem u70 {k : Nat} {A : Around} (r : Room k A) : A.units + 70 < cLine := by have := r.un; omega
/-- repr of data -/
def rRepr (K : PySem.W.Frag) : List V → Hp → VK → Prop := fun xs H Q => ∃ v d, xs = [v] ∧ Dp K H v d ∧ d.showable = true ∧ d.hasDict = false ∧ d.depth ≤ 64 ∧ d.shown.length ≤ sizeLine ∧ Q (.str d.shown) H
theorem call_reprG (K : PySem.W.Frag) (hg : X.A.guards = some []) (hu : X.A.units + 70 < cLine) (hK : X.K = K := by rfl) : CallR X (.builtin "repr") (rRepr K) := by
  subst hK
  intro pins s σ H xs us Q I r h
  obtain ⟨v, d, rfl, hd, h1, h2, h3, h4, q⟩ := h
  obtain ⟨u, rfl, ru⟩ : ∃ u, us = [u] ∧ RelV v u := by
    cases r with
    | cons a b =>
      cases b
      exact ⟨_, rfl, a⟩
  obtain ⟨as, rd⟩ := Dp.reads I d v u hd ru
  have big : ∀ a : Addr, u = .ref a → wpAny (model X.prog X.w) X.A (call (.builtin "repr") [u]) (EP X pins σ Q) X.xe s := by
    rintro a rfl
    exact repr_of_reads' rd h1 (PyData.noDict_hsm h2) hg (by omega) (fun _ _ e => e) (fun h' t tk hk => ⟨.str d.shown, H, I.kept hk, ⟨_, rfl⟩, q⟩) h4
  cases hd with
  | non =>
    cases ru
    exact PySem.P.repr_of_none ⟨.str _, H, I.tok _, ⟨_, rfl⟩, by simpa only [PyData.shown] using q⟩
  | bl b =>
    cases ru
    exact PySem.P.repr_of_bool ⟨.str _, H, I.tok _, ⟨_, rfl⟩, by simpa only [PyData.shown] using q⟩
  | int i =>
    obtain ⟨t, rfl⟩ := ru
    exact PySem.P.repr_of_int (by simpa [PyData.showable] using h1) ⟨.str _, H, I.tok _, ⟨_, rfl⟩, by simpa only [PyData.shown] using q⟩
  | str x =>
    obtain ⟨t, rfl⟩ := ru
    exact PySem.P.repr_of_str ⟨.str _, H, I.tok _, ⟨_, rfl⟩, by simpa only [PyData.shown] using q⟩ (by simpa only [PyData.shown] using h4)
  | lst _ _ => exact big _ ru
  | tup _ _ => exact big _ ru
end
/-! ### the law's own call -/
theorem law_callG {P : Program} {w : World} {K : PySem.W.Frag} {mg mb : Str → Option Value} {CX : CXT} {k : Nat} {fa a : Addr} {fd : FuncData} {x : Str} {sp : Sp} {s₁ : Shared} {vs : List Value} {ns : List Int}
    (KX : K.In s₁.heap) (hns : s₁.heap.Ns mainGlobals mg) (hb : s₁.heap.Ns builtinsNs mb) (hbb : ∀ x : Str, x ≠ "__name__" → mb x = bootBuiltins x) (hlim : s₁.heap.NoLimit) (hg : s₁.gens = #[])
    (ha : s₁.heap.get? a = some { cls := .type "list", data := .seq vs.toArray }) (hi : IntsAre vs ns) (hl : ns.length ≤ sizeLine) (hr : Room k callerA)
    (F : ∀ base : Heap, K.In base → base.Ns mainGlobals mg → FnG P w K mg base CX k fa fd [x] sp) (hbind : ∀ (s : Shared) (u : Value), BindsTo s fd ⟨[u], []⟩ [(x, u)])
    (hsp : ∀ H : Hp, Only H → SqL K H a (ns.map V.int) → sp [.ref a] H (fun v _ => v = .bl true) fun _ _ _ => False)
    (hCX : ∀ H e s', CX [] H s₁ (fun _ _ _ => False) e s' → False) :
    codeAny (model P w) callerA (.call (.ref fa) ⟨[.ref a], []⟩) (fun r s' => r = .ok (.ret (.bool true)) ∧ OldK s₁.heap s'.heap ∧ s'.os = s₁.os ∧ AllBare s'.gens) s₁ := by
  have rv := vals_ints hi
  have lenV := hi.length
  -- nothing is tracked but the script
  have main : ∀ H : Hp, (∀ b, H b = none ∨ (b = a ∧ K.lookup a = none ∧ H b = some (.frz { cls := .type "list", data := .seq vs.toArray } (.lst (ns.map V.int))))) → SqL K H a (ns.map V.int) → HOk P w H s₁.heap →
      codeAny (model P w) callerA (.call (.ref fa) ⟨[.ref a], []⟩) (fun r s' => r = .ok (.ret (.bool true)) ∧ OldK s₁.heap s'.heap ∧ s'.os = s₁.os ∧ AllBare s'.gens) s₁ := by
    intro H hH hS hok
    have nsK : ∀ {b : Addr} {m : Str → Option Value}, s₁.heap.Ns b m → (hidT s₁.heap H).Ns b m := fun {b m} ⟨o, es, ep, e, d, r⟩ => by
      refine ⟨o, es, ep, hidT_get e ?_, d, r⟩
      rcases hH b with z | ⟨z, _⟩
      · exact z
      · rw [z, ha] at e
        cases e
        cases d
    have hKb : K.In (hidT s₁.heap H) := fun b o e => hidT_get (KX b o e) (by
      rcases hH b with z | ⟨z, z2, _⟩
      · exact z
      · rw [z, z2] at e
        cases e)
    have hM : Mod K mg (hidT s₁.heap H) := ⟨hKb, nsK hns, ⟨mb, nsK hb, hbb⟩, let ⟨mc, h1, h2⟩ := hlim; ⟨mc, nsK h1, h2⟩⟩
    have e0 : Env0 P w K mg (hidT s₁.heap H) callerA [] s₁ H := ⟨rfl, hM, fun b o e => of_hidT e, Nat.le_of_eq (hidT_size _ _), trivial, fun b hb => (nomatch hb), hok, .of_eq hg⟩
    have hO : Only H := fun b => (hH b).imp id fun z => ⟨_, _, z.2.2⟩
    refine codeAny_mono ((F _ hKb (nsK hns)).run callerA [] s₁ H ⟨[.ref a], []⟩ [.ref a] [.ref a] _ _ hr rfl e0 (hbind s₁ (.ref a)) (.cons rfl .nil) (hsp H hO hS)) fun r s' h => ?_
    cases r with
    | error e => exact (hCX H e s' h).elim
    | ok fl =>
      cases fl with
      | next => exact False.elim h
      | brk => exact False.elim h
      | cont => exact False.elim h
      | ret u =>
        obtain ⟨v, H', os, bare, un, hok', r', q⟩ := h
        have q' : v = .bl true := q
        subst q'
        obtain rfl : u = Value.bool true := r'
        refine ⟨rfl, OldK.of_keep fun b o e => ?_, os, bare⟩
        rcases hH b with z | ⟨_, _, z⟩
        · exact un.keep b o e z (fun y => nomatch y) (by simp)
        · obtain ⟨e1, _⟩ := hok b _ z
          obtain ⟨e2, _⟩ := hok' b _ (un.frzs b _ _ z)
          rw [e] at e1
          cases e1
          exact e2
  cases hk : K.lookup a with
  | some o =>
    have e := KX a o hk
    rw [ha] at e
    cases e
    exact main (fun _ => none) (fun _ => .inl rfl) (.inr ⟨_, vs.toArray, _, hk, rfl, rfl, rfl, by rw [List.size_toArray, lenV]; exact hl, by simpa using rv⟩) (fun b u z => nomatch z)
  | none =>
    refine main (fun b => if b = a then some (.frz { cls := .type "list", data := .seq vs.toArray } (.lst (ns.map V.int))) else none) (fun b => ?_) (.inl (.inr ⟨{ cls := .type "list", data := .seq vs.toArray }, if_pos rfl⟩)) (fun b u z => ?_)
    · by_cases hb : b = a
      · exact .inr ⟨hb, hk, if_pos hb⟩
      · exact .inl (if_neg hb)
    · by_cases hb : b = a
      · have z' := (if_pos hb).symm.trans z
        cases z'
        subst hb
        exact ⟨ha, by rw [List.length_map]; exact hl, vs, _, rv, ha⟩
      · have z' := (if_neg hb).symm.trans z
        cases z'
theorem walk_ofG {l : PySem.W.OpenLaw} {n k : Nat} {q : Program} {loose : List Str} {XP : (Str → Option Value) → Heap → Prop} {YP : World → Heap → Prop} {d : DefRec} {K : Params → PySem.W.Frag} {CX : World → CXT} {sp : World → Sp} {x : Str}
    (hn : l.most = some n) (hn2 : n ≤ sizeLine) (hdf : d.params.defaults = []) (hr : Room k callerA)
    (hY : ∀ (w : World) (h : Heap), YP w h → (K w.params).In h)
    (F : ∀ (w : World) (mg : Str → Option Value) (fa : Addr) (h : Heap), (K w.params).In h → h.Ns mainGlobals mg → mg d.name = some (.ref fa) →
      ∃ fd : FuncData, (∀ (s : Shared) (u : Value), BindsTo s fd ⟨[u], []⟩ [(x, u)]) ∧
        ∀ base : Heap, (K w.params).In base → base.Ns mainGlobals mg → FnG l.prog w (K w.params) mg base (CX w) k fa fd [x] (sp w))
    (hsp : ∀ (w : World) (H : Hp) (a : Addr) (ns : List Int), ns.length ≤ n → Only H → SqL (K w.params) H a (ns.map V.int) → sp w [.ref a] H (fun v _ => v = .bl true) fun _ _ _ => False)
    (hCX : ∀ (w : World) (H : Hp) (s : Shared) (e : Value) (s' : Shared), CX w [] H s (fun _ _ _ => False) e s' → False) :
    PySem.W.WalkO q loose XP YP l.row.toRowW d [] (fun f vs => PySem.call f vs) := by
  refine Att.attach_call hn hdf fun w s₀ s₁ mg mb fa o pm cd doc a vs ns G Y ho hd hcd hmg hobj hints hlen hg => ?_
  have KX := hY w _ Y
  obtain ⟨fd, hb, hF⟩ := F w mg fa _ KX G.T.g hmg
  exact law_callG KX G.T.g G.T.b G.T.builtins G.T.nolimit hg hobj hints (Nat.le_trans hlen hn2) hr hF hb (fun H hO hS => hsp w H a ns hlen hO hS) fun H e s' => hCX w H s₁ e s'
end XL
set_option Elab.async false
set_option linter.all false
set_option maxRecDepth 100000
set_option maxHeartbeats 4000000
/-! XStar: defs with a star parameter, called with plain arguments. -/
namespace XL
open PySem PySem.Spec PyProof.Rows L2
/-! ### list.extend of a tuple -/
theorem ext_tup (l : Addr) (items : Array Value) (n : Nat) (b : Addr) (items2 : Array Value) (n2 : Nat) (dc : Option Addr) (sl : Array (Option Value)) (hs0 : ¬(!items.isEmpty && Builtin.List.listTooLong (items.size + items2.size)) = true) (hs1 : items.size ≤ sizeLine) (hs2 : items.size + items2.size ≤ sizeLine + 1) :
    Meets (Builtin.«list.extend» ⟨[.ref l, .ref b], []⟩) (fun _ R s => s.heap.get? l = some { cls := .type "list", dict := none, data := .seq items n, slots := #[] } ∧ s.heap.get? b = some { cls := .type "tuple", dict := dc, data := .seq items2 n2, slots := sl } ∧ R (.ok (.ret Value.none)) { s with heap := s.heap.update l (Obj.mapSeq fun x => x ++ items2), toks := s.toks }) :=
  .of_wp fun prog w A R s h => by
    obtain ⟨hp, g, d, tk, os⟩ := s
    obtain ⟨hl, hb, h⟩ := h
    have f1 := AutoSeq1.idx_int; have f2 := AutoSeq1.sub_tuple_tuple; have f3 := AutoSeq1.sub_list_list; have f4 := AutoSeq1.sub_tuple_list; have f5 := AutoSeq1.sub_list_tuple
    have hz' : (items ++ items2).size ≤ sizeLine + 1 := by rw [Array.size_append]; exact hs2
    wp_walk using (wpAny_updateSeq hl rfl (hz := hs1) (_hz' := hz')), wpAny_loadPart' hl, wpAny_loadPart' hb
    exact ⟨_, rfl, h⟩
def rExtT (K : PySem.W.Frag) : V → List V → Hp → VK → Prop := fun x vs H Q => ∃ l b xs zs, x = .ref l ∧ vs = [.ref b] ∧ H l = some (.lst xs) ∧ SqT K H b zs ∧ xs.length + zs.length ≤ sizeLine ∧ Q .non (upd H l (.lst (xs ++ zs)))
theorem mt_extT {X : Cx} (K : PySem.W.Frag) (hK : X.K = K := by rfl) : MtM X "list.extend" (rExtT K) := by
  subst hK
  intro pins s σ H x vs v us Q I rx rv h
  obtain ⟨l, b, xs, zs, rfl, rfl, hH, hB, hz, q⟩ := h
  cases rx
  obtain ⟨u, rfl, ru⟩ := rv.one
  cases ru
  obtain ⟨z, its, n, r, hl, e⟩ := I.lstM hH
  obtain ⟨its2, r2, ⟨o2, e2, c2, n2, d2⟩, z2⟩ := I.tuple hB
  have hl2 := r2.length
  obtain ⟨oc, od, odt, osl⟩ := o2
  simp only at c2 d2
  subst c2 d2
  have hsz : its.toArray.size + its2.toArray.size ≤ sizeLine := by rw [List.size_toArray, List.size_toArray]; omega
  have hlong : ¬ (!its.toArray.isEmpty && Builtin.List.listTooLong (its.toArray.size + its2.toArray.size)) = true := by
    rw [notLongL hsz, Bool.and_false]
    exact Bool.false_ne_true
  refine call_meets F.slot_list_extend ⟨_, e, rfl⟩ F.entry_list_extend (F.args_list_extend_2 _ _)
    (ext_tup l its.toArray n b its2.toArray n2 od osl hlong (by rw [List.size_toArray]; omega) (by omega)) ⟨e, e2, ?_⟩
  refine ⟨.non, _, I.lset (its' := its ++ its2) hH e (by simp) (r.append r2) ?_, rfl, q⟩
  rw [List.length_append]
  omega
/-- what a def with a star parameter binds -/
def BindsS (fd : FuncData) (ps : List Str) (pv : Str) : Prop := ∀ us rest : List Value, us.length = ps.length → bindArgs fd ⟨us ++ rest, []⟩ = (newTuple rest >>= fun t => pure (ps.zip us ++ [(pv, t)]))
/-- the promise of a def with a star parameter, from that of its body -/
def spS (n : Nat) (sp : Sp) : Sp := fun vs H Q E => ∃ ws rest, vs = ws ++ rest ∧ ws.length = n ∧ rest.length ≤ sizeLine ∧ ∀ p, H p = Option.none → sp (ws ++ [V.ref p]) (upd H p (.tup rest)) Q E
section
variable {P : Program} {w : World} {K : PySem.W.Frag} {mg : Str → Option Value} {base : Heap}
theorem okS {x qual : Str} {st : Stmt} {f : Addr} {fd : FuncData} {N ps : List Str} {pv : Str} {k : Nat} {sp : Sp} (F : Fun K x qual st f fd) (S : FnScope N (ps ++ [pv]) (defScope st)) (hb : BindsS fd ps pv)
    (hbody : ∀ (cdv : Value) (A : Around) (outer : List Env) (s : Shared) (H : Hp) (vs : List V) (Q : VK) (E : XK), Room k (A.deeper (envOfC qual (defScope st) s.heap.objs.size f cdv)) → sp vs H Q E →
      ∃ t, PSs (cxOf CX0 P w K mg base N qual (defScope st) f cdv A outer s H E).nox (defBody st) t ∧ t { nx := fun _ H' => Q .non H', rt := Q } (L2.start N vs) H) : FnR P w K mg base CX0 (k + 1) f (spS ps.length sp) := by
  obtain ⟨oc, od, kV, doc, pm, an, cdv, ct, osl, rfl, lk, hcd⟩ := F.ex
  refine StX.fn_star (pv := pv) (ps := ps) lk hcd S StX.cxUp_none hb fun A outer s H vs Q E hr hsp => ?_
  obtain ⟨t, h, q⟩ := hbody cdv A outer s H vs Q E hr hsp
  exact ⟨t, h.nox, q⟩
end
section
variable {X : Cx} {CX : CXT} {k : Nat} {f : Addr} {sp : Sp} {E : XK} {x : Str} {p pos : Pos} {e : Expr} {es : List Expr} {t : TA}
/-- x(e, ..) by a positional promise -/
theorem pe_callP (F : FnR X.prog X.w X.K X.mg X.base CX k f sp) (hr : Room k X.A) (hgl : Gl X x) (hm : X.mg x = some (.ref f)) (hk : PySem.W.keepIn X.K (.ref f) = true) (hx : Passes CX X E)
    (ha : PA X (e :: es) t) (hdb : (x == ("__debug__" : Str)) = false := by decide) (he : starEach (e :: es) X.env = (false, eval e X.env) :: starEach es X.env := by rfl) (hpl : (backTo pos (starEach es X.env)).any (·.1) = false := by rfl) :
    PE X (.Call (.Name x p) (e :: es) [] pos) (fun σ H Q => t σ H fun vs H1 => sp vs H1 Q E) := by
  refine ⟨fun pins s σ H Q I h => ?_⟩
  refine wpAny_Call_Name_kw (ld_glob I hgl hm ?_ hdb)
  refine PySem.W.callWith_K (h₀ := X.base) I.ok.mod.kin hk (thn (ha.run pos pins s σ H _ I h) fun us s1 ⟨vs, H1, I1, r, q⟩ => ⟨I1.kIn, ?_⟩) he hpl
  exact wpAny_call (run_fnR F hr hx I1 r q)
/-- x() -/
theorem pe_callP0 (F : FnR X.prog X.w X.K X.mg X.base CX k f sp) (hr : Room k X.A) (hgl : Gl X x) (hm : X.mg x = some (.ref f)) (hk : PySem.W.keepIn X.K (.ref f) = true) (hx : Passes CX X E) (hdb : (x == ("__debug__" : Str)) = false := by decide) :
    PE X (.Call (.Name x p) [] [] pos) (fun _ H Q => sp [] H Q E) := by
  refine ⟨fun pins s σ H Q I h => ?_⟩
  refine wpAny_Call_Name_kw (ld_glob I hgl hm ?_ hdb)
  exact PySem.W.callWith_K0 I.kIn hk (wpAny_call (run_fnR (us := []) F hr hx I .nil h))
end
section
variable {B : List Value → Sem (List (Str × Value))} {p1 p2 p3 p4 pv : Str}
theorem bindS0 (h0 : B [] = (newTuple [] >>= fun t => pure [(pv, t)])) (h1 : ∀ r rs, B (r :: rs) = (newTuple (r :: rs) >>= fun t => pure [(pv, t)])) :
    ∀ us rest : List Value, us.length = ([] : List Str).length → B (us ++ rest) = (newTuple rest >>= fun t => pure (([] : List Str).zip us ++ [(pv, t)]))
  | [], [], _ => h0
  | [], r :: rs, _ => h1 r rs
theorem bindS1 (h0 : ∀ a, B [a] = (newTuple [] >>= fun t => pure [(p1, a), (pv, t)])) (h1 : ∀ a r rs, B (a :: r :: rs) = (newTuple (r :: rs) >>= fun t => pure [(p1, a), (pv, t)])) :
    ∀ us rest : List Value, us.length = [p1].length → B (us ++ rest) = (newTuple rest >>= fun t => pure ([p1].zip us ++ [(pv, t)]))
  | [a], [], _ => h0 a
  | [a], r :: rs, _ => h1 a r rs
theorem bindS4 (h0 : ∀ a b c d, B [a, b, c, d] = (newTuple [] >>= fun t => pure [(p1, a), (p2, b), (p3, c), (p4, d), (pv, t)])) (h1 : ∀ a b c d r rs, B (a :: b :: c :: d :: r :: rs) = (newTuple (r :: rs) >>= fun t => pure [(p1, a), (p2, b), (p3, c), (p4, d), (pv, t)])) :
    ∀ us rest : List Value, us.length = [p1, p2, p3, p4].length → B (us ++ rest) = (newTuple rest >>= fun t => pure ([p1, p2, p3, p4].zip us ++ [(pv, t)]))
  | [a, b, c, d], [], _ => h0 a b c d
  | [a, b, c, d], r :: rs, _ => h1 a b c d r rs
end
end XL
set_option Elab.async false
set_option linter.all false
set_option maxRecDepth 100000
set_option maxHeartbeats 4000000
/-! XTree: t[::-1] of a tuple; == of data of more levels; objects whose own __iter__ hands on iter(l), l a list. -/
namespace XL
open PySem PySem.Spec PyProof.Rows L2
section
variable {prog : Program} {w : World} {A : Around} {E : Value → Shared → Prop} {s : Shared}
theorem applied_rev {sl : Addr} {t : Tok} {n : Nat} {Q : Int × Int × Nat → Shared → Prop} (hs : s.heap.IsSliceOf sl .none .none (.int (-1) t)) (h : Q ((n : Int) - 1, -1, n) s) :
    wpAny (model prog w) A (Builtin.Slice.sliceApplied (.ref sl) (pure (n : Int))) Q E s := by
  obtain ⟨os, hos, hcs, hds⟩ := id hs
  unfold Builtin.Slice.sliceApplied Builtin.Slice.sliceFields
  refine wpAny_bind (wpAny_bind (wpAny_field hos hds (x := .none) rfl (wpAny_bind (wpAny_field hos hds (x := .none) rfl (wpAny_bind (wpAny_field hos hds (x := .int (-1) t) rfl (wpAny_pure ?_)))))))
  refine wpAny_bind (HT.slicePart_ (.int (-1) t) ?_)
  show wpAny _ _ (if ((-1 : Int) == 0) = true then _ else _) _ _ s
  rw [if_neg (by decide)]
  refine wpAny_bind (HT.slicePart_ .none (wpAny_bind (HT.slicePart_ .none (wpAny_bind (wpAny_pure ?_)))))
  show wpAny _ _ (pure ((n : Int) - 1, (-1 : Int), Builtin.Slice.slicePlaces ((n : Int) - 1) (-1) (-1))) _ _ s
  have e : Builtin.Slice.slicePlaces ((n : Int) - 1) (-1) (-1) = n := by
    unfold Builtin.Slice.slicePlaces
    have h1 : ¬ ((-1 : Int) > 0) := by decide
    simp only [h1, if_false]
    split
    · rw [show (- -1 : Int) = 1 by decide, Int.ediv_one]
      omega
    · omega
  rw [e]
  exact wpAny_pure h
theorem fm_congr {α β : Type} {f g : α → Option β} : ∀ {l : List α}, (∀ x ∈ l, f x = g x) → l.filterMap f = l.filterMap g
  | [], _ => rfl
  | x :: l, h => by
    rw [List.filterMap_cons, List.filterMap_cons, h x List.mem_cons_self, fm_congr (l := l) fun y hy => h y (List.mem_cons_of_mem _ hy)]
theorem pick_rev (xs : Array Value) : ((List.range xs.size).filterMap fun (k : Nat) => xs[(((xs.size : Int) - 1) + (k : Int) * (-1)).toNat]?).toArray = xs.toList.reverse.toArray := by
  have z := PySem.W.krv_pick xs
  rw [← z]
  unfold slicePick
  rw [PySem.W.krv_bounds]
  show _ = ((sliceRange ((xs.size : Int) - 1) (-1) (-1)).filterMap (xs[·]?)).toArray
  rw [PySem.W.krv_sliceRange, List.filterMap_map]
  congr 1
  refine fm_congr fun k hk => ?_
  have := List.mem_range.mp hk
  have e : (((xs.size : Int) - 1) + (k : Int) * (-1)).toNat = xs.size - 1 - k := by omega
  show xs[_]? = xs[xs.size - 1 - k]?
  rw [e]
theorem getItem_tuple_rev {t sl : Addr} {tk : Tok} {items : Array Value} {Q : Value → Shared → Prop} (ht : IsTup s.heap t items) (hs : s.heap.IsSliceOf sl .none .none (.int (-1) tk))
    (h : Q (.ref s.heap.objs.size) { s with heap := s.heap.push { cls := .type "tuple", data := .seq items.toList.reverse.toArray } }) (hsz : items.size ≤ sizeLine) : wpAny (model prog w) A (getItem (.ref t) (.ref sl)) Q E s := by
  have htake : sizeOk (.seq items.toList.reverse.toArray) := by
    show items.toList.reverse.toArray.size ≤ sizeLine
    rw [List.size_toArray, List.length_reverse, Array.length_toList]
    exact hsz
  obtain ⟨os, hos, hcs, hds⟩ := id hs
  have hTs : s.TypeIs (.ref sl) "slice" := ⟨os, hos, hcs⟩
  unfold getItem
  try with_reducible refine wpAny_holding ?_
  first | refine wpAny_bind (wpAny_pure ?_) | skip
  refine wpAny_bind (wpAny_sequenceKey ht.typeIs (by decide) ?_)
  refine wpAny_bind (wpAny_callSpecial?_slot (name := Str.ofString "__getitem__") ht.typeIs PyProof.Rows.slot_tuple_getitem
    (wpAny_call_entry PyProof.Rows.slot_tuple_getitem ht.typeIs entry_tuple_getitem ?_ (args_tuple_getitem _ _)))
  show wpAny _ _ (Builtin.Tuple.tupleItemsOf (.ref t) >>= _) _ _ s
  refine wpAny_bind (tupleItemsOf_ ht ?_)
  refine wpAny_bind (wpAny_typeOf hTs ?_)
  rw [if_pos (by decide)]
  refine wpAny_bind (applied_rev hs ?_)
  have hno : ¬ (((items.size : Int) - 1 == 0 && (-1 : Int) == 1 && items.size == items.size) = true) := by
    intro q
    rw [Bool.and_eq_true, Bool.and_eq_true] at q
    exact absurd q.1.2 (by decide)
  show wpAny _ _ (if ((items.size : Int) - 1 == 0 && (-1 : Int) == 1 && items.size == items.size) = true then _ else _) _ _ s
  rw [if_neg hno, pick_rev]
  first
    | exact wpAny_bind (m := Builtin.Tuple.tupleExact _) (wpAny_newObj_type (wpAny_pure ⟨_, rfl, wpAny_pure h⟩) htake)
    | exact wpAny_bind (m := Builtin.Tuple.tupleExact _) (wpAny_newObj_type (wpAny_bind (wpAny_pure (wpAny_pure ⟨_, rfl, wpAny_pure h⟩))) htake)
    | exact wpAny_bind (wpAny_bind (m := Builtin.Tuple.tupleExact _) (wpAny_newObj_type (wpAny_pure (wpAny_pure ⟨_, rfl, wpAny_pure h⟩)) htake))
    | exact wpAny_bind (wpAny_bind (m := Builtin.Tuple.tupleExact _) (wpAny_newObj_type (wpAny_pure ⟨_, rfl, wpAny_pure h⟩) htake))
end
def tRevT (K : PySem.W.Frag) (te : TE) : TE := fun σ H Q => te σ H fun x H1 => ∃ a xs, x = .ref a ∧ SqT K H1 a xs ∧ ∀ p, H1 p = none → Q (.ref p) (upd H1 p (.tup xs.reverse))
theorem pe_revT {X : Cx} {e m : Expr} {te : TE} {p2 pos : Pos} (he : PE X e te) (hm : PE X m (tC (.int (-1)))) : PE X (.Subscript e (.Slice none none (some m) p2) pos) (tRevT X.K te) := by
  refine ⟨fun pins s σ H Q I h => ?_⟩
  refine Subscript_ (thn (he.run pins s σ H _ I h) fun v s1 ⟨x, H1, I1, r1, q1⟩ => ?_)
  refine wpAny_Slice (wpAny_evalPart_none (wpAny_evalPart_none (wpAny_evalPart_some (thn (hm.run pins s1 σ H1 (fun y H2 => y = .int (-1) ∧ H2 = H1) I1 ⟨rfl, rfl⟩) fun vm s3 ⟨y, H3, I3, r3, ey, eH⟩ => ?_))))
  subst ey eH
  obtain ⟨t, rfl⟩ := r3
  obtain ⟨a, xs, rfl, hx, q⟩ := q1
  cases r1
  have I4 : L2.Inv X pins σ H3 { s3 with heap := s3.heap.push { cls := .type "slice", data := .fields #[.none, .none, .int (-1) t] } } := I3.kept (t' := s3.toks) fun b ob q => Heap.get?_push_of_some _ q
  obtain ⟨its, r, ht, hz⟩ := I4.tuple hx
  have hlen := r.length
  show wpAny (model X.prog X.w) X.A (subscriptTail e (.Slice none none (some m) p2) (.ref a) (.ref s3.heap.objs.size)) (EP X pins σ Q) X.xe { s3 with heap := s3.heap.push { cls := .type "slice", data := .fields #[.none, .none, .int (-1) t] } }
  refine tail_any (ops := [.ref a, .ref s3.heap.objs.size]) ht.typeIs PyProof.Rows.slot_tuple_getitem.lookup ?_ (by with_unfolding_all rfl)
  refine getItem_tuple_rev ht (Heap.IsSliceOf.new ..) ?_ (by rw [List.size_toArray] <;> omega)
  refine ⟨.ref _, _, I4.laid (t' := s3.toks) (o := .tup xs.reverse) (fun b ob q => Heap.get?_push_of_some _ q) (Nat.le_refl _) ?_, rfl, q _ (I4.hok.fresh (Nat.le_refl _))⟩
  exact ⟨by rw [List.length_reverse]; exact hz, its.reverse, r.reverse, ⟨_, Heap.get?_push_size _ rfl, rfl, _, rfl⟩⟩
theorem pe_revTK {X : Cx} {e m : Expr} {te : TE} {p2 pos : Pos} (K : PySem.W.Frag) (he : PE X e te) (hm : PE X m (tC (.int (-1)))) (h : X.K = K := by rfl) : PE X (.Subscript e (.Slice none none (some m) p2) pos) (tRevT K te) := h ▸ pe_revT he hm
/-! ### == of data of up to 190 levels -/
def rEqL (K : PySem.W.Frag) : R2 := fun x y H Q => ∃ d e, Dp K H x d ∧ Dp K H y e ∧ d.canLay0 = true ∧ e.canLay0 = true ∧ d.depth ≤ 190 ∧ Q (.bl (PyData.eqv d e)) H
theorem op_eqL {X : Cx} (K : PySem.W.Frag) (hu : X.A.units + 190 < cLine) (hK : X.K = K := by rfl) : OpR X (compareOp .Eq) (rEqL K) := by
  subst hK
  intro pins s σ H x y v u Q I rx ry h
  obtain ⟨d, e, hd, he, sd, se, dp, q⟩ := h
  obtain ⟨as, r1⟩ := Dp.reads I d x v hd rx
  obtain ⟨bs, r2⟩ := Dp.reads I e y u he ry
  exact SeqAt.compareEq_reads r1 r2 sd se (by have := Nat.min_le_left d.depth e.depth; omega) ⟨.bl _, H, I, rfl, q⟩
/-! ### a promise that knows how large the heap was -/
structure FnY (P : Program) (w : World) (K : PySem.W.Frag) (mg : Str → Option Value) (base : Heap) (CX : CXT) (k : Nat) (f : Addr) (fd : FuncData) (ps : List Str) (sp : Nat → Sp) : Prop where
  len : ∀ n vs H Q E, sp n vs H Q E → vs.length = ps.length
  run : ∀ (A : Around) (outer : List Env) (s : Shared) (H : Hp) (args : Args) (us : List Value) (vs : List V) (Q : VK) (E : XK), Room k A → Env0 P w K mg base A outer s H → BindsTo s fd args (ps.zip us) → Vals vs us → sp s.heap.objs.size vs H Q E →
    codeAny (model P w) A (.call (.ref f) args) (CR CX outer P w H s Q E) s
section
variable {P : Program} {w : World} {K : PySem.W.Frag} {mg : Str → Option Value} {base : Heap} {CX : CXT}
theorem fnY_of {x qual : Str} {st : Stmt} {f : Addr} {fd : FuncData} {N ps : List Str} {k : Nat} {sp : Nat → Sp} (F : Fun K x qual st f fd) (S : FnScope N ps (defScope st)) (len : ∀ n vs H Q E, sp n vs H Q E → vs.length = ps.length)
    (hbody : ∀ (cdv : Value) (A : Around) (outer : List Env) (s : Shared) (H : Hp) (vs : List V) (Q : VK) (E : XK), Room k (A.deeper (envOfC qual (defScope st) s.heap.objs.size f cdv)) → sp s.heap.objs.size vs H Q E →
      ∃ t, PSs (cxOf CX P w K mg base N qual (defScope st) f cdv A outer s H E) (defBody st) t ∧ t { nx := fun _ H' => Q .non H', rt := Q } (L2.start N vs) H) : FnY P w K mg base CX (k + 1) f fd ps sp := by
  obtain ⟨oc, od, kV, doc, pm, an, cdv, ct, osl, rfl, lk, hcd⟩ := F.ex
  refine ⟨len, fun A outer s H args us vs Q E hr e0 hb r hsp => ?_⟩
  have hl := len _ _ _ _ _ hsp
  have KX : K.In s.heap := e0.mod.kin.keeps fun b o e => (e0.bs b o e).1
  have lim : s.heap.NoLimit := e0.mod.nolimit.keeps fun b o e => (e0.bs b o e).1
  have hkind : ∀ y ∈ ps.zip us, (defScope st).names.lookup y.1 = some .local ∨ ((defScope st).names.lookup y.1 = some .cell ∧ ((cellsFrom (s.heap.objs.size + 1) (defScope st).names []).lookup y.1).isSome = true) := fun ⟨n, v⟩ hy => by
    rcases S.par n (List.of_mem_zip hy).1 with q | q
    · exact .inl q
    · exact .inr ⟨q, PySem.W.cellsFrom_some _ _ _ (.inl q)⟩
  refine codeAny_call_function hr.depth (KX _ _ lk) rfl S.co S.gen rfl (PySem.W.codeRec_of KX hcd) (hb _ _ _ _ ?_)
  refine wpAny_newFunctionEnv_cells S.kind hkind fun env he s1 x => ?_
  subst he
  refine ⟨lim.keeps x.toInCall.keep, codeAny_func ?_⟩
  obtain ⟨t, ht, hq⟩ := hbody cdv A outer s H vs Q E (hr.deeper _) hsp
  have I : Inv (cxOf CX P w K mg base N qual (defScope st) f cdv A outer s H E) [] (L2.start N vs) H s1 := inv_start S hr.hd e0 hl r x
  refine wpAny_mono (ht.run [] s1 (L2.start N vs) H _ I hq) (fun fl s' hs => ?_) fun e s' hs => hs
  cases fl with
  | ret u =>
    obtain ⟨v, σ', H', J, rv, q⟩ := hs
    exact ⟨v, H', J.os, J.bare, J.base, J.hok, rv, q⟩
  | next =>
    obtain ⟨σ', H', J, q⟩ := hs
    exact ⟨V.non, H', J.os, J.bare, J.base, J.hok, rfl, q⟩
  | brk =>
    obtain ⟨_, _, _, q⟩ := hs
    exact False.elim q
  | cont =>
    obtain ⟨_, _, _, q⟩ := hs
    exact False.elim q
theorem okY {x qual : Str} {st : Stmt} {f : Addr} {fd : FuncData} {N ps : List Str} {k : Nat} {sp : Nat → Sp} (F : Fun K x qual st f fd) (S : FnScope N ps (defScope st)) (len : ∀ n vs H Q E, sp n vs H Q E → vs.length = ps.length)
    (hbody : ∀ (cdv : Value) (A : Around) (outer : List Env) (s : Shared) (H : Hp) (vs : List V) (Q : VK) (E : XK), Room k (A.deeper (envOfC qual (defScope st) s.heap.objs.size f cdv)) → sp s.heap.objs.size vs H Q E →
      ∃ t, PSs (cxOf CX0 P w K mg base N qual (defScope st) f cdv A outer s H E).nox (defBody st) t ∧ t { nx := fun _ H' => Q .non H', rt := Q } (L2.start N vs) H) : FnY P w K mg base CX0 (k + 1) f fd ps sp :=
  fnY_of F S len fun cdv A outer s H vs Q E hr hsp => let ⟨t, h, q⟩ := hbody cdv A outer s H vs Q E hr hsp; ⟨t, h.nox, q⟩
end
/-! ### for x in o, o an object whose own __iter__ hands on iter(l) -/
theorem dropH_upd {H : Hp} {a : Addr} {o : HO} (h : H a = none) : ItX.dropH (upd H a o) a = H := by
  funext b
  by_cases e : b = a
  · rw [e, ItX.dropH_same, h]
  · rw [ItX.dropH_ne e, upd_ne e]
def iOwnL (K : PySem.W.Frag) (C : Addr) (sp : Nat → Sp) (E : XK) (te : TE) : TI := fun σ H R => te σ H fun x H1 => ∃ a dx fs, x = .ref a ∧ H1 a = some (.ins C dx fs) ∧
  ∀ n, sp n [.ref a] H1 (fun v H2 => ∃ (it l : Addr), v = .ref it ∧ n ≤ it ∧ H2 it = some (ItO l it 0) ∧ R (Itl K l) (ItX.dropH H2 it)) E
theorem pi_ownL {X : Cx} {CX : CXT} {C f : Addr} {fd : FuncData} {ps : List Str} {sp : Nat → Sp} {E : XK} {n : Nat} {tg e : Expr} {te : TE} (he : PE X e te) (F : FnY X.prog X.w X.K X.mg X.base CX n f fd ps sp)
    (hs : PySem.W.findIn X.K (.ref C) "__iter__" = some (some (.ref f))) (hfn : PySem.W.isFn X.K (.ref f) = true) (hb : Binds X.K fd ps []) (hx : Passes CX X E) (hr : Room n X.A) : PI X tg e (iOwnL X.K C sp E te) := by
  refine ⟨fun pins s σ H R I h => ?_⟩
  refine thn (he.run pins s σ H _ I h) fun u s1 ⟨x, H1, I1, r1, a, dx, fs, ex, ha, hsp0⟩ => ?_
  subst ex
  cases r1
  have hsp := hsp0 s1.heap.objs.size
  obtain ⟨mA, J, _⟩ := ins_get I1.hok ha
  obtain ⟨od, J, _⟩ := J.look
  obtain ⟨m0, hF⟩ := I1.fr
  refine PySem.W.owit_iter hF I1.ok.mod.kin J hs hfn ?_
  have hl := F.len _ _ _ _ _ hsp
  refine wpAny_call (codeAny_mono (F.run X.A X.stack s1 H1 ⟨[.ref a], []⟩ [.ref a] [.ref a] _ E hr I1.env0 (by
    have := hb s1 [.ref a] I1.kIn (by simpa using hl)
    simpa using this) (.cons rfl .nil) hsp) fun r s' hq => ?_)
  cases r with
  | error e => exact hx pins σ _ _ e s' I1 hq
  | ok fl =>
    cases fl with
    | next => exact False.elim hq
    | brk => exact False.elim hq
    | cont => exact False.elim hq
    | ret u =>
      obtain ⟨v, H', I', rv, it, l, ev, young, hit, hR⟩ := I1.after hq
      subst ev
      cases rv
      have eo := itO_get I' hit
      have st : s'.heap.IsListIter it l 0 := ⟨_, eo, rfl, rfl⟩
      show wpAny _ _ (specialOf (.ref it) "__next__") _ _ _
      refine wpAny_specialOf st.typeIs slot_listiter_next.lookup ?_
      have hi' := hit
      unfold ItO at hi'
      refine ⟨it, [it], _, _, ItX.dropH H' it, rfl, ItX.inv_drop I' hi', turn_list l it, st, fun b hb => ?_, hR⟩
      have e : b = it := by simpa using hb
      rw [e]
      exact ItX.inv_fp I' hit (Nat.le_trans I1.sz young)
theorem pi_ownLK {X : Cx} {CX : CXT} {C f : Addr} {fd : FuncData} {ps : List Str} {sp : Nat → Sp} {E : XK} {n : Nat} {tg e : Expr} {te : TE} (K : PySem.W.Frag) (he : PE X e te) (F : FnY X.prog X.w X.K X.mg X.base CX n f fd ps sp)
    (hs : PySem.W.findIn X.K (.ref C) "__iter__" = some (some (.ref f))) (hfn : PySem.W.isFn X.K (.ref f) = true) (hb : Binds X.K fd ps []) (hx : Passes CX X E) (hr : Room n X.A) (h : X.K = K := by rfl) : PI X tg e (iOwnL K C sp E te) := h ▸ pi_ownL he F hs hfn hb hx hr
/-! ### list(o) -/
theorem next_lst_end {P : Program} {w : World} {A : Around} {E : Value → Shared → Prop} {s : Shared} {it t : Addr} {i : Nat} {items : Array Value} {Q : Option Value → Shared → Prop} (hh : A.handled = none)
    (hit : s.heap.IsListIter it t i) (ht : s.heap.IsList t items) (hx : items[i]? = none)
    (hQ : ∀ h', Heap.ExtBut it s.heap h' → (∃ o, h'.get? it = some o) → Q none { s with heap := h' }) : wpAny (model P w) A (pyNext (.ref it)) Q E s := by
  obtain ⟨o, ho, hc, hd⟩ := id hit
  obtain ⟨ol, hol, _, nl, hdl⟩ := ht
  unfold pyNext
  refine wpAny_bind (wpAny_attempt (wpAny_callSpecial?_slot (name := Str.ofString "__next__") hit.typeIs slot_listiter_next (wpAny_call_entry slot_listiter_next hit.typeIs entry_listiter_next ?_ (args_listiter_next _))))
  show wpAny _ _ (field (.ref it) 0 >>= _) _ _ s
  refine wpAny_bind (wpAny_field ho hd (x := .ref t) rfl (PySem.W.KFB.if_not rfl ?_))
  show wpAny _ _ (field (.ref it) 1 >>= _) _ _ s
  refine wpAny_bind (wpAny_field ho hd (x := .int i 0) rfl ?_)
  show wpAny _ _ (seqItems? (.ref t) >>= _) _ _ s
  refine wpAny_bind (wpAny_seqItems hol hdl ?_)
  simp only [Int.toNat_natCast, hx]
  refine wpAny_bind (wpAny_rule (wpAny_bind (wpAny_setField ho hd (by simp) ?_)))
  show wpAny _ _ (newExc (.type "StopIteration") [] >>= _) _ _ _
  refine wpAny_bind ?_
  simp only [newExc, newTuple]
  refine wpAny_bind (wpAny_newObj_type ?_ (by size_fits))
  refine wpAny_bind (m := firstArgMember _ _) (wpAny_of_eq (a := Value.none) (by first | rfl | (simp only [firstArgMember]; rfl)) ?_)
  refine wpAny_newObj_type ?_ (by size_fits)
  simp only [raiseNew]
  refine wpAny_bind (wpAny_handled ?_)
  first | rw [show A.in1.handled = none from hh] | rw [hh]
  refine wpAny_bind (wpAny_pure (wpAny_throw ?_))
  refine wpAny_bind (wpAny_isInstance (T := "StopIteration") (b := true) ⟨_, Heap.get?_push_size _ rfl, rfl⟩ isSubtype_stop ?_)
  exact wpAny_pure (hQ _ (((Heap.SameBut.update ..).extBut.push _).push _) ⟨_, Heap.get?_push_of_some _ (Heap.get?_push_of_some _ (Heap.get?_update_self _ ho (Obj.isFreed_of_fields (Obj.data_mapFields hd _))))⟩)
def ItL (l it : Addr) (i : Nat) : HO := .ext fun h => h.IsListIter it l i
theorem itL_ok {P : Program} {w : World} {H : Hp} {h : Heap} {t it : Addr} {i : Nat} (e : h.IsListIter it t i) : ObjOk P w H h it (ItL t it i) := by
  obtain ⟨o, ho, r⟩ := id e
  exact ⟨e, ⟨_, ho⟩, fun g1 g2 q k => q.at fun o e => k o e⟩
section
variable {X : Cx} {pins : List (Addr × Obj)} {σ : L2.St} {H : Hp} {s : Shared}
theorem itL_get {t it : Addr} {i : Nat} (I : Inv X pins σ H s) (e : H it = some (ItL t it i)) : s.heap.IsListIter it t i := (I.hok it _ e).1
/-- the loop that fills the list at q -/
theorem loop_lst {A1 : Around} {Rs : Result → Shared → Prop} {q it t : Addr} {zs : List V} (hd : A1.in1.handled = none) (hne : q ≠ it) :
    ∀ (k i : Nat) (H : Hp) (s : Shared), zs.length - i = k → i ≤ zs.length → Inv X pins σ H s → H it = some (ItL t it i) → it ≠ t → q ≠ t → H t = some (.lst zs) → H q = some (.lst (zs.take i)) →
      (∀ s', Inv X pins σ (upd (upd H it (ItTE it)) q (.lst zs)) s' → Rs (.ok (.ret .none)) s') → codeAny (model X.prog X.w) A1 (.builtin "list.extend.loop" ⟨[.ref q, .ref it, .none], []⟩) Rs s := by
  intro k
  induction k with
  | zero =>
    intro i H s hk hi I hit nit nqt ht hq hR
    obtain ⟨its, rv, pl, hz⟩ := I.list (SqL.of ht)
    have hin : zs.length = its.length := rv.length
    have mu : Mut (H it) := by rw [hit]; exact True.intro
    refine codeAny_builtin PySem.F.entry_extend_loop ?_
    rw [Around.under_plainId PySem.F.plain_extend_loop _]
    show wpAny _ A1.in1 (pyNext (.ref it) >>= _) _ _ s
    have ei : i = zs.length := by omega
    refine wpAny_bind (next_lst_end hd (itL_get I hit) pl.isList (by rw [List.getElem?_toArray]; exact List.getElem?_eq_none (by omega)) fun h' eb ⟨o, ho⟩ => wpAny_pure ?_)
    have I2 : Inv X pins σ (upd H it (ItTE it)) { s with heap := h' } := I.write (x := it) (e := it) (t' := s.toks) mu (.inl rfl) (fun b o nb z => eb b o nb z) ⟨_, ho⟩ (itTE_ok ho)
    refine hR _ ?_
    have e : upd (upd H it (ItTE it)) q (.lst zs) = upd H it (ItTE it) := by
      funext b
      by_cases hb : b = q
      · rw [hb, upd_same, upd_ne hne, hq, ei, List.take_length]
      · rw [upd_ne hb]
    rw [e]
    exact I2
  | succ k ih =>
    intro i H s hk hi I hit nit nqt ht hq hR
    obtain ⟨its, rv, pl, hz⟩ := I.list (SqL.of ht)
    have hin : zs.length = its.length := rv.length
    have mu : Mut (H it) := by rw [hit]; exact True.intro
    have hlt : i < zs.length := by omega
    have hzi := List.getElem?_eq_getElem hlt
    obtain ⟨u, hu, ru⟩ := rv.get hzi
    refine codeAny_builtin PySem.F.entry_extend_loop ?_
    rw [Around.under_plainId PySem.F.plain_extend_loop _]
    show wpAny _ A1.in1 (pyNext (.ref it) >>= _) _ _ s
    refine wpAny_bind (wpAny_pyNext_list_item (itL_get I hit) pl.isList (by rw [List.getElem?_toArray]; exact hu) fun h' hit' sb => ?_)
    obtain ⟨o, ho, _⟩ := id hit'
    have I2 : Inv X pins σ (upd H it (ItL t it (i + 1))) { s with heap := h' } := I.write (x := it) (e := it) (t' := s.toks) mu (.inl rfl) (fun b o nb z => (sb.2 b nb).trans z) ⟨_, ho⟩ (itL_ok hit')
    have hq2 : upd H it (ItL t it (i + 1)) q = some (.lst (zs.take i)) := by rw [upd_ne hne]; exact hq
    show wpAny _ A1.in1 (updateSeq q (·.push u) >>= _) _ _ _
    obtain ⟨z, its2, c, r2, hl, e⟩ := I2.lstM hq2
    have l2 : its2.length ≤ 16777215 := by
      rw [← hl, List.length_take]
      have := hz
      rw [sizeLine_eq] at this
      omega
    refine wpAny_bind (wpAny_updateSeq e rfl (wpAny_pure ⟨plainId_quiet PySem.F.plain_extend_loop _, ?_⟩) (by rw [List.size_toArray, sizeLine_eq]; omega) (by show (its2.toArray.push u).size ≤ sizeLine + 1; rw [Array.size_push, List.size_toArray, sizeLine_eq]; omega))
    have I3 := I2.lset (f := (·.push u)) (its' := its2 ++ [u]) (ys := zs.take i ++ [zs[i]]) (t' := s.toks) hq2 e (by simp) (r2.append (.cons ru .nil)) (by rw [List.length_append, List.length_singleton, List.length_take, sizeLine_eq]; rw [sizeLine_eq] at hz; omega)
    refine ih (i + 1) _ _ (by omega) (by omega) I3 ?_ nit nqt ?_ ?_ fun s' I4 => hR s' ?_
    · rw [upd_ne (Ne.symm hne), upd_same]
    · rw [upd_ne (Ne.symm nqt), upd_ne (Ne.symm nit)]
      exact ht
    · rw [upd_same, take_snoc hzi]
    · have e4 : upd (upd (upd (upd H it (ItL t it (i + 1))) q (.lst (zs.take i ++ [zs[i]]))) it (ItTE it)) q (.lst zs) = upd (upd H it (ItTE it)) q (.lst zs) := by
        funext b
        by_cases hb : b = q
        · rw [hb, upd_same, upd_same]
        · rw [upd_ne hb, upd_ne hb]
          by_cases hb2 : b = it
          · rw [hb2, upd_same, upd_same]
          · rw [upd_ne hb2, upd_ne hb2, upd_ne hb, upd_ne hb2]
      rw [← e4]
      exact I4
def rListItL (C : Addr) (sp : Nat → Sp) (E : XK) : List V → Hp → VK → Prop := fun xs H Q => ∃ a dx fs, xs = [.ref a] ∧ H a = some (.ins C dx fs) ∧
  ∀ q n, H q = none → sp n [.ref a] (upd H q (.lst [])) (fun v H1 => ∃ (it t : Addr) (zs : List V), v = .ref it ∧ H1 it = some (ItO t it 0) ∧ it ≠ t ∧ q ≠ t ∧ H1 t = some (.lst zs) ∧ H1 q = some (.lst []) ∧ (∃ dx' fs', H1 a = some (.ins C dx' fs')) ∧ Q (.ref q) (upd (upd H1 it (ItTE it)) q (.lst zs))) E
theorem call_listItL {C f : Addr} {fd : FuncData} {ps : List Str} {sp : Nat → Sp} {E : XK} {n : Nat} {CX : CXT} (hs : PySem.W.findIn X.K (.ref C) "__iter__" = some (some (.ref f))) (hfn : PySem.W.isFn X.K (.ref f) = true) (n1 : PySem.W.findIn X.K (.ref C) "__len__" = some none) (n2 : PySem.W.findIn X.K (.ref C) "__length_hint__" = some none)
    (F : FnY X.prog X.w X.K X.mg X.base CX n f fd ps sp) (hb : Binds X.K fd ps []) (hx : Passes CX X E) (hr : Room (n + 2) X.A) : CallR X (.type "list") (rListItL C sp E) := by
  intro pins s σ H xs us Q I rv h
  obtain ⟨a, dx, fs, rfl, ha, hq⟩ := h
  obtain ⟨u, rfl, ru⟩ := rv.one
  cases ru
  have sb : Sub X n X.A.in1.in1 := (Sub.in1 (Sub.in1 (⟨hr, rfl⟩ : Sub X (n + 2) X.A)))
  refine callType_codes (Q₁ := fun obj s₁ => obj = .ref s.heap.objs.size ∧ s₁ = { s with heap := s.heap.push { cls := .type "list", data := .seq #[] } }) PySem.F.called_list (PySem.F.typeCall_list_1 _) PySem.F.entry_list_init
    (code_list_new _ ⟨rfl, rfl⟩) fun obj s₁ h₁ => ?_
  obtain ⟨rfl, rfl⟩ := h₁
  have hS : (s.heap.push { cls := .type "list", data := .seq #[] }).get? s.heap.objs.size = some { cls := .type "list", data := .seq #[] } := Heap.get?_push_size _ rfl
  refine ⟨⟨_, hS, rfl⟩, PySem.F.args_list_init_2 _ _, ?_⟩
  have fr : H s.heap.objs.size = none := I.hok.fresh (Nat.le_refl _)
  have hsp := fun n => hq _ n fr
  have I1 : Inv X pins σ (upd H s.heap.objs.size (.lst [])) { s with heap := s.heap.push { cls := .type "list", data := .seq #[] } } := I.lnew (its := []) (t' := s.toks) .nil (Nat.zero_le _)
  show wpAny _ _ (do let old ← Builtin.List.listItems (.ref s.heap.objs.size); Builtin.List.listUpdate (.ref s.heap.objs.size) (fun _ => #[]); letGo old.toList.reverse; Builtin.List.listExtendWith (.ref s.heap.objs.size) (.ref a) .none) _ _ _
  refine wpAny_bind ?_
  unfold Builtin.List.listItems
  refine wpAny_bind (wpAny_seqItems hS rfl (wpAny_pure ?_))
  show wpAny _ _ (updateSeq s.heap.objs.size (fun _ => #[]) >>= fun _ => letGo (#[] : Array Value).toList.reverse >>= fun _ => Builtin.List.listExtendWith (.ref s.heap.objs.size) (.ref a) .none) _ _ _
  refine wpAny_bind (wpAny_updateSeq hS rfl ?_)
  have I2 := I1.lset (f := fun _ => #[]) (its := []) (its' := []) (ys := []) (t' := s.toks) upd_same hS rfl .nil (Nat.zero_le _)
  rw [upd_upd] at I2
  refine wpAny_bind (wpAny_letGo ?_)
  have ha2 : upd H s.heap.objs.size (.lst []) a = some (.ins C dx fs) := by rw [upd_ne (ne_of_none ha fr)]; exact ha
  have hne : s.heap.objs.size ≠ a := Ne.symm (ne_of_none ha fr)
  generalize hH2 : upd H s.heap.objs.size (.lst []) = H2 at *
  generalize s.heap.objs.size = q at *
  obtain ⟨mA, J, _⟩ := ins_get I2.hok ha2
  obtain ⟨od, J, _⟩ := J.look
  obtain ⟨m0, hF⟩ := I2.fr
  unfold Builtin.List.listExtendWith
  refine wpAny_bind (J.type.here ?_)
  have h1 : Builtin.List.listSameRef (.ref q) (.ref a) = false := by simp [Builtin.List.listSameRef, hne]
  have h2 : (Value.ref C == Value.type "list") = false := rfl
  have h3 : (Value.ref C == Value.type "tuple") = false := rfl
  simp only [h1, h2, h3, Bool.or_false, Bool.false_eq_true, if_false]
  refine wpAny_bind (PySem.W.owit_iter hF I2.ok.mod.kin J hs hfn ?_)
  have e0 : ∀ {s : Shared} {H : Hp}, Inv X pins σ H s → Env0 X.prog X.w X.K X.mg X.base X.A.in1.in1 X.stack s H := fun {s H} I => by
    have e := I.env0
    exact ⟨by rw [sb.fr]; exact e.frames, e.mod, e.bs, e.bsz, e.funs, e.frf, e.hok, e.bare⟩
  have hl := F.len _ _ _ _ _ (hsp 0)
  have r2 : Vals [V.ref a] [Value.ref a] := .cons rfl .nil
  refine wpAny_call (codeAny_mono (F.run X.A.in1.in1 X.stack _ _ ⟨[.ref a], []⟩ [.ref a] [.ref a] _ E sb.room (e0 I2) (by
    have := hb _ [.ref a] I2.kIn (by simpa using hl)
    simpa using this) r2 (hsp _)) fun r s' hq' => ?_)
  cases r with
  | error e => exact hx pins σ _ _ e s' I2 hq'
  | ok fl =>
    cases fl with
    | next => exact False.elim hq'
    | brk => exact False.elim hq'
    | cont => exact False.elim hq'
    | ret u =>
      obtain ⟨v, H', I', rv, it, t, zs, ev, hit, nit, nqt, ht, hqq, ⟨dx', fs', ha'⟩, hQ⟩ := I2.after hq'
      subst ev
      cases rv
      have stt : ∀ s'', Inv X pins σ H' s'' → s''.heap.IsListIter it t 0 := fun s'' I'' => ⟨_, itO_get I'' hit, rfl, rfl⟩
      have hT : s'.TypeIs (.ref it) "list_iterator" := (stt s' I').typeIs
      have hqi : q ≠ it := fun z => by
        rw [z, hit] at hqq
        exact (nomatch hqq)
      show wpAny _ _ (specialOf (.ref it) "__next__") _ _ _
      refine wpAny_specialOf hT slot_listiter_next.lookup ?_
      obtain ⟨mA', J', _⟩ := ins_get I'.hok ha'
      obtain ⟨od', J', _⟩ := J'.look
      refine wpAny_bind (wpAny_holding (hint_own n1 n2 I'.kIn J' ?_))
      have go : ∀ s'', Inv X pins σ H' s'' → codeAny (model X.prog X.w) X.A.in1 (.builtin "list.extend.loop" ⟨[.ref q, .ref it, .none], []⟩) (wants (fun r s₂ => r = .none ∧ EP X pins σ Q (.ref q) s₂) X.xe) s'' := fun s'' I'' =>
by
        have mu : Mut (H' it) := by rw [hit]; exact True.intro
        obtain ⟨oi, ei, _⟩ := id (stt s'' I'')
        have I5 : Inv X pins σ (upd H' it (ItL t it 0)) s'' := I''.write (x := it) (e := it) (t' := s''.toks) mu (.inl rfl) (fun b o nb z => z) ⟨_, ei⟩ (itL_ok (stt s'' I''))
        refine loop_lst (t := t) (zs := zs) sb.room.hd hqi zs.length 0 _ s'' (by simp) (Nat.zero_le _) I5 upd_same nit nqt (by rw [upd_ne (Ne.symm nit)]; exact ht) (by rw [upd_ne hqi, hqq]; rfl) fun s3 I3 => ?_
        rw [upd_upd] at I3
        exact ⟨rfl, .ref q, _, I3, rfl, hQ⟩
      obtain ⟨z, its, k, r3, hl3, e3⟩ := I'.lstM hqq
      cases r3
      refine wpAny_ite_split (fun _ => ?_) (fun _ => wpAny_pure ⟨plainId_quiet PySem.F.plain_extend_loop _, go s' I'⟩)
      refine wpAny_bind (wpAny_rule ?_)
      refine wpAny_bind ?_
      show wpAny _ _ (updateSeq q (·.push .none) >>= fun _ => updateSeq q (·.pop)) _ _ _
      refine wpAny_bind (wpAny_updateSeq e3 rfl ?_)
      have I3 := I'.lset (f := (·.push Value.none)) (its' := [Value.none]) (ys := [.non]) (t' := s'.toks) hqq e3 (by simp) (.cons rfl .nil) (by rw [List.length_singleton, sizeLine_eq]; decide)
      obtain ⟨z4, its4, k4, r4, hl4, e4⟩ := I3.lstM upd_same
      obtain ⟨u4, rfl, ru4⟩ := r4.one
      refine wpAny_updateSeq e4 rfl ?_ (by show 1 ≤ sizeLine; rw [sizeLine_eq]; decide) (by show 0 ≤ sizeLine + 1; exact Nat.zero_le _)
      have I4 := I3.lset (f := (·.pop)) (its := [u4]) (its' := []) (ys := []) (t' := s'.toks) upd_same e4 (by rfl) .nil (Nat.zero_le _)
      rw [upd_upd] at I4
      have hH : upd H' q (.lst []) = H' := by
        funext b
        by_cases hb : b = q
        · rw [hb, upd_same, hqq]
        · rw [upd_ne hb]
      rw [hH] at I4
      exact wpAny_pure ⟨plainId_quiet PySem.F.plain_extend_loop _, go _ I4⟩
end
theorem u190 {k : Nat} {A : Around} (r : Room k A) : A.units + 190 < cLine := by have := r.un; omega
end XL
set_option Elab.async false
set_option linter.all false
set_option maxRecDepth 100000
set_option maxHeartbeats 4000000
/-! XFoc: o.f = v by an own property's setter; C(..) within a try; a call that raises within a def that lets it out; a written tuple. -/
namespace XL
open PySem PySem.Spec PyProof.Rows L2
structure PSet (K : PySem.W.Frag) (C : Addr) (f : Str) (p g : Addr) : Prop where
  tk : PySem.W.takerIn K C f = some (some (.ref p))
  ty : PySem.W.typeIn K (.ref p) = some (.type "property")
  rec_ : ∃ a rest, PySem.W.recIn K p "property" = some (a :: .ref g :: rest)
def sPSet (C : Addr) (sp : Sp) (E : XK) (ta tv : TE) : TS := fun D σ H => tv σ H fun y H1 => ta σ H1 fun x H2 => ∃ a dx fs, x = .ref a ∧ H2 a = some (.ins C dx fs) ∧ sp [.ref a, y] H2 (fun _ H3 => D.nx σ H3) E
section
variable {X : Cx} {CX : CXT} {k : Nat} {C p g : Addr} {f : Str} {fd : FuncData} {ps : List Str} {sp : Sp} {E : XK} {o value : Expr} {pos pos' : Pos} {ta tv : TE}
theorem Room.in2 {k : Nat} {A : Around} (r : Room (k + 2) A) : Room k A.in1.in1 := (Room.in1 (Room.in1 r))
/-- o.f = v, f a property with a setter -/
theorem ps_pset (ha : PE X o ta) (hv : PE X value tv) (c : Cls X.K C) (hp : PSet X.K C f p g) (F : FnOk X.prog X.w X.K X.mg X.base CX k g fd ps sp) (hr : Room (k + 2) X.A) (hb : Binds X.K fd ps []) (hx : Passes CX X E)
    (hs : swapsWith value (some (.Attribute o f pos')) pos.line X.env = pure false) : PS X (.Assign [.Attribute o f pos'] value pos) (sPSet C sp E ta tv) := by
  refine ⟨fun pins s σ H D I h => ?_⟩
  refine plainObj_wpAny_Assign_Attribute (thn (hv.run pins s σ H _ I h) fun u s1 ⟨y, H1, I1, ry, q⟩ => thn (ha.run pins s1 σ H1 _ I1 q) fun ov s2 ⟨x, H2, I2, rx, a, dx, fs, ex, ea, q2⟩ => ?_) hs
  subst ex
  obtain rfl : ov = Value.ref a := rx
  obtain ⟨mA, O, _, _, _, _⟩ := ins_get I2.hok ea
  obtain ⟨od, J, _⟩ := O.look
  obtain ⟨a0, rest, hrec⟩ := hp.rec_
  have I3 := I2.tok (s2.toks + 1)
  have hl : ([Value.ref a, u] : List Value).length = ps.length := by
    rw [← F.len _ _ _ _ q2]
    rfl
  refine PySem.W.set_plain I2.kIn J c.sa (PySem.W.osa_descr PySem.W.KF.slot_pset I3.kIn J c.po hp.tk hp.ty (PySem.W.prop_set I3.kIn hrec ?_))
  have b := hb { s2 with toks := s2.toks + 1 } [.ref a, u] I3.kIn (by rw [List.append_nil]; exact hl)
  rw [List.append_nil] at b
  refine codeAny_mono (F.run X.A.in1.in1 X.stack { s2 with toks := s2.toks + 1 } H2 ⟨[.ref a, u], []⟩ [.ref a, u] [.ref a, y] _ E (Room.in2 hr) I3.env0.in1.in1 b (.cons rfl (.cons ry .nil)) q2) fun r s' hq => ?_
  cases r with
  | error e => exact hx pins σ _ _ e s' I3 hq
  | ok fl =>
    cases fl with
    | ret u =>
      obtain ⟨v, H', I', rv, q3⟩ := I3.after hq
      exact ⟨σ, H', I', q3⟩
    | next => exact False.elim hq
    | brk => exact False.elim hq
    | cont => exact False.elim hq
end
/-- what leaves a def by its own promise -/
theorem passO {X : Cx} {E : XK} (tk : Takes X (fun cls d _ H => E cls d H)) : Passes (L2.CX X.prog X.w) X E := fun pins σ H s e s' I c => passes_call tk (fun _ _ _ _ h => h) pins σ H s e s' I c
section
variable {X : Cx} {CX : CXT} {k : Nat} {f C : Addr} {fd : FuncData} {ps : List Str} {ds : List Value} {dvs : List V} {sp : Sp} {E : L2.St → XK} {x : Str} {p pos : Pos} {e : Expr} {es : List Expr} {t : TA}
theorem run_makeT {pins : List (Addr × Obj)} {σ : L2.St} {H : Hp} {s : Shared} {Q : VK} {us : List Value} {vs : List V} (M : Mk X.K C f) (F : FnOk X.prog X.w X.K X.mg X.base CX k f fd ps sp) (hr : Room (k + 1) X.A) (hb : Binds X.K fd ps ds) (hd : Vals dvs ds)
    (hx : PassesAt CX X σ (E σ)) (I : Inv X pins σ H s) (r : Vals vs us)
    (h : ∀ x dx, H x = none → H dx = none → dx ≠ x → sp (.ref x :: (vs ++ dvs)) (upd (upd H dx (.own x)) x (.ins C dx [])) (fun v H2 => v = .non ∧ Q (.ref x) H2) (E σ)) :
    wpAny (model X.prog X.w) X.A (call (.ref C) us) (EP X pins σ Q) X.xe s := by
  have hq := h (s.heap.objs.size + 1) s.heap.objs.size (I.hok.fresh (Nat.le_succ _)) (I.hok.fresh (Nat.le_refl _)) (Nat.ne_of_lt (Nat.lt_succ_self _))
  have I2 := Inv.made (C := C) I
  have r2 : Vals (V.ref (s.heap.objs.size + 1) :: (vs ++ dvs)) (Value.ref (s.heap.objs.size + 1) :: (us ++ ds)) := .cons rfl (r.append hd)
  have hl : (Value.ref (s.heap.objs.size + 1) :: us ++ ds).length = ps.length := by
    have e := r2.length
    rw [F.len _ _ _ _ hq] at e
    exact e.symm
  refine wpAny_call (make_map (f := f) I.kIn M.makes M.init (beq_iff_eq.mp M.fn) (codeAny_mono (F.run _ X.stack _ _ ⟨Value.ref (s.heap.objs.size + 1) :: us, []⟩ (Value.ref (s.heap.objs.size + 1) :: (us ++ ds)) _ _ (E σ) (hr.make C us [])
    (I2.env0.make C us []) (hb _ (Value.ref (s.heap.objs.size + 1) :: us) I2.kIn hl) r2 hq) fun r s' hq' => ?_))
  cases r with
  | error e => exact hx pins _ _ e s' I2 hq'
  | ok fl =>
    cases fl with
    | ret u =>
      obtain ⟨v, H', I3, rv, ev, q3⟩ := I2.after hq'
      subst ev
      exact ⟨rv, ⟨V.ref (s.heap.objs.size + 1), H', I3, rfl, q3⟩⟩
    | next => exact False.elim hq'
    | brk => exact False.elim hq'
    | cont => exact False.elim hq'
def tMakeT (C : Addr) (sp : Sp) (dvs : List V) (E : L2.St → XK) (t : TA) : TE := fun σ H Q => t σ H fun vs H1 => ∀ x dx, H1 x = none → H1 dx = none → dx ≠ x → sp (.ref x :: (vs ++ dvs)) (upd (upd H1 dx (.own x)) x (.ins C dx [])) (fun v H2 => v = .non ∧ Q (.ref x) H2) (E σ)
/-- C(e, ..) within a try -/
theorem pe_makeT (M : Mk X.K C f) (F : FnOk X.prog X.w X.K X.mg X.base CX k f fd ps sp) (hr : Room (k + 1) X.A) (hg : Gl X x) (hm : X.mg x = some (.ref C)) (hb : Binds X.K fd ps ds) (hd : Vals dvs ds) (hx : ∀ σ, PassesAt CX X σ (E σ))
    (ha : PA X (e :: es) t) (hdb : (x == ("__debug__" : Str)) = false := by decide) (he : starEach (e :: es) X.env = (false, eval e X.env) :: starEach es X.env := by rfl) (hpl : (backTo pos (starEach es X.env)).any (·.1) = false := by rfl) :
    PE X (.Call (.Name x p) (e :: es) [] pos) (tMakeT C sp dvs E t) := by
  refine ⟨fun pins s σ H Q I h => ?_⟩
  refine wpAny_Call_Name_kw (ld_glob I hg hm ?_ hdb)
  refine PySem.W.callWith_K (h₀ := X.base) I.ok.mod.kin M.kp (thn (ha.run pos pins s σ H _ I h) fun us s1 ⟨vs, H1, I1, r, q⟩ => ⟨I1.kIn, ?_⟩) he hpl
  exact run_makeT M F hr hb hd (hx σ) I1 r q
end
/-- the calls of a def with one default: with and without it -/
structure Dfl1 (K : PySem.W.Frag) (fd : FuncData) (ps : List Str) (dv : V) : Prop where
  all : Binds K fd ps []
  one : ∃ ds, Vals [dv] ds ∧ Binds K fd ps ds
end XL
namespace XL
open PySem PySem.Spec PyProof.Rows L2
section
variable {X : Cx} {pos : Pos}
theorem pg_unlK (K : PySem.W.Frag) (n : Nat) {es : List Expr} {k : Nat} {t : TGs} (h : PGs X es t) (hc : X.calm = true := by rfl) (hK : X.K = K := by rfl)
    (hn : (assignEach es X.env).length = n := by rfl) (hst : (assignEach es X.env).findIdx? (·.1) = none := by rfl) : PG X (.Tuple es k pos) (gUnl K n t) := hK ▸ pg_unl hc h hn hst
theorem mt_indexK (K : PySem.W.Frag) (hK : X.K = K := by rfl) : MtR X "list.index" (rIndex K) := hK ▸ mt_index
end
end XL
set_option Elab.async false
set_option linter.all false
set_option maxRecDepth 100000
set_option maxHeartbeats 4000000
/-! XDel: del xs[a:]. -/
namespace XL
open PySem PySem.Spec PyProof.Rows L2
section
variable {prog : Program} {w : World} {A : Around} {E : Value → Shared → Prop} {s : Shared}
def selF (a n : Int) (i : Nat) : Bool := if (1 : Int) > 0 then a ≤ i && i < n && ((i : Int) - a) % 1 == 0 else n < i && i ≤ a && (a - i) % (-1) == 0
theorem selF_eq (a n i : Nat) : selF (a : Int) (n : Int) i = (decide (a ≤ i) && decide (i < n)) := by
  unfold selF
  rw [if_pos (by decide)]
  have h : (((i : Int) - (a : Int)) % 1 == 0) = true := by rw [Int.emod_one]; rfl
  rw [h, Bool.and_true]
  congr 1
  · exact decide_eq_decide.mpr Int.ofNat_le
  · exact decide_eq_decide.mpr Int.ofNat_lt
theorem zip_keep : ∀ (xs : List Value) (j a n : Nat), j + xs.length ≤ n → ((xs.zipIdx j).filterMap fun (p : Value × Nat) => if (selF (a : Int) (n : Int) p.2) = true then none else some p.1) = xs.take (a - j)
  | [], _, _, _, _ => by simp
  | x :: r, j, a, n, h => by
    rw [List.length_cons] at h
    rw [List.zipIdx_cons, List.filterMap_cons, selF_eq]
    have ih := zip_keep r (j + 1) a n (by omega)
    by_cases hj : a ≤ j
    · have e1 : (decide (a ≤ j) && decide (j < n)) = true := by rw [decide_eq_true hj, decide_eq_true (by omega)]; rfl
      have e0 : a - j = 0 := by omega
      have e2 : a - (j + 1) = 0 := by omega
      rw [e2, List.take_zero] at ih
      rw [e0, List.take_zero]
      simp only [e1, if_true]
      exact ih
    · have e1 : (decide (a ≤ j) && decide (j < n)) = false := by rw [decide_eq_false hj]; rfl
      have e0 : a - j = a - (j + 1) + 1 := by omega
      rw [e0, List.take_succ_cons, ← ih]
      simp only [e1, Bool.false_eq_true, if_false]
theorem bounds_from {a n : Nat} (h : a ≤ n) : sliceBounds (some (a : Int)) none none n = ((a : Int), (n : Int), 1) := by
  simp only [sliceBounds, Option.getD_none]
  have h1 : ¬ ((a : Int) < 0) := by omega
  simp only [h1, if_false, show (1 : Int) > 0 by decide, if_true]
  congr 1
  omega
/-- list.__delitem__ with a slice from a place on -/
theorem delItem_from {l sl : Addr} {items : Array Value} {n : Nat} {vl : Value} {a : Nat} {Q : Unit → Shared → Prop}
    (e : s.heap.get? l = some { cls := .type "list", data := .seq items n }) (hs : s.heap.IsSliceOf sl vl .none .none) (pl : IsPart vl (some (a : Int))) (hac : a ≤ items.size) (hsz : items.size ≤ sizeLine)
    (h : Q () { s with heap := s.heap.update l (Obj.mapSeq fun xs => (xs.toList.zipIdx.filterMap fun (p : Value × Nat) => if (selF (a : Int) (items.size : Int) p.2) = true then none else some p.1).toArray) }) :
    wpAny (model prog w) A (delItem (.ref l) (.ref sl)) Q E s := by
  have hl : s.heap.IsList l items := PySem.IsL.isList e
  obtain ⟨os, hos, hcs, hds⟩ := id hs
  have hTs : s.TypeIs (.ref sl) "slice" := ⟨os, hos, hcs⟩
  have hstep : ¬ ((rawPart none == rawInt 0) = true) := Bool.false_ne_true
  have hz' : ((fun xs : Array Value => (xs.toList.zipIdx.filterMap fun (p : Value × Nat) => if (selF (a : Int) (items.size : Int) p.2) = true then none else some p.1).toArray) items).size ≤ sizeLine + 1 := by
    show (_ : List Value).toArray.size ≤ _
    rw [List.size_toArray, zip_keep items.toList 0 a items.size (by rw [Array.length_toList]; omega), List.length_take, Array.length_toList]
    omega
  unfold delItem
  try with_reducible refine wpAny_holding ?_
  first | refine wpAny_bind (wpAny_pure ?_) | skip
  refine wpAny_bind (wpAny_sequenceKey hl.typeIs (by decide) ?_)
  refine wpAny_bind (wpAny_callSpecial?_slot (name := Str.ofString "__delitem__") hl.typeIs PySem.F.slot_list_delitem
    (wpAny_call_entry PySem.F.slot_list_delitem hl.typeIs PySem.F.entry_list_delitem ?_ (PySem.F.args_list_delitem_2 _ _)))
  show wpAny _ _ (Builtin.List.listSubscript? (.ref sl) >>= _) _ _ s
  refine wpAny_bind ?_
  unfold Builtin.List.listSubscript?
  refine wpAny_bind (wpAny_specialOf hTs slice_no_index ?_)
  simp only [Option.isNone_none, if_true]
  refine wpAny_pure ?_
  show wpAny _ _ (typeOf (.ref sl) >>= _) _ _ s
  refine wpAny_bind (wpAny_typeOf hTs ?_)
  first
    | rw [if_neg (by decide)]
    | refine PySem.W.KFB.if_not (by decide) ?_
  rw [listSliceParts_eq]
  refine wpAny_bind (wpAny_bind (wpAny_field hos hds (x := .none) rfl (wpAny_bind (wpAny_listPart .none ?_))))
  rw [if_neg hstep]
  refine wpAny_bind (wpAny_field hos hds (x := vl) rfl (wpAny_bind (wpAny_listPart pl ?_)))
  refine wpAny_bind (wpAny_field hos hds (x := .none) rfl (wpAny_bind (wpAny_listPart .none (wpAny_pure ?_))))
  unfold Builtin.List.listItems
  refine wpAny_bind (wpAny_bind (wpAny_seqItems e rfl (wpAny_pure ?_)))
  refine wpAny_bind (wpAny_of_eq ((sliceIndices_raw (some (a : Int)) none none items.size (by simp)).trans (congrArg (pure : Int × Int × Int → Sem (Int × Int × Int)) (bounds_from hac))) ?_)
  refine wpAny_bind (wpAny_rule ?_)
  show wpAny _ _ (updateSeq l (fun xs => (xs.toList.zipIdx.filterMap fun (p : Value × Nat) => if (selF (a : Int) (items.size : Int) p.2) = true then none else some p.1).toArray) >>= _) _ _ s
  refine wpAny_bind (wpAny_updateSeq (hz := hsz) (_hz' := hz') e rfl ?_)
  refine wpAny_bind (wpAny_letGo ?_)
  first
    | exact wpAny_bind (wpAny_pure (wpAny_pure ⟨.none, rfl, wpAny_pure h⟩))
    | exact wpAny_pure ⟨.none, rfl, wpAny_pure h⟩
end
section
variable {X : Cx} {pos : Pos}
def tDelF (to ti : TE) : TS := fun D σ H => to σ H fun x H1 => ti σ H1 fun y H2 => ∃ (l : Addr) (xs : List V) (k : Nat), x = .ref l ∧ y = .int (k : Nat) ∧ H2 l = some (.lst xs) ∧ k ≤ xs.length ∧ D.nx σ (upd H2 l (.lst (xs.take k)))
theorem ps_delFrom {o lo : Expr} {to ti : TE} {p2 tpos : Pos} (ho : PE X o to) (hi : PE X lo ti) : PS X (.Delete [.Subscript o (.Slice (some lo) none none p2) tpos] pos) (tDelF to ti) := by
  refine ⟨fun pins s σ H D I h => ?_⟩
  refine wpAny_Delete (wpAny_deleteEach_cons (wpAny_delete_Subscript (thn (ho.run pins s σ H _ I h) fun u s1 ⟨x, H1, I1, rx, q1⟩ => ?_)))
  refine wpAny_Slice (wpAny_evalPart_some (thn (hi.run pins s1 σ H1 _ I1 q1) fun iv s2 ⟨y, H2, I2, ry, q2⟩ => wpAny_evalPart_none (wpAny_evalPart_none ?_)))
  obtain ⟨l, xs, k, rfl, rfl, hH, hk, q2⟩ := q2
  cases (show u = Value.ref l from rx)
  obtain ⟨t, rfl⟩ := (show ∃ t, iv = Value.int (k : Nat) t from ry)
  have I4 : L2.Inv X pins σ H2 { s2 with heap := s2.heap.push { cls := .type "slice", data := .fields #[.int (k : Nat) t, .none, .none] } } := I2.kept (t' := s2.toks) fun b ob q => Heap.get?_push_of_some _ q
  obtain ⟨z, its, n, r, hl, e⟩ := I4.lstM hH
  refine delItem_from (a := k) e (Heap.IsSliceOf.new ..) (.int _ _) (by rw [List.size_toArray, ← hl]; exact hk) (by rw [List.size_toArray]; omega) ?_
  refine wpAny_deleteEach_nil ⟨σ, _, I4.lset (its' := its.take k) (t' := s2.toks) hH e ?_ (r.take k) ?_, q2⟩
  · show (_ : List Value).toArray = _
    rw [zip_keep its 0 k _ (by rw [List.size_toArray]; omega)]
    rfl
  · rw [List.length_take]
    omega
end
theorem Sep.setAt {G H : Hp} {M : List (Addr × HO)} {i : Nat} {a : Addr} {o o' : HO} (S : Sep G M H) (h : M[i]? = some (a, o)) : Sep G (M.set i (a, o')) (upd H a o') := by
  have hi := (List.getElem?_eq_some_iff.mp h).1
  have S1 := S.perm (perm_erase h).symm
  have S2 := S1.set (o' := o')
  have e : (M.set i (a, o'))[i]? = some (a, o') := List.getElem?_set_self hi
  have p := perm_erase e
  rw [List.eraseIdx_set_eq] at p
  exact S2.perm p
end XL
namespace XL
open PySem PySem.Spec PyProof.Rows L2
/-! ### a text, several times -/
def repS (x : Str) (k : Nat) : Str := ⟨(List.replicate k x.cps).foldl (· ++ ·) #[]⟩
theorem foldl_cps : ∀ (k : Nat) (a : Array Nat) (x : Array Nat), ((List.replicate k x).foldl (· ++ ·) a).toList = a.toList ++ (List.replicate k x.toList).flatten
  | 0, a, x => by simp
  | k + 1, a, x => by
    rw [List.replicate_succ, List.foldl_cons, foldl_cps k, List.replicate_succ, List.flatten_cons]
    simp
theorem repS_tl (x : Str) (k : Nat) : (repS x k).cps.toList = (List.replicate k x.cps.toList).flatten := by
  have := foldl_cps k #[] x.cps
  simpa [repS] using this
theorem repS_len (x : Str) : ∀ k : Nat, (repS x k).length = k * x.length := by
  intro k
  rw [len_tl, repS_tl]
  induction k with
  | zero => simp
  | succ k ih =>
    rw [List.replicate_succ, List.flatten_cons, List.length_append, ih, ← len_tl, Nat.succ_mul]
    omega
theorem repS_mem {x : Str} {k c : Nat} (h : c ∈ (repS x k).cps.toList) : c ∈ x.cps.toList := by
  rw [repS_tl] at h
  obtain ⟨l, hl, hc⟩ := List.mem_flatten.mp h
  rw [(List.mem_replicate.mp hl).2] at hc
  exact hc
def yMulS : R2 := fun x y H Q => match x, y with
  | .str z, .int k => 2 ≤ k ∧ k ≤ 1000 ∧ 1 ≤ z.length ∧ z.length ≤ 1000 ∧ Q (.str (repS z k.toNat)) H
  | _, _ => False
theorem op_mulS {X : Cx} : OpR X (binaryOp .Mult) yMulS := by
  intro pins s σ H x y v u Q I rx ry h
  unfold yMulS at h
  split at h
  · rename_i z k
    obtain ⟨h1, h2, h3, h4, q⟩ := h
    obtain ⟨t, rfl⟩ := rx
    obtain ⟨t', rfl⟩ := ry
    have hk : ¬ k < 1 := by omega
    have hc : (k == 1 || z.length == 0) = false := by
      rw [Bool.or_eq_false_iff]
      exact ⟨beq_eq_false_iff_ne.mpr (by omega), beq_eq_false_iff_ne.mpr (by omega)⟩
    have hl : z.length * k.toNat ≤ 1000 * 1000 := Nat.mul_le_mul h4 (by omega)
    refine P.mul_str (by rw [decide_eq_false (by omega), decide_eq_false (by omega)]; rfl) (fun _ _ h => ?_) (fun _ _ => ?_) ?_
    · have : (z.length : Int) ≤ (2 ^ 63 - 1) / k := by
        rw [Int.le_ediv_iff_mul_le (by omega)]
        have e : (z.length : Int) * k = ((z.length * k.toNat : Nat) : Int) := by rw [Int.natCast_mul, Int.toNat_of_nonneg (by omega)]
        rw [e]
        omega
      omega
    · unfold Builtin.Str.tooLong
      exact decide_eq_false (by rw [sizeLine_eq]; omega)
    · rw [if_neg hk, if_neg (by rw [hc]; decide)]
      refine ⟨?_, .str (repS z k.toNat), H, I.tok _, ⟨_, rfl⟩, q⟩
      show (repS z k.toNat).length ≤ sizeLine
      rw [repS_len, sizeLine_eq, Nat.mul_comm]
      omega
  · exact h.elim
end XL
set_option Elab.async false
set_option linter.all false
set_option maxRecDepth 100000
set_option maxHeartbeats 4000000
/-! XPage: x in o by an own __contains__. -/
namespace XL
open PySem PySem.Spec PyProof.Rows L2
section
variable {X : Cx} {CX : CXT} {C f : Addr} {fd : FuncData} {ps : List Str} {sp : Sp} {E : XK} {n : Nat}
def yInO (C : Addr) (sp : Sp) (E : XK) (ng : Bool) : R2 := fun x y H Q => ∃ a dx fs, y = .ref a ∧ H a = some (.ins C dx fs) ∧ sp [.ref a, x] H (fun v H' => match v with
  | .bl b => Q (.bl (if ng = true then !b else b)) H'
  | _ => False) E
theorem op_inO (F : FnOk X.prog X.w X.K X.mg X.base CX n f fd ps sp) (hs : PySem.W.findIn X.K (.ref C) "__contains__" = some (some (.ref f))) (hf : PySem.W.isFn X.K (.ref f) = true) (hb : Binds X.K fd ps []) (hx : Passes CX X E) (hr : Room n X.A) : OpR X (compareOp .In) (yInO C sp E false) := by
  intro pins s σ H x y u v Q I rx ry h
  obtain ⟨a, dx, fs, rfl, ha, hsp⟩ := h
  cases ry
  obtain ⟨mA, J1, _⟩ := ins_get I.hok ha
  obtain ⟨od, J1, _⟩ := J1.look
  obtain ⟨m, hF⟩ := I.fr
  refine PySem.W.in_K hF I.ok.mod.kin J1 hs hf (wpAny_mono (run_fn (us := [.ref a, u]) (vs := [.ref a, x]) (dvs := []) F hr hb .nil hx I (.cons rfl (.cons rx .nil)) hsp) (fun r s' q => ?_) fun _ _ e => e)
  obtain ⟨z, H', I', rz, q⟩ := q
  cases z with
  | bl b =>
    cases rz
    exact wpAny_truthy_bool ⟨.bl b, H', I', rfl, q⟩
  | _ => exact q.elim
theorem op_ninO (F : FnOk X.prog X.w X.K X.mg X.base CX n f fd ps sp) (hs : PySem.W.findIn X.K (.ref C) "__contains__" = some (some (.ref f))) (hf : PySem.W.isFn X.K (.ref f) = true) (hb : Binds X.K fd ps []) (hx : Passes CX X E) (hr : Room n X.A) : OpR X (compareOp .NotIn) (yInO C sp E true) := by
  intro pins s σ H x y u v Q I rx ry h
  obtain ⟨a, dx, fs, rfl, ha, hsp⟩ := h
  cases ry
  obtain ⟨mA, J1, _⟩ := ins_get I.hok ha
  obtain ⟨od, J1, _⟩ := J1.look
  obtain ⟨m, hF⟩ := I.fr
  refine PySem.W.notIn_K hF I.ok.mod.kin J1 hs hf (wpAny_mono (run_fn (us := [.ref a, u]) (vs := [.ref a, x]) (dvs := []) F hr hb .nil hx I (.cons rfl (.cons rx .nil)) hsp) (fun r s' q => ?_) fun _ _ e => e)
  obtain ⟨z, H', I', rz, q⟩ := q
  cases z with
  | bl b =>
    cases rz
    exact wpAny_truthy_bool ⟨.bl (!b), H', I', rfl, q⟩
  | _ => exact q.elim
end
theorem _root_.L2.Room.u190 {k : Nat} {A : Around} (r : L2.Room k A) : A.units + 190 < cLine := by have := r.un; omega
/-! ### == and != of data of up to 190 levels, and of plain values -/
def rNeL (K : PySem.W.Frag) : R2 := fun x y H Q => ∃ d e, Dp K H x d ∧ Dp K H y e ∧ d.canLay0 = true ∧ e.canLay0 = true ∧ d.depth ≤ 190 ∧ Q (.bl (!PyData.eqv d e)) H
theorem op_neL {X : Cx} (K : PySem.W.Frag) (hu : X.A.units + 190 < cLine) (hK : X.K = K := by rfl) : OpR X (compareOp .NotEq) (rNeL K) := by
  subst hK
  intro pins s σ H x y v u Q I rx ry h
  obtain ⟨d, e, hd, he, sd, se, dp, q⟩ := h
  obtain ⟨as, r1⟩ := Dp.reads I d x v hd rx
  obtain ⟨bs, r2⟩ := Dp.reads I e y u he ry
  exact SeqAt.compareNe_reads r1 r2 sd se (by have := Nat.min_le_left d.depth e.depth; omega) ⟨.bl _, H, I, rfl, q⟩
def yEqL (K : PySem.W.Frag) : R2 := fun x y H Q => match x, y with
  | .int i, .int j => Q (.bl (decide (i = j))) H
  | .str i, .str j => Q (.bl (decide (i = j))) H
  | .bl i, .bl j => Q (.bl (decide (i = j))) H
  | .ref a, .ref b => rEqL K (.ref a) (.ref b) H Q
  | x, y => scal x y = true ∧ Q (.bl (decide (x = y))) H
def yNeL (K : PySem.W.Frag) : R2 := fun x y H Q => match x, y with
  | .int i, .int j => Q (.bl (!decide (i = j))) H
  | .str i, .str j => Q (.bl (!decide (i = j))) H
  | .bl i, .bl j => Q (.bl (!decide (i = j))) H
  | .ref a, .ref b => rNeL K (.ref a) (.ref b) H Q
  | x, y => scal x y = true ∧ Q (.bl (!decide (x = y))) H
theorem op_eqLK {X : Cx} (K : PySem.W.Frag) (hu : X.A.units + 190 < cLine) (hK : X.K = K := by rfl) : OpR X (compareOp .Eq) (yEqL K) := by
  refine or_str (OpR.or (op_eq (X := X)) (op_eqL K hu hK)) fun x y H Q h => ?_
  unfold yEqL at h
  split at h
  · exact .inl ⟨rfl, by rw [deci]; exact h⟩
  · exact .inl ⟨rfl, by rw [decs]; exact h⟩
  · exact .inl ⟨rfl, by rw [decb]; exact h⟩
  · exact .inr h
  · exact .inl h
theorem op_neLK {X : Cx} (K : PySem.W.Frag) (hu : X.A.units + 190 < cLine) (hK : X.K = K := by rfl) : OpR X (compareOp .NotEq) (yNeL K) := by
  refine or_str (OpR.or (op_ne (X := X)) (op_neL K hu hK)) fun x y H Q h => ?_
  unfold yNeL at h
  split at h
  · exact .inl ⟨rfl, by rw [deci]; exact h⟩
  · exact .inl ⟨rfl, by rw [decs]; exact h⟩
  · exact .inl ⟨rfl, by rw [decb]; exact h⟩
  · exact .inr h
  · exact .inl h
end XL
set_option Elab.async false
set_option linter.all false
set_option maxRecDepth 100000
set_option maxHeartbeats 4000000
/-! XCnt: xs.count(x) of data. -/
namespace XL
open PySem PySem.Spec PyProof.Rows L2
theorem _root_.L2.Room.u65 {k : Nat} {A : Around} (r : L2.Room k A) : A.units + 65 < cLine := by have := r.un; omega
def rCntD (K : PySem.W.Frag) : V → List V → Hp → VK → Prop := fun x xs H Q => ∃ (a : Addr) (y : V) (ys : List V) (d : PyData) (ds : List PyData), x = V.ref a ∧ xs = [y] ∧ SqL K H a ys ∧ DpAll K H ys ds ∧ Dp K H y d ∧
  PyData.canLayAll0 ds = true ∧ SeqAt.shaped d = true ∧ Q (.int ((ds.countP fun z => PyData.eqv z d : Nat) : Int)) H
theorem mt_countD {X : Cx} (K : PySem.W.Frag) (hu : X.A.units + 65 < cLine) (h : X.K = K := by rfl) : MtR X "list.count" (rCntD K) := by
  subst h
  intro pins s σ H x xs v us Q I rx rxs h
  obtain ⟨a, y, ys, d, ds, rfl, rfl, hs, ha, hy, hxs, sd, q⟩ := h
  cases rx
  cases rxs with
  | cons ry rt =>
    rename_i uy ut
    cases rt
    obtain ⟨bs, r1⟩ := Dp.reads I d y uy hy ry
    have hroom : X.A.units + 1 + min (PyData.depthAll ds) d.depth < cLine := room_in_shaped sd hu
    obtain ⟨its, rv, ⟨⟨cls, dd, data, sl⟩, n, ho, hc, hdn, hd⟩, hlen⟩ := I.list hs
    simp only at hc hd
    subst hc hd
    obtain ⟨as, h4⟩ := Dp.readsAll I ds _ its ha rv
    have hmap : its.map (SeqAt.readOf s.heap) = ds := SeqAt.readsAll_map ds its as hxs h4
    refine call_meets PySem.F.slot_list_count ⟨_, ho, rfl⟩ PySem.F.entry_list_count (PySem.F.args_list_count_2 _ _)
      (SeqAt.list_countAt a its.toArray n dd sl uy (fun u => PyData.eqv (SeqAt.readOf s.heap u) d)) ⟨ho, SeqAt.items_eqAt (vs := its.toArray) (show ReadsAll s.heap its.toArray.toList ds as from h4) r1 hxs (SeqAt.canLay_of_shaped sd) hroom, ?_⟩
    have ec : its.toArray.toList.countP (fun u => PyData.eqv (SeqAt.readOf s.heap u) d) = ds.countP fun z => PyData.eqv z d := by
      rw [← hmap, List.countP_map]
      rfl
    refine ⟨.int ((ds.countP fun z => PyData.eqv z d : Nat) : Int), H, I.tok _, ⟨s.toks, ?_⟩, q⟩
    show Value.int ((its.toArray.toList.countP (fun u => PyData.eqv (SeqAt.readOf s.heap u) d) : Nat) : Int) s.toks = Value.int ((ds.countP fun z => PyData.eqv z d : Nat) : Int) s.toks
    rw [ec]
end XL
set_option Elab.async false
set_option linter.all false
set_option maxRecDepth 100000
set_option maxHeartbeats 4000000
/-! XIn: x in l, l a list, items data of up to 185 levels. -/
namespace XL
open PySem PySem.Spec PyProof.Rows L2
def rInL (K : PySem.W.Frag) : R2 := fun x y H Q => ∃ d ds, Dp K H x d ∧ Dp K H y (.list ds) ∧ d.canLay0 = true ∧ d.depth ≤ 185 ∧ PyData.canLayAll0 ds = true ∧ Q (.bl (ds.any fun z => PyData.eqv z d)) H
theorem in_deepLK {X : Cx} (K : PySem.W.Frag) (hu : X.A.units + 190 < cLine) (h : X.K = K := by rfl) : OpR X (compareOp .In) (rInL K) := by
  subst h
  intro pins s σ H x y v u Q I rx ry h
  obtain ⟨d, ds, hd, he, sd, dp, se, q⟩ := h
  obtain ⟨as, r1⟩ := Dp.reads I d x v hd rx
  obtain ⟨bs, r2⟩ := Dp.reads I (.list ds) y u he ry
  exact SeqAt.in_list_reads r2 r1 se sd (by have := Nat.min_le_right (PyData.depthAll ds) d.depth; omega) ⟨.bl _, H, I, rfl, q⟩
end XL
set_option Elab.async false
set_option linter.all false
set_option maxRecDepth 100000
set_option maxHeartbeats 4000000
/-! XPat: tuples that are put together and cut. -/
namespace XL
open PySem PySem.Spec PyProof.Rows L2
section
variable {K : PySem.W.Frag} {G H : Hp} {M : List (Addr × HO)} {a b : Addr} {xs ys : List V} {Q : VK}
theorem op_catAK {X : Cx} (K : PySem.W.Frag) (h : X.K = K := by rfl) : OpR X (binaryOp .Add) (rCatA K) := h ▸ op_catA
theorem cat_ok (S : Sep G M H) (ha : SqT K G a xs) (hb : SqT K G b ys) (hl : xs.length + ys.length ≤ sizeLine) (q : ∀ c G' H', Same G G' → SqT K G' c (xs ++ ys) → Sep G' M H' → Q (.ref c) H') : rCatA K (.ref a) (.ref b) H Q := by
  refine ⟨a, b, xs, ys, rfl, rfl, S.t ha, S.t hb, hl, fun e => ?_, fun _ e => ?_, fun _ _ p np => ?_⟩
  · subst e
    exact q b G H (Same.refl G) hb S
  · subst e
    exact q a G H (Same.refl G) (by rw [List.append_nil]; exact ha) S
  · exact q p _ _ (S.grow np) (SqT.of upd_same) (S.newG np)
theorem cutA_ok {lo hi : Option Int} (S : Sep G M H) (ha : SqT K G a xs) (q : ∀ c G' H', Same G G' → SqT K G' c (cutV xs lo hi) → Sep G' M H' → Q (.ref c) H') : rSlA K (.ref a) lo hi H Q := by
  refine ⟨a, xs, rfl, S.t ha, fun e => ?_, fun _ p np => ?_⟩
  · refine q a G H (Same.refl G) ?_ S
    have : cutV xs lo hi = xs := by
      unfold cutV
      rw [e.1, e.2, Nat.sub_zero, List.drop_zero, List.take_length]
    rw [this]
    exact ha
  · exact q p _ _ (S.grow np) (SqT.of upd_same) (S.newG np)
end
theorem sqT_ty {K : PySem.W.Frag} {H : Hp} {a : Addr} {xs : List V} (h : SqT K H a xs) : TyX K H (.ref a) (.type "tuple") := by
  rcases h with (h | ⟨o, h⟩) | ⟨o, _, _, h, c, _⟩
  · exact .base (.tup h)
  · exact .fTuple h
  · exact .kTuple h c
end XL
set_option Elab.async false
set_option linter.all false
set_option maxRecDepth 100000
set_option maxHeartbeats 4000000
/-! XRepr: repr of tuples (and of lists of plain values) whatever other repr is under way: some text of a known length at most. -/
namespace PySem
open Sem
/-- a piece: whatever is under way, some text of at most B signs -/
def RX (prog : Program) (w : World) (h₀ : Heap) (d B : Nat) (x : Value) : Prop :=
  ∀ (base : Nat), base + B ≤ sizeLine → ∀ (A : Around) (g : List Code) (E : Value → Shared → Prop) (s : Shared) (Q : Str → Shared → Prop), A.guards = some g → A.units + d < cLine → (∀ b o, h₀.get? b = some o → s.heap.get? b = some o) →
    (∀ t h' tk, t.length ≤ B → (∀ b o, s.heap.get? b = some o → h'.get? b = some o) → Q t { s with heap := h', toks := tk }) → wpAny (model prog w) A (pyReprUnder base x) Q E s
inductive RXs (prog : Program) (w : World) (h₀ : Heap) (d : Nat) : List Value → Nat → Prop
  | nil : RXs prog w h₀ d [] 0
  | cons {x : Value} {B C : Nat} {l : List Value} : RX prog w h₀ d B x → RXs prog w h₀ d l C → RXs prog w h₀ d (x :: l) (B + 2 + C)
section
variable {prog : Program} {w : World} {h₀ : Heap} {d : Nat}
theorem RX.leaf {x : Value} {t : Str} {B : Nat} (h : ReprIs prog w x t) (hl : t.length ≤ B) : RX prog w h₀ d B x :=
  fun base hb A _ E s Q _ _ _ hQ => h base (by omega) A E s Q fun tk => hQ t s.heap tk hl fun _ _ e => e
theorem RX.level {x : Value} {B d' : Nat} (h : RX prog w h₀ d B x) (hd : d ≤ d') : RX prog w h₀ d' B x :=
  fun base hb A g E s Q hg hu hk hQ => h base hb A g E s Q hg (by omega) hk hQ
theorem RXs.level {l : List Value} {C d' : Nat} (h : RXs prog w h₀ d l C) (hd : d ≤ d') : RXs prog w h₀ d' l C := by
  induction h with
  | nil => exact .nil
  | cons h1 _ ih => exact .cons (h1.level hd) ih
theorem wpAny_tupFoldX {A : Around} {g : List Code} {E : Value → Shared → Prop} (hg : A.guards = some g) (hu : A.units + d < cLine) : ∀ (l : List Value) (C : Nat) (acc : Array Str) (n : Nat) (s : Shared) (Q : (Array Str × Nat) → Shared → Prop), RXs prog w h₀ d l C → n + C ≤ sizeLine →
    (∀ b o, h₀.get? b = some o → s.heap.get? b = some o) → (∀ ts h' tk, ts.length = l.length → piled ts ≤ C → (∀ b o, s.heap.get? b = some o → h'.get? b = some o) → Q ⟨acc ++ ts.toArray, n + piled ts⟩ { s with heap := h', toks := tk }) →
    wpAny (model prog w) A (forIn l (⟨acc, n⟩ : (Array Str × Nat)) tupBody) Q E s := by
  intro l
  induction l with
  | nil =>
    intro C acc n s Q hT _ _ h
    have h0 := h [] s.heap s.toks rfl (by simp [piled]) fun _ _ e => e
    simp only [List.forIn_nil]
    exact wpAny_pure (by simpa [piled] using h0)
  | cons x l ih =>
    intro C acc n s Q hT hn hk0 h
    cases hT with
    | @cons _ B C' _ hx hl =>
      rw [List.forIn_cons]
      refine wpAny_bind (wpAny_bind (hx (n + 1) (by omega) _ _ _ _ _ hg hu hk0 fun t h' tk ht hkp => wpAny_pure ?_))
      refine ih C' (acc.push t) (n + (t.length + 2)) _ Q hl (by omega) (fun b o e => hkp _ _ (hk0 _ _ e)) fun ts h'' tk' hts hp hk2 => ?_
      have h1 := h (t :: ts) h'' tk' (by simp [hts]) (by rw [piled_cons]; omega) fun b o e => hk2 _ _ (hkp _ _ e)
      have e : n + piled (t :: ts) = n + (t.length + 2) + piled ts := by rw [piled_cons]; omega
      rw [e] at h1
      simpa using h1
theorem tupleText_le (ts : List Str) : (tupleText ts).length ≤ piled ts + 3 := by
  unfold tupleText
  rw [strLen_append, strLen_append]
  have e1 : ((("(" : String) : Str)).length = 1 := rfl
  have e3 : (((if ts.length == 1 then ",)" else ")" : String) : Str)).length ≤ 2 := by split <;> decide
  rw [e1]
  by_cases h : ts = []
  · subst h
    have : (Str.join ", " ([] : List Str)).length = 0 := rfl
    omega
  · have := join_length_add ts h
    omega
theorem wpOwn_tuple_reprX {a : Addr} {o : Obj} {items : Array Value} {n C : Nat}
    (ha : h₀.get? a = some o) (hc : o.cls = .type "tuple") (hd : o.data = .seq items n) (hT : RXs prog w h₀ d items.toList C)
    {A : Around} {g : List Code} {s : Shared} {R : Result → Shared → Prop} {base : Nat} {id : String} {rest : List Value}
    (hcg : (Code.builtin id ⟨.ref a :: rest, []⟩).isGuard = true) (hcu : (A.under (.builtin id ⟨.ref a :: rest, []⟩)).units = A.units + 1)
    (hg : A.guards = some g) (hu : A.units + (d + 1) < cLine) (hk0 : ∀ b o, h₀.get? b = some o → s.heap.get? b = some o)
    (hR : ∀ t h' u tk, t.length ≤ C + 7 → (∀ b o, s.heap.get? b = some o → h'.get? b = some o) → R (.ok (.ret (.str t u))) { s with heap := h', toks := tk })
    (hsz : base + (C + 7) ≤ sizeLine) :
    wpOwn (model prog w) A (.builtin id ⟨.ref a :: rest, []⟩) (Builtin.tupleReprAt base ⟨[.ref a], []⟩) (fun fin s' => match fin with | .done f => R (.ok f) s' | .again c' => c'.quiet = true ∧ codeAny (model prog w) A c' R s') (fun e s' => R (.error e) s') s := by
  rw [tuple_repr_tree, tupleReprUnderWay_eq]
  refine wpOwn_bind (wpOwn_stackTailAny hg (tupGuardF_off _) (tupGuardF_pos _) ?_)
  cases hn : (g.any fun c => tupGuardF (.ref a) (c, default)) with
  | true =>
    refine wpOwn_of_wpAny ?_
    show wpAny _ _ (do rule "tuple.repr.in-itself"; retStr "(...)") _ _ s
    refine wpAny_bind (wpAny_rule ?_)
    unfold retStr
    refine wpAny_bind (wpAny_mkStr (wpAny_pure ?_) (by decide))
    exact hR "(...)" s.heap s.toks (s.toks + 1) (by have : (("(...)" : String) : Str).length = 5 := rfl; omega) (fun _ _ e => e)
  | false =>
    refine wpOwn_of_wpAny ?_
    show wpAny _ _ (tupleReprRest base (.ref a)) _ _ s
    unfold tupleReprRest Builtin.Tuple.tupleItemsOf
    refine wpAny_bind (wpAny_bind (wpAny_seqItems (hk0 _ _ ha) hd (wpAny_pure ?_)))
    rw [← Array.forIn_toList]
    refine wpAny_bind (wpAny_tupFoldX (guards_under_guard hcg hg) (by rw [hcu]; omega) _ C _ _ _ _ hT (by omega) hk0 fun ts h' tk hts hp hkp => ?_)
    have hlen : ts.length = items.size := by simpa using hts
    have hle := tupleText_le ts
    unfold retStr
    refine wpAny_bind (wpAny_mkStr (wpAny_pure ?_) (by
      have : (tupleText ts).length ≤ sizeLine := by omega
      simpa [tupleText, hlen] using this))
    have h1 := hR (tupleText ts) h' tk (tk + 1) (by omega) hkp
    simpa [tupleText, hlen] using h1
theorem RX.tup {a : Addr} {o : Obj} {items : Array Value} {n C : Nat} (ha : h₀.get? a = some o) (hc : o.cls = .type "tuple") (hd : o.data = .seq items n) (hT : RXs prog w h₀ d items.toList C) : RX prog w h₀ (d + 1) (C + 7) (.ref a) := by
  intro base hb A g E s Q hg hu hk0 hQ
  refine wpAny_pyReprUnder_ref (by omega) (wpAny_pyReprObjUnder_twin (twin := "tuple.__repr__.under") ⟨o, hk0 _ _ ha, hc⟩ F.slot_tuple_repr rfl (by omega) ?_)
  exact call_twin_own (F.quiet_tuple_repr_under _) F.entry_tuple_repr_under F.check_tuple_repr_under ⟨o, hk0 _ _ ha, hc⟩ F.slot_tuple_repr (F.args_tuple_repr_1 _)
    (wpOwn_tuple_reprX (R := callEnd _ E) ha hc hd hT (isGuard_tuple_repr_under _) (units_under_tuple_repr_under _ _) hg hu hk0 (fun t h' u tk ht hk => ⟨⟨_, _, rfl⟩, _, _, rfl, hQ t h' tk ht hk⟩) (by omega))
/-- at the top -/
theorem top_tup {a : Addr} {o : Obj} {items : Array Value} {n C : Nat} (ha : h₀.get? a = some o) (hc : o.cls = .type "tuple") (hd : o.data = .seq items n) (hT : RXs prog w h₀ d items.toList C)
    {A : Around} {g : List Code} {E : Value → Shared → Prop} {s : Shared} {Q : Value → Shared → Prop} (hg : A.guards = some g) (hu : A.units + (d + 1) < cLine) (hk0 : ∀ b o, h₀.get? b = some o → s.heap.get? b = some o)
    (hQ : ∀ t h' u tk, t.length ≤ C + 7 → (∀ b o, s.heap.get? b = some o → h'.get? b = some o) → Q (.str t u) { s with heap := h', toks := tk }) (hsz : C + 7 ≤ sizeLine) : wpAny (model prog w) A (pyReprObj (.ref a)) Q E s := by
  refine wpAny_pyReprObj_slot (by omega) ⟨o, hk0 _ _ ha, hc⟩ F.slot_tuple_repr ?_
  exact wpAny_call (codeAny_call_builtin_own (Code.quiet_builtin _ (by decide +kernel)) F.entry_tuple_repr (F.slot_tuple_repr.check _ _ _ _ _ _ _ _ ⟨o, hk0 _ _ ha, hc⟩ (F.args_tuple_repr_1 _)
    (wpOwn_tuple_reprX (base := 0) (R := callEnd _ E) ha hc hd hT (isGuard_tuple_repr _) (units_under_tuple_repr _ _) hg hu hk0 (fun t h' u tk ht hk => ⟨_, _, rfl, hQ t h' u tk ht hk⟩) (by omega))))
/-! lists of plain values -/
theorem wpAny_list_repr_in {M : Model} {A : Around} {E : Value → Shared → Prop} {s : Shared} {Q : Fin → Shared → Prop} {a : Addr} {o : Obj} {x : Value} {l : List Value} {n} {b : Nat}
    (hget : s.heap.get? a = some o) (hd : o.data = .seq (x :: l).toArray n)
    (h1 : wpAny M A (do again (.builtin "list.__repr__.loop" ⟨[.ref a, rawInt 0, ← newList [], rawInt b], []⟩)) Q E s) (h2 : wpAny M A (do rule "list.repr.in-itself"; retStr "[...]") Q E s) : wpAny M A (Builtin.listReprAt b ⟨[.ref a], []⟩) Q E s := by
  intro Γ p hΓ
  have h1 := h1 Γ p hΓ
  have h2 := h2 Γ p hΓ
  unfold Builtin.listReprAt
  simp [slotArgs, Builtin.List.listItems, seqItems?, wp_load_of (h := hget), hd, stack]
  show wp M Γ (if (Γ.below.any _) = true then _ else _) _ _ p s
  split
  · simpa using h2
  · exact h1
end
/-- what is not known of what is under way may be said -/
theorem wpAny_guards {α : Type} {M : Model} {A : Around} {m : Sem α} {Q : α → Shared → Prop} {E : Value → Shared → Prop} {s : Shared} (h : ∀ g, wpAny M { A with guards := some g } m Q E s) : wpAny M A m Q E s := by
  intro Γ p hΓ
  exact h (Γ.code.guards ++ guardsOf Γ.below) Γ p ⟨hΓ.1, hΓ.2.1, hΓ.2.2.1, fun g hg => by cases hg; rfl, hΓ.2.2.2.2⟩
end PySem
set_option Elab.async false
set_option linter.all false
set_option maxRecDepth 100000
set_option maxHeartbeats 4000000
/-! XExcD: errors that tell data of any depth in their message ({x!r}). -/
namespace PySem
open Sem
/-- data without dicts, lists of plain values alone -/
def plainD : PyData → Bool
  | .none => true
  | .bool _ => true
  | .int _ => true
  | .str _ => true
  | _ => false
mutual
def okR : PyData → Bool
  | .tuple xs => okRs xs
  | .list xs => xs.all plainD
  | .dict _ => false
  | _ => true
def okRs : List PyData → Bool
  | [] => true
  | x :: r => okR x && okRs r
end
mutual
/-- how long the text can be -/
def tbR : PyData → Nat
  | .tuple xs => tbRs xs + 7
  | d => d.shown.length + 7
def tbRs : List PyData → Nat
  | [] => 0
  | x :: r => tbR x + 2 + tbRs r
end
section
variable {prog : Program} {w : World} {h₀ : Heap}
theorem leaf_is {v : Value} {d : PyData} {as : List Addr} (r : Reads h₀ v d as) (hp : plainD d = true) (hs : d.showable = true) (hz : d.shown.length ≤ sizeLine) : ReprIs prog w v d.shown := by
  cases r with
  | none => simpa only [PyData.shown] using ReprIs.none
  | bool b => simpa only [PyData.shown] using ReprIs.bool b
  | int i t => simpa only [PyData.shown] using ReprIs.int t (by simpa [PyData.showable] using hs)
  | str x t => simpa only [PyData.shown] using ReprIs.str x t (by simpa only [PyData.shown] using hz)
  | list _ _ _ _ => cases hp
  | tuple _ _ _ _ => cases hp
  | dict _ _ _ _ _ => cases hp
theorem leaves_are : ∀ {vs : List Value} {ds : List PyData} {as : List Addr}, ReadsAll h₀ vs ds as → ds.all plainD = true → PyData.showableAll ds = true → (∀ t ∈ PyData.shownAll ds, t.length ≤ sizeLine) →
    (PyData.shownAll ds).length = vs.length ∧ ∀ (i : Nat) (y : Value), vs[i]? = some y → ∃ t, (PyData.shownAll ds)[i]? = some t ∧ ReprIs prog w y t
  | _, _, _, .nil, _, _, _ => ⟨by simp [PyData.shownAll], fun i y h => by simp at h⟩
  | _, _, _, .cons (d := d) (ds := ds) h1 h2, hp, hs, hz => by
    rw [List.all_cons, Bool.and_eq_true] at hp
    simp only [PyData.showableAll, Bool.and_eq_true] at hs
    simp only [PyData.shownAll, List.mem_cons] at hz
    obtain ⟨e1, e2⟩ := leaves_are h2 hp.2 hs.2 fun t ht => hz t (.inr ht)
    refine ⟨by simp only [PyData.shownAll, List.length_cons, e1], fun i y h => ?_⟩
    simp only [PyData.shownAll]
    cases i with
    | zero =>
      rw [List.getElem?_cons_zero] at h
      cases h
      exact ⟨_, rfl, leaf_is h1 hp.1 hs.1 (hz _ (.inl rfl))⟩
    | succ i =>
      rw [List.getElem?_cons_succ] at h ⊢
      exact e2 i y h
theorem wpAny_list_reprX {a : Addr} {oa : Obj} {x : Value} {l : List Value} {na : Nat} {ts : List Str} {A : Around} {s : Shared} {R : Result → Shared → Prop} {base : Nat}
    (ha : s.heap.get? a = some oa) (hda : oa.data = .seq (x :: l).toArray na) (hlen : ts.length = (x :: l).toArray.size) (hT : ∀ (i : Nat) (y : Value), (x :: l).toArray[i]? = some y → ∃ t, ts[i]? = some t ∧ ReprIs prog w y t)
    (hR : ∀ t h' u tk, t.length ≤ (listText ts).length + 7 → (∀ b o, s.heap.get? b = some o → h'.get? b = some o) → R (.ok (.ret (.str t u))) { s with heap := h', toks := tk }) (hsz : base + ((listText ts).length + 7) ≤ sizeLine) :
    wpAny (model prog w) A.in1 (Builtin.listReprAt base ⟨[.ref a], []⟩) (fun fin s' => match fin with | .done f => R (.ok f) s' | .again c' => c'.quiet = true ∧ codeAny (model prog w) A c' R s') (fun e s' => R (.error e) s') s := by
  refine wpAny_list_repr_in ha hda ?_ ?_
  · refine wpAny_bind (m := newList []) (wpAny_newObj_type ?_)
    refine wpAny_pure ⟨F.quiet_list_repr_loop _, ?_⟩
    refine codeAny_list_repr_start (P := s.heap.objs.size) (Nat.ne_of_lt (Heap.lt_size ha)) hlen hT (Heap.get?_push_of_some _ ha) hda (Heap.get?_push_size _ rfl) (fun h' u tk hk => ?_) (by omega)
    exact hR _ h' u tk (by omega) fun b o e => hk b o (Nat.ne_of_lt (Heap.lt_size e)) (Heap.get?_push_of_some _ e)
  · refine wpAny_bind (wpAny_rule ?_)
    unfold retStr
    refine wpAny_bind (wpAny_mkStr (wpAny_pure ?_) (by decide))
    exact hR "[...]" s.heap s.toks (s.toks + 1) (by have : (("[...]" : String) : Str).length = 5 := rfl; omega) (fun _ _ e => e)
mutual
theorem rx_of : ∀ {d : PyData} {v : Value} {as : List Addr}, Reads h₀ v d as → okR d = true → d.showable = true → tbR d ≤ sizeLine → RX prog w h₀ d.depth (tbR d) v
  | .none, _, _, r, _, hs, hz => .leaf (leaf_is r rfl hs (by simp only [tbR] at hz; omega)) (by simp only [tbR]; omega)
  | .bool b, _, _, r, _, hs, hz => .leaf (leaf_is r rfl hs (by simp only [tbR] at hz; omega)) (by simp only [tbR]; omega)
  | .int i, _, _, r, _, hs, hz => .leaf (leaf_is r rfl hs (by simp only [tbR] at hz; omega)) (by simp only [tbR]; omega)
  | .str x, _, _, r, _, hs, hz => .leaf (leaf_is r rfl hs (by simp only [tbR] at hz; omega)) (by simp only [tbR]; omega)
  | .dict _, _, _, _, ho, _, _ => by simp [okR] at ho
  | .tuple xs, _, _, .tuple (a := a) h1 h2 h3 h4, ho, hs, hz => by
    simp only [okR] at ho
    simp only [PyData.showable] at hs
    simp only [tbR] at hz ⊢
    have h := rxs_of h4 ho hs (by omega)
    exact RX.tup h1 h2 h3 h
  | .list xs, _, _, .list (a := a) (vs := vs) h1 h2 h3 h4, ho, hs, hz => by
    simp only [okR] at ho
    simp only [PyData.showable] at hs
    simp only [tbR, PyData.shown] at hz ⊢
    obtain ⟨e1, e2⟩ := leaves_are (prog := prog) (w := w) h4 ho hs fun t ht => Nat.le_trans (listText_mem_le ht) (by omega)
    intro base hb A g E s Q hg hu hk0 hQ
    simp only [PyData.depth] at hu
    obtain ⟨l⟩ := vs
    cases l with
    | nil =>
      refine wpAny_pyReprUnder_ref (by omega) (wpAny_pyReprObjUnder_list_empty ⟨_, hk0 _ _ h1, h2⟩ (by omega) (hk0 _ _ h1) h3 ⟨_, _, rfl, hQ "[]" s.heap _ ?_ fun _ _ e => e⟩)
      have : (("[]" : String) : Str).length = 2 := rfl
      omega
    | cons x l =>
      refine wpAny_pyReprUnder_ref (by omega) (wpAny_pyReprObjUnder_twin (twin := "list.__repr__.under") ⟨_, hk0 _ _ h1, h2⟩ F.slot_list_repr.toG rfl (by omega) ?_)
      exact call_twin_plain F.plain_list_repr_under F.entry_list_repr_under F.check_list_repr_under ⟨_, hk0 _ _ h1, h2⟩ F.slot_list_repr.toG (F.args_list_repr_1 _)
        (wpAny_list_reprX (R := callEnd _ E) (hk0 _ _ h1) h3 (by simpa using e1) (fun i y e => e2 i y (by simpa using e)) (fun t h' u tk ht hk => ⟨⟨_, _, rfl⟩, _, _, rfl, hQ t h' tk ht hk⟩) hb)
theorem rxs_of : ∀ {ds : List PyData} {vs : List Value} {as : List Addr}, ReadsAll h₀ vs ds as → okRs ds = true → PyData.showableAll ds = true → tbRs ds ≤ sizeLine → RXs prog w h₀ (PyData.depthAll ds) vs (tbRs ds)
  | [], _, _, .nil, _, _, _ => .nil
  | d :: ds, _, _, .cons h1 h2, ho, hs, hz => by
    simp only [okRs, Bool.and_eq_true] at ho
    simp only [PyData.showableAll, Bool.and_eq_true] at hs
    simp only [tbRs] at hz ⊢
    simp only [PyData.depthAll]
    have a := rx_of h1 ho.1 hs.1 (by omega)
    have b := rxs_of h2 ho.2 hs.2 (by omega)
    exact .cons (a.level (Nat.le_max_left _ _)) (b.level (Nat.le_max_right _ _))
end
end
namespace XExc
open PySem.W PySem.Calls PyProof.Rows PySem.HandSPX
/-- repr(v), whatever is under way -/
structure Td (prog : Program) (w : World) (h₀ : Heap) (v : Value) : Prop where
  run : ∀ (A : Around) (E : Value → Shared → Prop) (s : Shared) (Q : Value → Shared → Prop), A.units + 70 < cLine → (∀ b o, h₀.get? b = some o → s.heap.get? b = some o) →
    (∀ y h' u tk, y.length ≤ 100000 → (∀ b o, s.heap.get? b = some o → h'.get? b = some o) → Q (.str y u) { s with heap := h', toks := tk }) → wpAny (model prog w) A (pyReprObj v) Q E s
theorem Td.keeps {prog : Program} {w : World} {h₀ h₁ : Heap} {v : Value} (t : Td prog w h₀ v) (k : ∀ b o, h₀.get? b = some o → h₁.get? b = some o) : Td prog w h₁ v := ⟨fun A E s Q hu hk hQ => t.run A E s Q hu (fun b o e => hk b o (k b o e)) hQ⟩
theorem td_of {prog : Program} {w : World} {h₀ : Heap} {v : Value} {d : PyData} {as : List Addr} (r : Reads h₀ v d as) (ho : okR d = true) (hs : d.showable = true) (hz : tbR d ≤ 100000) (hd : d.depth ≤ 64) : Td prog w h₀ v := by
  have z : ∀ n : Nat, n ≤ 200000 → n ≤ sizeLine := fun n hn => Nat.le_trans hn (by decide)
  refine ⟨fun A E s Q hu hk hQ => ?_⟩
  cases r with
  | none =>
    exact pyReprObj_none (hQ "None" s.heap _ _ (by have : (("None" : String) : Str).length = 4 := rfl; omega) fun _ _ e => e)
  | bool b =>
    exact pyReprObj_bool (hQ _ s.heap _ _ (by cases b <;> decide) fun _ _ e => e)
  | int i t =>
    simp only [tbR, PyData.shown] at hz
    exact pyReprObj_int (by simpa [PyData.showable] using hs) (hQ _ s.heap _ _ (by omega) fun _ _ e => e)
  | str x t =>
    simp only [tbR, PyData.shown] at hz
    exact pyReprObj_str (hQ _ s.heap _ _ (by omega) fun _ _ e => e) (z _ (by omega))
  | @tuple a o vs n xs as h1 h2 h3 h4 =>
    simp only [okR] at ho
    simp only [PyData.showable] at hs
    simp only [tbR] at hz
    simp only [PyData.depth] at hd
    refine wpAny_guards fun g => ?_
    exact top_tup h1 h2 h3 (rxs_of h4 ho hs (z _ (by omega))) rfl (show A.units + (PyData.depthAll xs + 1) < cLine by omega) hk (fun t h' u tk ht hk' => hQ t h' u tk (by omega) hk') (z _ (by omega))
  | @list a o vs n xs as h1 h2 h3 h4 =>
    simp only [okR] at ho
    simp only [PyData.showable] at hs
    simp only [tbR, PyData.shown] at hz
    simp only [PyData.depth] at hd
    obtain ⟨e1, e2⟩ := leaves_are (prog := prog) (w := w) h4 ho hs fun t ht => Nat.le_trans (listText_mem_le ht) (z _ (by omega))
    obtain ⟨l⟩ := vs
    cases l with
    | nil => exact wpAny_pyReprObj_list_empty ⟨_, hk _ _ h1, h2⟩ (by omega) (hk _ _ h1) h3 (hQ "[]" s.heap _ _ (by have : (("[]" : String) : Str).length = 2 := rfl; omega) fun _ _ e => e)
    | cons x l =>
      refine wpAny_pyReprObj_slot (by omega) ⟨_, hk _ _ h1, h2⟩ F.slot_list_repr.toG ?_
      exact wpAny_call (codeAny_call_builtin F.slot_list_repr.plain F.entry_list_repr (F.slot_list_repr.check _ _ _ _ _ _ _ _ ⟨_, hk _ _ h1, h2⟩ (F.args_list_repr_1 _)
        (wpAny_list_reprX (base := 0) (R := callEnd _ E) (hk _ _ h1) h3 (by simpa using e1) (fun i y e => e2 i y (by simpa using e)) (fun t h' u tk ht hk' => ⟨_, _, rfl, hQ t h' u tk (by omega) hk'⟩) (z _ (by omega)))))
  | @dict a o es n kvs as bs h1 h2 h3 h4 h5 => simp [okR] at ho
def cvOf (o : Obj) : Int := match o.data with
  | .func fd => (match fd.body with
    | .stmts ((.Expr (.Call _ (.JoinedStr (_ :: .FormattedValue _ cv _ _ :: _) _ :: _) _ _) _) :: _) => cv
    | _ => 0)
  | _ => 0
/-- the message shows the thing by its repr -/
def CvR (K : Frag) (fI : Addr) : Prop := ∃ o, K.lookup fI = some o ∧ cvOf o = 114
theorem CvR.eq {K : Frag} {fI : Addr} {oc kV doc pm ct : Value} {od an : Option Addr} {osl : Array (Option Value)} {qual fld msg : Str} {cda cc : Addr} {p1 p2 : Pos} {q : Ps} (h : CvR K fI)
    (ho : K.lookup fI = some ⟨oc, od, .func (ksFn "__init__" qual (iA fld p1 p2) (iB fld msg q) (iS fld) .none kV doc pm an (.ref cda) ct cc), osl⟩) : q.cv = 114 := by
  obtain ⟨o, h1, h2⟩ := h
  rw [ho] at h1
  cases h1
  exact h2
section
variable {prog : Program} {w : World} {A : Around} {E : Value → Shared → Prop} {s : Shared}
theorem told_okD {fld msg : Str} {env : Env} {q : Ps} {m : Str → Option Value} {v : Value} {h₀ : Heap} {Q : Value → Shared → Prop} (hn : s.heap.Ns env.locals m) (hv : m fld = some v) (ecv : q.cv = 114) (hr : Td prog w h₀ v) (hk0 : ∀ b o, h₀.get? b = some o → s.heap.get? b = some o) (hu : A.units + 80 < cLine)
    (hml : msg.length ≤ 1000) (hk : env.scope.kind = .function) (hl : env.kindOf fld = some .local) (hd : (fld == ("__debug__" : Str)) = false)
    (h : ∀ u tk h', (∀ b o, s.heap.get? b = some o → h'.get? b = some o) → Q u { s with heap := h', toks := tk }) : wpAny (model prog w) A (eval (iArg fld msg q) env) Q E s := by
  unfold iArg
  have sm : ∀ n : Nat, n ≤ 200000 → n ≤ sizeLine := fun n hn => Nat.le_trans hn (by decide)
  rw [ecv]
  refine wpAny_JoinedStr ?_
  have e0 : evalEach [Expr.Constant (.str msg) 0 q.d, .FormattedValue (.Name fld q.e) 114 none q.f] env = [eval (.Constant (.str msg) 0 q.d) env, eval (.FormattedValue (.Name fld q.e) 114 none q.f) env] := by first | rfl | simp [evalEach]
  rw [e0]
  refine Calls.Constant_str ⟨msg, _, rfl, ?_, ?_⟩
  · rw [Str.length_append]
    exact sm _ (by show 0 + msg.length ≤ _; omega)
  refine wpAny_FormattedValue_repr (ESX.ldL hn hv ?_ hk hl hd)
  refine hr.run _ _ _ _ ?hU hk0 fun y h' u tk hy hk' => ?_
  case hU => first | (show A.units + 70 < cLine; omega) | (simp [Around.under, Around.in1, Code.cUnits]; omega)
  have hl : (Str.empty ++ msg ++ y).length ≤ sizeLine := by
    rw [Str.length_append, Str.length_append]
    exact sm _ (by show 0 + msg.length + _ ≤ _; omega)
  have out : ∀ (tk : Tok) (tt : Nat), ∃ (y' : Str) (t' : Tok), Value.str y tk = .str y' t' ∧ (Str.empty ++ msg ++ y').length ≤ sizeLine ∧ Joins (model prog w) A E [] (Str.empty ++ msg ++ y') (fun out s₁ => out.length ≤ sizeLine ∧ Q (.str out s₁.toks) { s₁ with toks := s₁.toks + 1 }) { s with heap := h', toks := tt } := fun tk tt => ⟨_, _, rfl, hl, hl, h _ _ h' hk'⟩
  exact wpAny_formatField_str (out _ _) (out _ _) (sm _ (by omega))
end
section
variable {prog : Program} {w : World} {A : Around} {E : Value → Shared → Prop} {R : Result → Shared → Prop} {K : Frag} {mg mb : Str → Option Value} {nm fld msg : Str} {C fI : Addr}
theorem exc_initD (hcv : CvR K fI) (T : ExTxt prog K mg nm fld msg C fI) {x t0 : Addr} {v : Value} {hp : Heap} {g : Array GenState} {dr : Drawn} {tk : Nat} {os : OsState} (X : K.In hp) (hlim : hp.NoLimit) (hG : hp.Ns mainGlobals mg) (hB : hp.Ns builtinsNs mb) (hbb : ∀ x : Str, x ≠ "__name__" → mb x = bootBuiltins x)
    (hx : hp.get? x = some (excO C t0)) (hnx : K.lookup x = none) (hroom : A.depth < recursionLimit) (hun : A.units + 90 < cLine) (hr : Td prog w hp v)
    (hq : ∀ h' tk' dx, InitEnd hp h' x C dx fld v → R (.ok (.ret .none)) ⟨h', g, dr, tk', os⟩) :
    codeAny (model prog w) A (.call (.ref fI) ⟨[.ref x, v], []⟩) R ⟨hp, g, dr, tk, os⟩ := by
  obtain ⟨oc, kV, doc, pm, ct, od, an, osl, qual, cda, cc, p1, p2, q, vs, file, tf, ccl, cl, cdd, cld, ccs, csl, ho, hcd, hcda, hvs, hfile, hcc, ⟨pl, hev⟩, hbind⟩ := T.fn
  obtain ⟨nm', q', N, bs, bm, sn, sub, ab, col, dd, k0, k1, k2, k3, k5, hC, hbm⟩ := T.cls
  have hcl : clsIn K C = some { name := nm', bases := bs, mro := .ref C :: bm, ns := N, qualname := q', hasDict := true, slotNames := sn, subclasses := sub, abstract := ab, collection := col, hasDel := false } := by unfold clsIn; rw [hC] <;> rfl
  have e1 : (iS fld).names.lookup fld = some .local := by
    show (iN fld).lookup fld = _
    unfold iN
    have z : (fld == PySem.Str.ofString "self") = false := by simpa using T.f1
    simp [List.lookup, z]
  have e2 : (iS fld).names.lookup ("self" : Str) = some .local := rfl
  have e3 : (iS fld).names.lookup ("__class__" : Str) = some .free := by
    show (iN fld).lookup ("__class__" : Str) = _
    unfold iN
    have z : (("__class__" : Str) == fld) = false := by simpa using Ne.symm T.f2
    have z2 : (("__class__" : Str) == PySem.Str.ofString "self") = false := by decide
    simp [List.lookup, z, z2]
  have e4 : (iS fld).names.lookup ("super" : Str) = some .globalImplicit := by
    show (iN fld).lookup ("super" : Str) = _
    unfold iN
    have z : (("super" : Str) == fld) = false := by simpa using Ne.symm T.f3
    have z2 : (("super" : Str) == PySem.Str.ofString "self") = false := by decide
    have z3 : (("super" : Str) == PySem.Str.ofString "__class__") = false := by decide
    simp [List.lookup, z, z2, z3]
  refine ks_codeAny_call_defAt (fd := ksFn "__init__" qual (iA fld p1 p2) (iB fld msg q) (iS fld) .none kV doc pm an (.ref cda) ct cc) (body := iB fld msg q) (binds := [("self", .ref x), (fld, v)]) hroom (X _ _ ho) rfl hlim (codeRec_of X hcd) rfl (BindsTo.of_eq (hbind _ _)) ?_ ?_ (fun h₁ hn k => ?_) rfl rfl rfl
  · intro y hy
    have hy : y ∈ iN fld := hy
    unfold iN at hy
    simp only [List.mem_cons, List.not_mem_nil, or_false] at hy
    rcases hy with rfl | rfl | rfl | rfl <;> exact fun z => nomatch z
  · intro y hy
    simp only [List.mem_cons, List.not_mem_nil, or_false] at hy
    rcases hy with rfl | rfl
    · exact e2
    · exact e1
  have X₁ : K.In h₁ := X.keeps k
  have hxL : hp.objs.size ≠ x := Nat.ne_of_gt (Heap.lt_size hx)
  have hx₁ := k _ _ hx
  have mS : List.lookup ("self" : Str) (List.reverse [(("self" : Str), Value.ref x), (fld, v)]) = some (.ref x) := by
    show List.lookup ("self" : Str) [(fld, v), (("self" : Str), Value.ref x)] = _
    have z : (("self" : Str) == fld) = false := by simpa using Ne.symm T.f1
    simp [List.lookup, z]
  have mF : List.lookup fld (List.reverse [(("self" : Str), Value.ref x), (fld, v)]) = some v := by
    show List.lookup fld [(fld, v), (("self" : Str), Value.ref x)] = _
    simp [List.lookup]
  refine ks_wpAt_execs_cons (ks_wpAt_Expr_any (ks_wpAt_MethodCall (o := iSup q) (name := "__init__") (he := hev _) ?_))
  have oC := X₁ _ _ hC
  refine ks_wpAt_super_base (env := callEnv (ksFn "__init__" qual (iA fld p1 p2) (iB fld msg q) (iS fld) .none kV doc pm an (.ref cda) ct cc) hp.objs.size fI) e4 e3 (by decide) rfl (X₁ _ _ ho) rfl rfl rfl (X₁ _ _ hcda) rfl hvs hfile T.htop ?_
  refine ks_loadName_global rfl e4 (loadGlobal_builtin (hG.keeps k) T.hsup (hB.keeps k) ((hbb _ (by decide +kernel)).trans (by first | boot_by_name | rfl | kernel_rfl)) ⟨rfl, ?_⟩)
  refine wpAny_loadName_free rfl e3 rfl ⟨_, X₁ _ _ hcc, rfl⟩ ?_
  refine wpAny_loadName_local rfl e2 hn mS ?_
  refine ks_wpAny_isType_cls oC rfl ⟨rfl, ?_⟩
  refine ks_wpAny_call_super oC rfl hx₁ rfl (fun c e => (nomatch e)) (looks_mroIn X₁ T.mroS) (fun h₂ hso k₂ => ?_)
  have X₂ : K.In h₂ := X₁.keeps k₂
  have hx₂ := k₂ _ _ hx₁
  have hsup : alongIn K "__init__" (((Value.ref C :: bm).dropWhile (· != .ref C)).drop 1) = some (some (.builtin "ValueError.__init__")) := by
    have z := T.sup
    unfold ks_superIn at z
    rw [hcl] at z
    exact z
  have I₂ : InstAt h₂ x (excO C t0) C none := ⟨hx₂, rfl, rfl, trivial⟩
  refine kxs_getMethod kxs_ValueError hso (looks_opaque X₂ T.opq) (l₀ := .ref C :: bm) ?_ rfl X₂ hsup (I₂.type.andThen (looks_subIn X₂ T.subV)) (ks_ne X₂ I₂ hcl) (by decide) ?_
  · exact fun A Q E s k q => wpAny_bind ((looks_clsIn X₂ hcl) A _ E s k (wpAny_pure q))
  have hu : (h₂.push (kxs_mw "ValueError.__init__" x)).get? h₂.objs.size = some (kxs_mw "ValueError.__init__" x) := Heap.get?_push_at rfl rfl
  have k₃ : ∀ b o, h₂.get? b = some o → (h₂.push (kxs_mw "ValueError.__init__" x)).get? b = some o := fun b o e => Heap.get?_push_of_some _ e
  have X₃ := X₂.keeps k₃
  have hn₃ : (h₂.push (kxs_mw "ValueError.__init__" x)).Ns hp.objs.size _ := (hn.keeps k₂).keeps k₃
  refine kxs_callWith (i := "ValueError.__init__") (x := x) rfl (evalArgs_plain ?_)
  show wpAny _ _ (spliced ((false, eval (iArg fld msg q) _) :: backTo q.h (starEach [] _))) _ _ _
  refine Calls.spliced_cons (told_okD hn₃ mF (hcv.eq ho) hr (fun b o e => k₃ _ _ (k₂ _ _ (k _ _ e))) ?hU T.ml rfl e1 T.f4 fun u tk' h' k' => Calls.spliced_nil ⟨k' _ _ hu, ?_⟩)
  case hU => first | exact hun | (show A.units + _ + 80 < cLine; omega) | (simp [Around.under, Around.in1, Code.cUnits]; omega)
  have k3' : ∀ b o, h₂.get? b = some o → h'.get? b = some o := fun b o e => k' _ _ (k₃ _ _ e)
  show wpAny _ _ (call (.ref h₂.objs.size) [u]) _ _ _
  refine call_mw (k' _ _ (X₃ _ _ hC)) (k3' _ _ hx₂) (k' _ _ hu) (one_size _) fun h₄ t1 k₄ sz₄ hx₄ => ?_
  show wpAt _ _ _ (execs _ _) _ _ _
  refine wpAt_of_wpAny ?_
  have X₄ : K.In h₄ := kept_but (X₃.keeps k') hnx k₄
  have hn₄ : h₄.Ns hp.objs.size (fun x_1 => List.lookup x_1 (List.reverse [(("self" : Str), Value.ref x), (fld, v)])) := by
    obtain ⟨oL, es, ep, hL, r⟩ := hn₃.keeps k'
    exact ⟨oL, es, ep, k₄ _ _ hxL hL, r⟩
  refine wpAny_execs_cons (plainObj_wpAny_Assign_Attribute ?_)
  refine ESX.ldL hn₄ mF (ESX.ldL hn₄ mS ?_ rfl e2) rfl e1 T.f4
  refine set_plain X₄ (ox := excO C t1) (od := none) ⟨hx₄, rfl, rfl, trivial⟩ T.sa ?_
  refine exc_osa X₄ hx₄ hcl (show refsVE (.ref C :: bm) = true from hbm) rfl T.noN (fun h₅ tk₅ dx k₅ dn dne hx₅ hn₅ => ?_)
  show wpAny _ _ (execs _ _) _ _ _
  have z : hp.objs.size < h₄.objs.size := hn₄.lt
  exact wpAny_execs_nil (hq h₅ tk₅ dx ⟨fun b o hb e => k₅ b o hb (k₄ b o hb (k3' b o (k₂ b o (k b o e)))), ⟨t1, hx₅⟩, Nat.le_of_lt (Nat.lt_of_lt_of_le z dn), dne, hn₅⟩)
theorem exc_madeD (hcv : CvR K fI) (T : ExTxt prog K mg nm fld msg C fI) {v : Value} {hp : Heap} {g : Array GenState} {dr : Drawn} {tk : Nat} {os : OsState} (X : K.In hp) (hlim : hp.NoLimit) (hG : hp.Ns mainGlobals mg) (hB : hp.Ns builtinsNs mb) (hbb : ∀ x : Str, x ≠ "__name__" → mb x = bootBuiltins x) (hroom : A.depth + 1 < recursionLimit) (hun : A.units + 95 < cLine) (hr : Td prog w hp v)
    (hq : ∀ h' tk' e d, OwnMade hp h' e C d fld v → R (.ok (.ret (.ref e))) ⟨h', g, dr, tk', os⟩) :
    codeAny (model prog w) A (.call (.ref C) ⟨[v], []⟩) R ⟨hp, g, dr, tk, os⟩ := by
  obtain ⟨nm', q', N, bs, bm, sn, sub, ab, col, dd, k0, k1, k2, k3, k5, hC, hbm⟩ := T.cls
  have k : ∀ b o, hp.get? b = some o → ((hp.push (kdv_tup [v])).push (excO C hp.objs.size)).get? b = some o := fun b o e => Heap.get?_push_of_some _ (Heap.get?_push_of_some _ e)
  have hget : ((hp.push (kdv_tup [v])).push (excO C hp.objs.size)).get? (hp.objs.size + 1) = some (excO C hp.objs.size) := by heap_get
  have hnx : K.lookup (hp.objs.size + 1) = none := by
    cases e : K.lookup (hp.objs.size + 1) with
    | none => rfl
    | some o =>
      have z : hp.get? (hp.objs.size + 1) = some o := X _ _ e
      exact absurd (Nat.lt_of_succ_lt (Heap.lt_size z)) (Nat.lt_irrefl _)
  refine call_own F.excBase_ValueError (fun X => refsVE_contains X bm hbm) (X _ _ hC) (looks_findIn X T.iC) (fun self => bind_fn X self T.tC) (one_size v) ?_
  refine exc_initD (tk := tk) hcv T (X.keeps k) (hlim.keeps k) (hG.keeps k) (hB.keeps k) hbb hget hnx ?_ ?hU (hr.keeps k) fun h' tk' dx ⟨k', ⟨t1, hx⟩, dn, dne, hns⟩ => ?_
  case hU => first | (show A.units + 90 < cLine; omega) | (show A.units + 1 + 90 < cLine; omega) | (simp [Around.under, Around.in1, Code.cUnits]; omega)
  · show A.depth + 1 < recursionLimit
    exact hroom
  · have old : ∀ b o, hp.get? b = some o → h'.get? b = some o := fun b o e => k' b o (Nat.ne_of_lt (Nat.lt_succ_of_lt (Heap.lt_size e))) (k b o e)
    have z : hp.objs.size + 1 + 1 ≤ dx := by
      first
        | (simpa only [Heap.size_push] using dn)
        | exact dn
        | (have q := dn; rw [Heap.size_push, Heap.size_push] at q; exact q)
    exact ⟨rfl, hq h' tk' (hp.objs.size + 1) dx ⟨old, Nat.le_succ _, ⟨_, _, hx, rfl, rfl, rfl, rfl⟩, Nat.le_trans (Nat.le_trans (Nat.le_succ _) (Nat.le_succ _)) z, dne, hns⟩⟩
end
end XExc
end PySem
namespace XL
open PySem PySem.Spec PyProof.Rows L2
/-- what can be told: data of bounded size -/
def RpD (K : PySem.W.Frag) (H : Hp) (v : V) : Prop := ∃ d, Dp K H v d ∧ okR d = true ∧ d.showable = true ∧ tbR d ≤ 100000 ∧ d.depth ≤ 64
theorem RpD.td {X : Cx} {pins : List (Addr × Obj)} {σ : L2.St} {H : Hp} {s : Shared} {v : V} {u : Value} (I : Inv X pins σ H s) (h : RpD X.K H v) (r : RelV v u) : PySem.XExc.Td X.prog X.w s.heap u := by
  obtain ⟨d, hd, h1, h2, h3, h4⟩ := h
  obtain ⟨as, rd⟩ := Dp.reads I d v u hd r
  exact PySem.XExc.td_of rd h1 h2 h3 h4
section
variable {X : Cx} {C fI : Addr} {nm fld msg : Str}
def tMkD (K : PySem.W.Frag) (C : Addr) (fld : Str) (ta : TA) : L2.St → Hp → XK → Prop := fun σ H Q => ta σ H fun vs H1 => ∃ v, vs = [v] ∧ RpD K H1 v ∧ ∀ d, H1 d = none → Q (.ref C) (some d) (upd H1 d (.xd [(fld, v)]))
theorem pmk_xD {a : Expr} {ta : TA} {p pos : Pos} {k : Nat} (hcv : PySem.XExc.CvR X.K fI) (T : PySem.XExc.ExTxt X.prog X.K X.mg nm fld msg C fI) (hr : Room (k + 1) X.A) (ha : PA X [a] ta) (hg : Gl X nm := by rfl) (hd : (nm == ("__debug__" : Str)) = false := by decide)
    (he : starEach (a :: []) X.env = (false, eval a X.env) :: starEach [] X.env := by rfl) (hpl : (backTo pos (starEach [] X.env)).any (·.1) = false := by rfl) :
    PMk X (.Call (.Name nm p) [a] [] pos) (tMkD X.K C fld ta) := by
  intro pins s σ H Q I h
  refine wpAny_Call_Name_kw (ld_glob I hg T.gC ?_ hd)
  refine PySem.W.callWith_K (h₀ := X.base) I.ok.mod.kin T.kC (thn (ha.run pos pins s σ H _ I h) fun us s1 hh => ?_) he hpl
  obtain ⟨vs, H1, I1, r1, v, ev, rp, q1⟩ := hh
  subst ev
  refine ⟨I1.kIn, ?_⟩
  cases r1 with
  | cons rv rn =>
    rename_i v' us'
    cases rn
    show wpAny _ _ (call (.ref C) [v']) _ _ _
    have hlim := I1.nolimit
    have hG := I1.mod.glob.keeps I1.bk
    obtain ⟨mb, hB, hbb⟩ := I1.mod.blt
    have hB := hB.keeps I1.bk
    obtain ⟨hp, g, dr, tk, os⟩ := s1
    refine wpAny_call (PySem.XExc.exc_madeD hcv T I1.kIn hlim hG hB hbb (by have := hr.dp; omega) (by have := hr.un; omega) (RpD.td I1 rp rv) fun h' tk' e d M => ?_)
    show MkP X pins σ Q (.ref e) ⟨h', g, dr, tk', os⟩
    obtain ⟨oe, fv, hoe, hc, hd, hdat, h1⟩ := M.obj
    have hns := M.ns
    obtain ⟨G', g1, g2⟩ := restrict h' fun b => decide (b ≠ e)
    have gk : ∀ b, b ≠ e → G'.get? b = h'.get? b := fun b hb => g1 b (decide_eq_true hb)
    have ge : G'.get? e = none := g2 e (by simp)
    have old : ∀ b o, hp.get? b = some o → G'.get? b = some o := fun b o q => (gk b (Nat.ne_of_lt (Nat.lt_of_lt_of_le (Heap.lt_size q) M.new))).trans (M.keep b o q)
    have ob : ObjOk X.prog X.w (upd H1 d (.xd [(fld, v)])) G' d (.xd [(fld, v)]) :=
      ⟨_, hns.at (fun o q => (gk d M.dne).trans q), fun f => relO_one rv f⟩
    have J : Inv X pins σ (upd H1 d (.xd [(fld, v)])) ⟨G', g, dr, tk', os⟩ := I1.laid (t' := tk') old M.dbig ob
    refine ⟨e, oe, fv, ⟨G', g, dr, tk', os⟩, _, .ref C, some d, rfl, J, fun b o q => ?_, ge, hoe, ⟨hc, hd⟩, hdat, h1, ?_, rfl, I1.bare, raises_own T.exC T.tyC, q1 d (I1.hok.fresh M.dbig)⟩
    · by_cases hb : b = e
      · have q' : G'.get? b = some o := q
        rw [hb, ge] at q'; cases q'
      · exact (gk b hb).symm.trans q
    · rw [upd_ne (Ne.symm M.dne)]
      exact I1.hok.fresh M.new
def tRaiseD (K : PySem.W.Frag) (C : Addr) (fld : Str) (W : WX) (ta : TA) : TS := fun _ σ H => tMkD K C fld ta σ H fun cls d H' => W cls d σ H'
theorem ps_raiseD {a : Expr} {ta : TA} {W : WX} {p pos pos2 : Pos} {k : Nat} (hc : X.calm = true) (hcv : PySem.XExc.CvR X.K fI) (T : PySem.XExc.ExTxt X.prog X.K X.mg nm fld msg C fI) (hr : Room (k + 1) X.A) (tk : Takes X W) (ha : PA X [a] ta) (hg : Gl X nm := by rfl) (hd : (nm == ("__debug__" : Str)) = false := by decide)
    (he : starEach (a :: []) X.env = (false, eval a X.env) :: starEach [] X.env := by rfl) (hpl : (backTo pos (starEach [] X.env)).any (·.1) = false := by rfl) :
    PS X (.Raise (some (.Call (.Name nm p) [a] [] pos)) none pos2) (tRaiseD X.K C fld W ta) := ps_raise hc tk (pmk_xD hcv T hr ha hg hd he hpl)
end
end XL
set_option Elab.async false
set_option linter.all false
set_option maxRecDepth 100000
set_option maxHeartbeats 4000000
/-! XComp: a list comprehension whose element lets an error out (a call that may raise within the block). -/
namespace XL
open PySem PySem.Spec PyProof.Rows L2
/-- noting a frame looks at the environment's frame alone -/
theorem note_frame {M : Model} {A : Around} {e : Value} {env ce : Env} {Q : Unit → Shared → Prop} {E : Value → Shared → Prop} {s : Shared} (hf : ce.frame = env.frame) (h : wpAny M A (noteFrame e env) Q E s) : wpAny M A (noteFrame e ce) Q E s := by
  have q : noteFrame e ce = noteFrame e env := by
    unfold noteFrame PySem.frameOf
    rw [hf]
  rw [q]
  exact h
/-- noted -/
theorem sky_held {M : Model} {A : Around} {s : Shared} {B : Heap} {E₁ : Value → Shared → Prop} {env : Env} {outer : List Env} {L a : Addr} {Z : Obj → Prop} {Q : Unit → Shared → Prop} (hZ : HandSPX.Steady Z) (hfr : A.frames = some (env :: outer)) (hf : env.frame = some L)
    (fl : HandSPX.FlyingZ B (env :: outer) a Z s.heap) (hQ : ∀ h', HandSPX.HeldZ B (env :: outer) a Z L h' → s.heap.UpToSlots h' → Q () { s with heap := h' }) : wpAny M A (noteFrame (.ref a) env) Q E₁ s :=
  HandSPX.looks_onZ hZ hfr hf fl hQ
section
variable {X : Cx} {pins : List (Addr × Obj)} {σ : St} {H : Hp}
/-- an error out of the block at C of X: noted, its names let go, then on -/
theorem out_of_block {E : XK} (tk : Takes X (fun cls d _ H => E cls d H)) (hs : X.stack = X.env :: X.outer) (hf : X.env.frame = some X.env.locals) {C : Addr} {ce : Env} (hcf : ce.frame = X.env.frame) (cL : ce.locals = C)
    {s : Shared} (I : Inv X pins σ H s) (hC : FpOk X pins H C) (hn : ∃ m, s.heap.Ns C m) {e : Value} {s' : Shared} (c : L2.CX X.prog X.w X.stack H s E e s') :
    notedBy (model X.prog X.w) X.A ce (CompFails (model X.prog X.w) X.A X.xe ce) e s' := by
  obtain ⟨a, B, H', cls, d, rfl, fl, hok, ub, na, os, ag, w⟩ := c
  have hfr : X.A.frames = some (X.env :: X.outer) := by rw [I.ok.frames, hs]
  obtain ⟨hC0, hCL, hCf, hCx, hCc, hCp⟩ := hC
  have hCs : C ∉ frs X.stack := fun z => (List.mem_cons.mp (I.stkSub _ z)).elim hCL hCf
  obtain ⟨m, oC, es, ep, hoC, hdC, hkC, hfC⟩ := hn
  have hoC' : s'.heap.get? C = some oC := fl.1 _ _ (ub.keep _ _ hoC hC0 hCs)
  have hC' : H' C = none := ub.free _ _ hoC hC0
  have nfl : ∀ vs, oC.data ≠ .fields vs := fun vs z => by rw [hdC] at z; cases z
  have fl0 := fl
  rw [hs] at fl
  show wpAny _ _ (noteFrame (.ref a) ce) _ _ _
  refine note_frame hcf (sky_held Zc.steady hfr hf fl fun h1 hd1 up1 => ?_)
  obtain ⟨sl, hoC1⟩ := up1 _ _ hoC' nfl
  refine ⟨m, by rw [cL]; exact ⟨_, es, ep, hoC1, hdC, hkC, hfC⟩, fun h2 m2 hn2 sb => ?_⟩
  rw [cL] at hn2 sb
  -- the ground without C
  obtain ⟨B', b1, b2⟩ := restrict B fun b => decide (b ≠ C)
  have bB : ∀ b o, B'.get? b = some o → b ≠ C ∧ B.get? b = some o := fun b o q => by
    by_cases z : b = C
    · rw [b2 b (by simp [z])] at q; cases q
    · rw [b1 b (by simp [z])] at q; exact ⟨z, q⟩
  have hd2 : HandSPX.HeldZ B' (X.env :: X.outer) a (Zc cls d) X.env.locals h2 := by
    obtain ⟨k1, k2, k3, oe, vs, T, oT, ts, he, hz, hd, h1', hnT, hTe, hT, hdT, h3⟩ := hd1
    have other : ∀ b o, h1.get? b = some o → b ≠ C → h2.get? b = some o := fun b o q z => (sb.2 b z).trans q
    have nr : ∀ b o vs, h1.get? b = some o → o.data = .fields vs → b ≠ C := fun b o vs q dd z => by
      rw [z, hoC1] at q; cases q
      exact nfl vs dd
    refine ⟨fun b o q => other b o (k1 b o (bB b o q).2) (bB b o q).1, ?_, ?_, oe, vs, T, oT, ts, other _ _ he (nr _ _ _ he hd), hz, hd, h1', ?_, hTe, other _ _ hT (nr _ _ _ hT hdT), hdT, h3⟩
    · cases q : B'.get? a with
      | none => rfl
      | some o => rw [(bB a o q).2] at k2; cases k2
    · have nB : ∀ L ∈ frs (X.env :: X.outer), B'.get? L = none := fun L hL => by
        have z := (k3.mem hL).1
        cases q : B'.get? L with
        | none => rfl
        | some o => rw [(bB L o q).2] at z; cases z
      have kk : ∀ l : List Env, (∀ b ∈ frs l, b ≠ C) → h1.FunFrames B l → h2.FunFrames B l := by
        intro l
        induction l with
        | nil => intro _ _; trivial
        | cons env r ih =>
          intro hl hh
          obtain ⟨hk, ⟨L, o, hfL, hnL, hoL, hdL⟩, hr⟩ := hh
          refine ⟨hk, ⟨L, o, hfL, hnL, other _ _ hoL (hl L (List.mem_filterMap.mpr ⟨env, List.mem_cons_self, hfL⟩)), hdL⟩, ih (fun b hb => hl b ?_) hr⟩
          obtain ⟨e, he, q⟩ := List.mem_filterMap.mp hb
          exact List.mem_filterMap.mpr ⟨e, List.mem_cons_of_mem _ he, q⟩
      exact funFrames_none (kk _ (fun b hb z => hCs (by rw [hs]; rw [z] at hb; exact hb)) k3) nB
    · cases q : B'.get? T with
      | none => rfl
      | some o => rw [(bB T o q).2] at hnT; cases hnT
  obtain ⟨oe, vs, T, oT, ts, he, hz, hd, h1', hnT, hTe, hT, hdT, h3⟩ := id hd2.2.2.2
  unfold PySem.passOn
  refine wpAny_bind (wpAny_field he hd h1' ?_)
  rw [if_neg (show ¬ ((Value.ref T == Value.none) = true) from by simp)]
  have fin : wpAny (model X.prog X.w) X.A (setFlight (.ref a) ce.frame) (fun _ s4 => wpAny (model X.prog X.w) X.A (throw (.ref a) : Sem Value) (fun _ _ => False) X.xe s4) X.xe { s' with heap := h2 } := by
    rw [hcf, hf]
    refine HandSPX.setFlight_onZ hd2 fun h4 hd4 up4 => wpAny_throw (tk _ _ ?_)
    obtain ⟨G, g1, g2⟩ := restrict h4 fun b => (B'.get? b).isSome || decide (b ∈ frs X.stack)
    have st : B'.StaysIn h4 := hd4.1
    have gB : ∀ b o, B'.get? b = some o → G.get? b = some o := fun b o e => by
      rw [g1 b (by simp [e])]
      exact st b o e
    have gF : ∀ b, b ∈ frs X.stack → G.get? b = h4.get? b := fun b hb => g1 b (by simp [hb])
    have og : ∀ b o, G.get? b = some o → h4.get? b = some o ∧ ((B'.get? b).isSome = true ∨ b ∈ frs X.stack) := fun b o e => by
      cases q : ((B'.get? b).isSome || decide (b ∈ frs X.stack)) with
      | false => rw [g2 b q] at e; cases e
      | true =>
        rw [g1 b q] at e
        exact ⟨e, by simpa [Bool.or_eq_true] using q⟩
    have frm : ∀ b o, s.heap.get? b = some o → b ∈ frs X.stack → ∃ sl, G.get? b = some { o with slots := sl } := fun b o e hb => by
      obtain ⟨sl1, q1⟩ := ub.slot b o e hb
      have nf : ∀ vs, o.data ≠ .fields vs := by
        obtain ⟨_, o', e', hnf⟩ := I.stack.mem hb
        rw [e] at e'; cases e'
        exact hnf
      obtain ⟨sl2, q2⟩ := up1 b _ q1 nf
      have q3 : h2.get? b = some { o with slots := sl2 } := (sb.2 b fun z => hCs (by rw [← z]; exact hb)).trans q2
      obtain ⟨sl4, q4⟩ := up4 b _ q3 nf
      exact ⟨sl4, by rw [gF b hb]; exact q4⟩
    have toB : ∀ b o, B.get? b = some o → b ≠ C → G.get? b = some o := fun b o q z => gB b o (by rw [b1 b (by simp [z])]; exact q)
    refine ⟨a, B', { s with heap := G, gens := s'.gens, drawn := s'.drawn, toks := s'.toks }, pins, σ, H', cls, d, rfl, ?_, fun b o e hb => ?_, Heap.UpToSlots.of_keeps fun b o e => (og b o e).1, .inr (.inr (by rw [hs]; exact hd4)), na, os, ag, w⟩
    · refine I.call (ch := [C]) ⟨fun b o e n hb hc => toB b o (ub.keep b o e n hb) (by simpa using hc), fun b o e n hb _ => frm b o e hb, fun b o e n _ => ub.free b o e n, fun b o e hc => ?_, ub.tups, ub.frzs, ub.tbls⟩ (fun b u q => ?_) ag (fun b hb => ?_)
      · by_cases hb : b ∈ frs X.stack
        · obtain ⟨sl, q⟩ := frm b o e hb
          exact ⟨_, q⟩
        · obtain ⟨o', q⟩ := ub.there b o e hb
          exact ⟨o', toB b o' q (by simpa using hc)⟩
      · refine (hok b u q).stay (fun c v hc r => toB c v r ?_) (fun _ r => r) fun _ _ r => r
        rcases hc with hc | hc
        · intro z
          rw [← hc, z, hC'] at q; cases q
        · intro z
          rw [z, hC'] at hc; cases hc
      · have z : b = C := by simpa using hb
        subst z
        exact ⟨hCx, hCL, hCc, hCp⟩
    · obtain ⟨e', h⟩ := og b o e
      rcases h with h | h
      · obtain ⟨o', q⟩ := Option.isSome_iff_exists.mp h
        have z := st b o' q
        rw [e'] at z; cases z
        exact q
      · exact absurd h hb
  first
    | exact wpAny_bind (wpAny_pure (wpAny_bind fin))
    | exact wpAny_bind fin
end
/-! ### the rule (statement and proof follow HandS.Comp's lc_core; the element's errors go on by out_of_block) -/
theorem ends_ok {M : Model} {A : Around} {E : Value → Shared → Prop} {use : Option (Value → Sem Unit)} {Q : Value → Shared → Prop} {acc : Value} {C : Addr} {ce : Env} {s' : Shared} (cL : ce.locals = C) (h : compPost M A E use Q acc C (.ok .next) s') : compEnds M A E use Q acc ce (.ok .next) s' := by
  subst cL
  cases use <;> exact h
section
variable {X : Cx}
theorem lc_coreX {pins : List (Addr × Obj)} {s : Shared} {σ : St} {H : Hp} {Q : VK} {elt tg iter : Expr} {ifs : List Expr} {scope : Scope} {own : List (Str × Nat)} {pos pos' : Pos} {E : XK} {wi : TI} {g : TG} {tt : TT} {te : TE} {use : Option (Value → Sem Unit)} {Qf : Value → Shared → Prop}
    (tk : Takes X (fun cls d _ H => E cls d H)) (hst : X.stack = X.env :: X.outer) (hfr : X.env.frame = some X.env.locals) (hc : X.calm = true) (hN : X.N.Nodup) (I : Inv X pins σ H s) (hi : PI X tg iter wi) (ok : BlkOk X.N X.env.scope scope own)
    (hg : ∀ (s : Shared) (H : Hp) (C : Addr) (cl : List (Str × Addr)) (fp : List Addr), PG (X.blk s H scope (compEnvC scope cl C X.env) fp) tg g) (ht : ∀ (s : Shared) (H : Hp) (C : Addr) (cl : List (Str × Addr)) (fp : List Addr), PTs (X.blk s H scope (compEnvC scope cl C X.env) fp) ifs tt)
    (he : ∀ (s : Shared) (H : Hp) (C : Addr) (cl : List (Str × Addr)) (fp : List Addr) (xe : Value → Shared → Prop), Passes (L2.CX X.prog X.w) ((X.blk s H scope (compEnvC scope cl C X.env) fp).wish xe) E → PE ((X.blk s H scope (compEnvC scope cl C X.env) fp).wish xe) elt te) (hs : ∀ x, foldedSetIterable iter X.env x = pure x)
    (h : tLc wi g tt te (own.map (·.2)) σ H Q)
    (hRR : ∀ D C s' m H', Inv X pins σ H' s' → Q (.ref D) H' → s'.heap.Ns C m → FpOk X pins H' C → compPost (model X.prog X.w) X.A X.xe use Qf (.ref D) C (.ok .next) s') :
    wpAny (model X.prog X.w) X.A (comprehension (.ListComp elt [⟨tg, iter, ifs, 0⟩] scope pos) scope X.env pos' (newList []) false (eval iter X.env) use) Qf X.xe s := by
  have hfree : ∀ y ∈ scope.names, y.2 = .free → ∃ c, X.env.cells.lookup y.1 = some c := fun y hy e => by
    rcases ok.free y hy e with k | k
    · exact I.ok.has _ (.inl k)
    · exact I.ok.has _ (.inr k)
  refine comprehension_at (use := use) rfl hs (closure_ok hfree) ok.kind (fun y hy e => by rw [ok.uniq y hy, e])
    (thn (hi.run pins s σ H _ I h) fun xv s1 hx => thn hx fun itv s2 h2 => ?_)
  obtain ⟨it, fp, tn, J, H2, e, I2, T, st2, f2, q⟩ := h2
  subst e
  refine wpAny_newObj_type (newEnv_comp ?_) (by show 0 ≤ sizeLine; decide)
  generalize hD : s2.heap.objs.size = D
  have hDn : H2 D = none := I2.hok.fresh (Nat.le_of_eq hD)
  obtain ⟨W, ⟨m0, w0⟩, turn⟩ := q D hDn
  -- the new list
  generalize hs3 : ({ s2 with heap := s2.heap.push { cls := .type "list", data := .seq ([] : List Value).toArray } } : Shared) = s3
  have I3 : Inv X pins σ (upd H2 D (.lst [])) s3 := by
    rw [← hs3]
    refine I2.laid (t' := s2.toks) (fun b o e => Heap.get?_push_of_some _ e) (Nat.le_of_eq hD) ⟨Nat.zero_le _, [], 0, .nil, ?_⟩
    rw [← hD]
    exact Heap.get?_push_size _ rfl
  have h3 : s3.heap = s2.heap.push { cls := .type "list", data := .seq ([] : List Value).toArray } := by rw [← hs3]
  have sz : ∀ b ∈ fp, b < s2.heap.objs.size := fun b hb => by
    obtain ⟨o, e, _⟩ := T.obj _ _ st2 b hb
    exact Heap.lt_size e
  have f3 : ∀ b ∈ fp, FpOk X pins (upd H2 D (.lst [])) b ∧ b < s3.heap.objs.size := fun b hb => by
    have hlt := sz b hb
    refine ⟨⟨?_, (f2 b hb).2⟩, by rw [h3, Heap.size_push]; exact Nat.lt_succ_of_lt hlt⟩
    rw [upd_ne (by rw [← hD]; exact Nat.ne_of_lt hlt)]
    exact (f2 b hb).1
  have st3 : tn 0 s3.heap := T.keep _ _ _ st2 fun b _ o e => by rw [h3]; exact Heap.get?_push_of_some _ e
  have I4 := block_start I3 ok hN f3
  have pg := hg s3 (upd H2 D (.lst [])) s3.heap.objs.size (cellsFrom (s3.heap.objs.size + 1) scope.names (cloFrom X.env.cells scope.names [])) fp
  have pt := ht s3 (upd H2 D (.lst [])) s3.heap.objs.size (cellsFrom (s3.heap.objs.size + 1) scope.names (cloFrom X.env.cells scope.names [])) fp
  have pe := he s3 (upd H2 D (.lst [])) s3.heap.objs.size (cellsFrom (s3.heap.objs.size + 1) scope.names (cloFrom X.env.cells scope.names [])) fp
  have cF : (compEnvC scope (cellsFrom (s3.heap.objs.size + 1) scope.names (cloFrom X.env.cells scope.names [])) s3.heap.objs.size X.env).frame = X.env.frame := rfl
  show codeAny _ _ (.compStart (.ListComp elt [⟨tg, iter, ifs, 0⟩] scope pos) 0 (.ref it) (.ref D) (compEnvC scope (cellsFrom (s3.heap.objs.size + 1) scope.names (cloFrom X.env.cells scope.names [])) s3.heap.objs.size X.env)) (compEnds (model X.prog X.w) X.A X.xe use Qf (.ref D) (compEnvC scope (cellsFrom (s3.heap.objs.size + 1) scope.names (cloFrom X.env.cells scope.names [])) s3.heap.objs.size X.env)) { s3 with heap := pushCells (s3.heap.push { cls := .type "dict", data := .dict #[] }) scope.names }
  have nfp : ∀ b ∈ fp, (upd H2 D (.lst [])) b = none := fun b hb => (f3 b hb).1.1
  generalize hce : compEnvC scope (cellsFrom (s3.heap.objs.size + 1) scope.names (cloFrom X.env.cells scope.names [])) s3.heap.objs.size X.env = ce at I4 pg pt pe cF ⊢
  have cL : ce.locals = s3.heap.objs.size := by subst hce; rfl
  generalize hH3 : upd H2 D (.lst []) = H3 at I3 I4 pg pt pe w0 nfp f3
  generalize hs4 : ({ s3 with heap := pushCells (s3.heap.push { cls := .type "dict", data := .dict #[] }) scope.names } : Shared) = s4 at I4 ⊢
  have st4 : tn 0 s4.heap := T.keep _ _ _ st3 fun b _ o e => by rw [← hs4]; exact pushCells_keeps _ _ _ _ (Heap.get?_push_of_some _ e)
  have stat : ∀ {σ' : St} {H' : Hp} {s' : Shared}, Inv (X.blk s3 H3 scope ce fp) [] σ' H' s' → (∀ b ∈ fp, H' b = none) → ∀ b ∈ fp, FpOk (X.blk s3 H3 scope ce fp) [] H' b := fun {σ' H' s'} I' hn b hb =>
    ⟨hn b hb, (I'.ok.exf b hb).1, I'.ok.exfs b hb, .inl hb, fun x c e => (I'.ok.exf b hb).2 x c e, fun p hp => absurd (show p ∈ ([] : List (Addr × Obj)) ++ [] from hp) (by simp)⟩
  have ps : Passes (L2.CX X.prog X.w) ((X.blk s3 H3 scope ce fp).wish (notedBy (model X.prog X.w) X.A ce fun e s' => compEnds (model X.prog X.w) X.A X.xe use Qf (.ref D) ce (.error e) s')) E := fun pins6 σ6 H6 s6 e s7 I6' c => by
    have I6 := I6'.unwish
    have I7 : Inv X pins σ H6 s6 := I3.call' (ch := fp) I6.os I6.base I6.hok I6.bare fun b hb => ⟨(f3 b hb).1.2.2.2.1, (f3 b hb).1.2.1, (f3 b hb).1.2.2.2.2.1, (f3 b hb).1.2.2.2.2.2⟩
    have nC : H6 s3.heap.objs.size = none := by
      have z : H6 ce.locals = none := I6.free
      rw [cL] at z
      exact z
    have hn : ∃ m, s6.heap.Ns s3.heap.objs.size m := by
      obtain ⟨m, hn, _⟩ := I6.loc
      have hn : s6.heap.Ns ce.locals m := hn
      rw [cL] at hn
      exact ⟨m, hn⟩
    have z := out_of_block tk hst hfr cF cL I7 (I3.fpOk (Nat.le_refl _) nC) hn c
    exact wpAny_mono z (fun _ _ q => by cases use <;> exact q) fun _ _ q => by cases use <;> exact q
  have loop : codeAny (model X.prog X.w) X.A (.compLoop (.ListComp elt [⟨tg, iter, ifs, 0⟩] scope pos) 0 (.ref it) (.ref D) ce) (compEnds (model X.prog X.w) X.A X.xe use Qf (.ref D) ce) s4 := by
    refine compLoop_any (fun n s' => ∃ i H', Inv (X.blk s3 H3 scope ce fp) [] (wipe σ (own.map (·.2))) H' s' ∧ tn i s'.heap ∧ (∀ b ∈ fp, H' b = none) ∧ W i n H') ?_ m0 ⟨0, H3, I4, st4, nfp, w0⟩
    rintro n s5 ⟨i, H5, I5, st5, n5, w5⟩
    rcases turn i n H5 w5 with ⟨stop, qq⟩ | ⟨go, Nx, hNx, step⟩
    · have td := T.done (X.blk s3 H3 scope ce fp) rfl rfl rfl hc i [] s5 _ H5 (fun _ _ => False) I5 (stat I5 n5) st5 stop
      refine thnF td fun r s6 ⟨hr, I6⟩ => ?_
      subst hr
      -- back in the def's context
      have I7 : Inv X pins σ H5 s6 := I3.call' (ch := fp) I6.os I6.base I6.hok I6.bare fun b hb => ⟨(f3 b hb).1.2.2.2.1, (f3 b hb).1.2.1, (f3 b hb).1.2.2.2.2.1, (f3 b hb).1.2.2.2.2.2⟩
      have nC : H5 s3.heap.objs.size = none := by
        have z : H5 ce.locals = none := I6.free
        rw [cL] at z
        exact z
      obtain ⟨m, hn, _⟩ := I6.loc
      have hn : s6.heap.Ns ce.locals m := hn
      rw [cL] at hn
      exact ends_ok cL (hRR D s3.heap.objs.size s6 m H5 I7 qq hn (I3.fpOk (Nat.le_refl _) nC))
    · have ti := T.item (X.blk s3 H3 scope ce fp) rfl rfl rfl hc i [] s5 _ H5 (fun _ _ => False) I5 (stat I5 n5) st5 go
      refine thnF ti fun r s6 ⟨u, hr, h6⟩ => ?_
      subst hr
      refine thnF h6 fun _ s7 ⟨x, H7, I7, r7, y7, st7, n7⟩ => ?_
      have I7' := I7.pinned (stat I7 n7) (T.obj _ _ st7)
      refine thnF (pg.run _ s7 _ H7 x u _ I7' r7 (step x H7 y7)) fun _ s8 ⟨σ8, H8, I8, hw8, q8⟩ => ?_
      refine thnF (pt.run _ s8 σ8 H8 _ I8 q8) fun b s9 ⟨H9, I9, q9⟩ => ?_
      -- the turn's end
      have fin : ∀ {s' : Shared} {H' : Hp}, Inv (X.blk s3 H3 scope ce fp) ([] ++ pinsAt fp s7.heap) σ8 H' s' → Nx H' → ∃ m, m < n ∧ ∃ i H', Inv (X.blk s3 H3 scope ce fp) [] (wipe σ (own.map (·.2))) H' s' ∧ tn i s'.heap ∧ (∀ b ∈ fp, H' b = none) ∧ W i m H' := fun {s' H'} I' nx => by
        obtain ⟨m', hm, w'⟩ := hNx H' nx
        have pin' : ∀ b ∈ fp, ∀ o, s7.heap.get? b = some o → s'.heap.get? b = some o ∧ H' b = none := fun b hb o e =>
          let z := I'.pin (b, o) (List.mem_append_right _ (List.mem_append_right _ (mem_pinsAt hb e)))
          ⟨z.1, z.2.1⟩
        have hl : (wipe σ (own.map (·.2))).length = σ8.length := by rw [← hw8, wipe_length]
        refine ⟨m', hm, i + 1, H', (I'.unpinned (pins := [])).weak hl (fun j v e => ?_), T.keep _ _ _ st7 fun b hb o e => (pin' b hb o e).1, fun b hb => ?_, w'⟩
        · rw [← hw8] at e
          exact (wipe_some e).1
        · obtain ⟨o, e, _⟩ := T.obj _ _ st7 b hb
          exact (pin' b hb o e).2
      cases b with
      | false =>
        simp only [Bool.false_eq_true, if_false] at q9 ⊢
        exact fin I9 q9
      | true =>
        simp only [if_true] at q9 ⊢
        refine wpAny_mono ((pe _ ps).run _ s9 σ8 H9 _ (I9.wish _) q9) (fun z s10 ⟨yv, H10, I10, r10, acc, hD10, hz10, nx⟩ => ?_) fun _ _ x => x
        exact app_ok (X := X.blk s3 H3 scope ce fp) I10.unwish hD10 hz10 r10 fun s11 I11 => fin I11 nx
  exact codeAny_compStart_list loop (T.self X.A 0 _ _ _ st4 loop)
/-- as a value -/
theorem pe_lcX {elt tg iter : Expr} {ifs : List Expr} {scope : Scope} {own : List (Str × Nat)} {pos : Pos} {E : XK} {wi : TI} {g : TG} {tt : TT} {te : TE} (tk : Takes X (fun cls d _ H => E cls d H)) (hst : X.stack = X.env :: X.outer) (hfr : X.env.frame = some X.env.locals) (hc : X.calm = true) (hN : X.N.Nodup) (hi : PI X tg iter wi) (ok : BlkOk X.N X.env.scope scope own)
    (hg : ∀ (s : Shared) (H : Hp) (C : Addr) (cl : List (Str × Addr)) (fp : List Addr), PG (X.blk s H scope (compEnvC scope cl C X.env) fp) tg g) (ht : ∀ (s : Shared) (H : Hp) (C : Addr) (cl : List (Str × Addr)) (fp : List Addr), PTs (X.blk s H scope (compEnvC scope cl C X.env) fp) ifs tt)
    (he : ∀ (s : Shared) (H : Hp) (C : Addr) (cl : List (Str × Addr)) (fp : List Addr) (xe : Value → Shared → Prop), Passes (L2.CX X.prog X.w) ((X.blk s H scope (compEnvC scope cl C X.env) fp).wish xe) E → PE ((X.blk s H scope (compEnvC scope cl C X.env) fp).wish xe) elt te) (hs : ∀ x, foldedSetIterable iter X.env x = pure x := by intro _; rfl) :
    PE X (.ListComp elt [⟨tg, iter, ifs, 0⟩] scope pos) (tLc wi g tt te (own.map (·.2))) := by
  refine ⟨fun pins s σ H Q I h => ?_⟩
  rw [eval_ListComp]
  refine lc_coreX tk hst hfr hc hN I hi ok hg ht he hs h fun D C s' m H' I' q hn f => ⟨m, hn, fun h'' sb => ?_⟩
  obtain ⟨f0, f1, f2, f3, f4, f5⟩ := f
  exact ⟨.ref D, H', I'.turned (t' := s'.toks) (fun b o hb e => (sb.2 b hb).trans e) f0 f1 f3 f4 f5, rfl, q⟩
/-- name = [..] on one line, the name a local -/
theorem ps_setLcX {i : Nat} {y : Str} {py : Pos} {elt tg iter : Expr} {ifs : List Expr} {scope : Scope} {own : List (Str × Nat)} {pos spos : Pos} {E : XK} {wi : TI} {g : TG} {tt : TT} {te : TE} (tk : Takes X (fun cls d _ H => E cls d H)) (hst : X.stack = X.env :: X.outer) (hfr : X.env.frame = some X.env.locals) (hc : X.calm = true) (hN : X.N.Nodup) (hy : X.N[i]? = some y) (hyl : X.env.scope.names.lookup y = some .local)
    (hsw : swapsWith (.ListComp elt [⟨tg, iter, ifs, 0⟩] scope pos) (some (.Name y py)) spos.line X.env = pure true) (hi : PI X tg iter wi) (ok : BlkOk X.N X.env.scope scope own)
    (hg : ∀ (s : Shared) (H : Hp) (C : Addr) (cl : List (Str × Addr)) (fp : List Addr), PG (X.blk s H scope (compEnvC scope cl C X.env) fp) tg g) (ht : ∀ (s : Shared) (H : Hp) (C : Addr) (cl : List (Str × Addr)) (fp : List Addr), PTs (X.blk s H scope (compEnvC scope cl C X.env) fp) ifs tt)
    (he : ∀ (s : Shared) (H : Hp) (C : Addr) (cl : List (Str × Addr)) (fp : List Addr) (xe : Value → Shared → Prop), Passes (L2.CX X.prog X.w) ((X.blk s H scope (compEnvC scope cl C X.env) fp).wish xe) E → PE ((X.blk s H scope (compEnvC scope cl C X.env) fp).wish xe) elt te) (hs : ∀ x, foldedSetIterable iter X.env x = pure x := by intro _; rfl) :
    PS X (.Assign [.Name y py] (.ListComp elt [⟨tg, iter, ifs, 0⟩] scope pos) spos) (tAsg (tLc wi g tt te (own.map (·.2))) (gName i)) := by
  refine ⟨fun pins s σ H D I h => ?_⟩
  rw [exec_Assign_Name_used _ _ _ _ hsw]
  refine wpAny_bind (wpAny_standAt (wpAny_bind ?_))
  show wpAny _ X.A (do let _ ← comprehension (.ListComp elt [⟨tg, iter, ifs, 0⟩] scope pos) scope X.env (firstIterPos [⟨tg, iter, ifs, 0⟩] pos) (newList []) false (eval iter X.env) (some (assign (.Name y py) X.env))) _ _ s
  have h : tLc wi g tt te (own.map (·.2)) σ H (fun x H1 => gName i x σ H1 D.nx) := h
  refine wpAny_bind (thn (lc_coreX (Qf := fun _ s' => SP X pins D .next s') tk hst hfr hc hN I hi ok hg ht he hs h fun L C s' m H' I' q hn f => ?_) fun _ s' hq => wpAny_pure (wpAny_pure hq))
  show wpAny _ _ (assign (.Name y py) X.env (.ref L)) _ _ _
  refine wpAny_assign_Name (store_ok2 (v := V.ref L) I' hN hy (.inl hyl) rfl (fun s2 I2 ⟨a, sb, ha⟩ => ?_) (.inr hyl))
  obtain ⟨f0, f1, f2, f3, f4, f5⟩ := f
  have haC : C ≠ a := by
    rcases ha with z | z
    · rw [z]; exact f1
    · exact fun e => f4 y a z e.symm
  refine ⟨m, hn.sameBut sb haC, fun h3 sb3 => ?_⟩
  exact ⟨_, H', I2.turned (t' := s2.toks) (fun b o hb e => (sb3.2 b hb).trans e) f0 f1 f3 f4 f5, q⟩
end
end XL
set_option Elab.async false
set_option linter.all false
set_option maxRecDepth 100000
set_option maxHeartbeats 4000000
namespace K25
open PySem PySem.Spec PyProof.Rows L2 XL
def topS (i : Nat) : Stmt := PySem.Challenge.pw_drawnanew_k25_row_refusals.main.body.getD i (.Pass ⟨0, 0, 0, 0⟩)
abbrev s_is_name : Stmt := topS 8
theorem sc_is_name : FnScope ["thing", "sign"] ["thing"] (defScope s_is_name) := ⟨rfl, rfl, rfl, by decide +kernel, rfl, by decide +kernel, by decide +kernel⟩
abbrev s_is_number : Stmt := topS 9
theorem sc_is_number : FnScope ["thing", "low", "high"] ["thing", "low", "high"] (defScope s_is_number) := ⟨rfl, rfl, rfl, by decide +kernel, rfl, by decide +kernel, by decide +kernel⟩
abbrev s_is_part : Stmt := topS 13
theorem sc_is_part : FnScope ["part"] ["part"] (defScope s_is_part) := ⟨rfl, rfl, rfl, by decide +kernel, rfl, by decide +kernel, by decide +kernel⟩
abbrev s_check_form : Stmt := topS 14
theorem sc_check_form : FnScope ["parts", "waiting", "deepest", "part", "level", "at"] ["parts"] (defScope s_check_form) := ⟨rfl, rfl, rfl, by decide +kernel, rfl, by decide +kernel, by decide +kernel⟩
abbrev s_value_of : Stmt := topS 15
theorem sc_value_of : FnScope ["parts", "values", "first", "second"] ["parts", "values"] (defScope s_value_of) := ⟨rfl, rfl, rfl, by decide +kernel, rfl, by decide +kernel, by decide +kernel⟩
abbrev s_names_of : Stmt := topS 16
theorem sc_names_of : FnScope ["parts", "found", "piece", "told"] ["parts"] (defScope s_names_of) := ⟨rfl, rfl, rfl, by decide +kernel, rfl, by decide +kernel, by decide +kernel⟩
abbrev s_check_row : Stmt := topS 19
theorem sc_check_row : FnScope ["row", "seen", "item"] ["row"] (defScope s_check_row) := ⟨rfl, rfl, rfl, by decide +kernel, rfl, by decide +kernel, by decide +kernel⟩
abbrev s_idents_of : Stmt := topS 20
theorem sc_idents_of : FnScope ["parts", "row", "values", "idents", "place", "value"] ["parts", "row"] (defScope s_idents_of) := ⟨rfl, rfl, rfl, by decide +kernel, rfl, by decide +kernel, by decide +kernel⟩
abbrev s_at_most : Stmt := topS 21
theorem sc_at_most : FnScope ["first", "second", "found", "item", "place", "value", "mine"] ["first", "second"] (defScope s_at_most) := ⟨rfl, rfl, rfl, by decide +kernel, rfl, by decide +kernel, by decide +kernel⟩
abbrev s_Key_init : Stmt := inClass (topS 22) 0
theorem sc_Key_init : FnScope ["self", "form", "name"] ["self", "form"] (defScope s_Key_init) := ⟨rfl, rfl, rfl, by decide +kernel, rfl, by decide +kernel, by decide +kernel⟩
abbrev s_Key_parts : Stmt := inClass (topS 22) 1
theorem sc_Key_parts : FnScope ["self"] ["self"] (defScope s_Key_parts) := ⟨rfl, rfl, rfl, by decide +kernel, rfl, by decide +kernel, by decide +kernel⟩
abbrev s_Key_call : Stmt := inClass (topS 22) 2
theorem sc_Key_call : FnScope ["self", "item", "at"] ["self", "item", "at"] (defScope s_Key_call) := ⟨rfl, rfl, rfl, by decide +kernel, rfl, by decide +kernel, by decide +kernel⟩
abbrev s_Key_le : Stmt := inClass (topS 22) 3
theorem sc_Key_le : FnScope ["self", "other"] ["self", "other"] (defScope s_Key_le) := ⟨rfl, rfl, rfl, by decide +kernel, rfl, by decide +kernel, by decide +kernel⟩
abbrev s_Key_idents : Stmt := inClass (topS 22) 4
theorem sc_Key_idents : FnScope ["self", "row"] ["self", "row"] (defScope s_Key_idents) := ⟨rfl, rfl, rfl, by decide +kernel, rfl, by decide +kernel, by decide +kernel⟩
abbrev s_matched : Stmt := topS 23
theorem sc_matched : FnScope ["key", "old", "new", "before", "behind", "pairs", "place"] ["key", "old", "new"] (defScope s_matched) := ⟨rfl, rfl, rfl, by decide +kernel, rfl, by decide +kernel, by decide +kernel⟩
abbrev s_slips : Stmt := topS 24
theorem sc_slips : FnScope ["key", "old", "new", "pairs", "one", "two"] ["key", "old", "new"] (defScope s_slips) := ⟨rfl, rfl, rfl, by decide +kernel, rfl, by decide +kernel, by decide +kernel⟩
abbrev s_losses : Stmt := topS 25
theorem sc_losses : FnScope ["key", "old", "new", "pairs", "item"] ["key", "old", "new"] (defScope s_losses) := ⟨rfl, rfl, rfl, by decide +kernel, rfl, by decide +kernel, by decide +kernel⟩
abbrev s_goes_wrong : Stmt := topS 26
theorem sc_goes_wrong : FnScope ["old", "before", "new", "behind", "place"] ["old", "before", "new", "behind"] (defScope s_goes_wrong) := ⟨rfl, rfl, rfl, by decide +kernel, rfl, by decide +kernel, by decide +kernel⟩
abbrev s_first_going_wrong : Stmt := topS 27
theorem sc_first_going_wrong : FnScope ["olds", "news", "old", "before", "new", "behind"] ["olds", "news"] (defScope s_first_going_wrong) := ⟨rfl, rfl, rfl, by decide +kernel, rfl, by decide +kernel, by decide +kernel⟩
abbrev s_faithful : Stmt := topS 28
theorem sc_faithful : FnScope ["key", "menu", "listed", "row"] ["key", "menu"] (defScope s_faithful) := ⟨rfl, rfl, rfl, by decide +kernel, rfl, by decide +kernel, by decide +kernel⟩
abbrev s_coarsest : Stmt := topS 29
theorem sc_coarsest : FnScope ["keys", "menu", "row", "place", "good", "found", "below", "one"] ["keys", "menu"] (defScope s_coarsest) := ⟨rfl, rfl, rfl, by decide +kernel, rfl, by decide +kernel, by decide +kernel⟩
abbrev s_mixed : Stmt := topS 31
theorem sc_mixed : FnScope ["_law_number", "_law_turn", "_law_first", "_law_second"] ["_law_number", "_law_turn"] (defScope s_mixed) := ⟨rfl, rfl, rfl, by decide +kernel, rfl, by decide +kernel, by decide +kernel⟩
abbrev s_bag : Stmt := topS 32
theorem sc_bag : FnScope ["_law_script", "_law_cell", "_law_numbers", "_law_seed", "_law_at"] ["_law_script"] (defScope s_bag) := ⟨rfl, rfl, rfl, by decide +kernel, rfl, by decide +kernel, by decide +kernel⟩
abbrev s_pick : Stmt := topS 33
theorem sc_pick : FnScope ["_law_bag_here", "_law_many", "_law_turn", "_law_cell", "_law_worth"] ["_law_bag_here", "_law_many"] (defScope s_pick) := ⟨rfl, rfl, rfl, by decide +kernel, rfl, by decide +kernel, by decide +kernel⟩
abbrev s_choice : Stmt := topS 34
theorem sc_choice : FnScope ["_law_bag_here", "_law_things"] ["_law_bag_here", "_law_things"] (defScope s_choice) := ⟨rfl, rfl, rfl, by decide +kernel, rfl, by decide +kernel, by decide +kernel⟩
abbrev s_mingled : Stmt := topS 35
theorem sc_mingled : FnScope ["_law_bag_here", "_law_things", "_law_left", "_law_out", "_law_step"] ["_law_bag_here", "_law_things"] (defScope s_mingled) := ⟨rfl, rfl, rfl, by decide +kernel, rfl, by decide +kernel, by decide +kernel⟩
abbrev s_form : Stmt := topS 36
theorem sc_form : FnScope ["_law_bag_here", "_law_readable", "_law_levels", "_law_way", "_law_first", "_law_second"] ["_law_bag_here", "_law_readable", "_law_levels"] (defScope s_form) := ⟨rfl, rfl, rfl, by decide +kernel, rfl, by decide +kernel, by decide +kernel⟩
abbrev s_row : Stmt := topS 37
theorem sc_row : FnScope ["_law_bag_here", "_law_most", "_law_items"] ["_law_bag_here", "_law_most"] (defScope s_row) := ⟨rfl, rfl, rfl, by decide +kernel, rfl, by decide +kernel, by decide +kernel⟩
abbrev s_new_name : Stmt := topS 38
theorem sc_new_name : FnScope ["_law_bag_here", "_law_used", "_law_letters", "_law_told", "_law_near", "_law_at", "_law_tails", "_law_step", "_law_k", "_law_tail"] ["_law_bag_here", "_law_used"] (defScope s_new_name) := ⟨rfl, rfl, rfl, by decide +kernel, rfl, by decide +kernel, by decide +kernel⟩
abbrev s_read : Stmt := topS 39
theorem sc_read : FnScope ["_law_form_here", "_law_out", "_law_part", "_law_told"] ["_law_form_here"] (defScope s_read) := ⟨rfl, rfl, rfl, by decide +kernel, rfl, by decide +kernel, by decide +kernel⟩
abbrev s_any_key : Stmt := topS 40
theorem sc_any_key : FnScope ["_law_bag_here", "_law_way", "_law_worth", "_law_spot", "_law_item"] ["_law_bag_here"] (defScope s_any_key) := ⟨rfl, rfl, rfl, by decide +kernel, rfl, by decide +kernel, by decide +kernel⟩
abbrev s_odd_part : Stmt := topS 41
theorem sc_odd_part : FnScope ["_law_bag_here", "_law_good", "_law_odd"] ["_law_bag_here", "_law_good"] (defScope s_odd_part) := ⟨rfl, rfl, rfl, by decide +kernel, rfl, by decide +kernel, by decide +kernel⟩
abbrev s_spoilt : Stmt := topS 42
theorem sc_spoilt : FnScope ["_law_bag_here", "_law_form_here", "_law_odd", "_law_at"] ["_law_bag_here", "_law_form_here", "_law_odd"] (defScope s_spoilt) := ⟨rfl, rfl, rfl, by decide +kernel, rfl, by decide +kernel, by decide +kernel⟩
abbrev s_tower : Stmt := topS 43
theorem sc_tower : FnScope ["_law_bag_here", "_law_levels", "_law_readable", "_law_form_here", "_law_step", "_law_leaf", "_law_ways"] ["_law_bag_here", "_law_levels", "_law_readable"] (defScope s_tower) := ⟨rfl, rfl, rfl, by decide +kernel, rfl, by decide +kernel, by decide +kernel⟩
abbrev s_key_told : Stmt := topS 44
theorem sc_key_told : FnScope ["_law_form_here", "_law_key", "e"] ["_law_form_here"] (defScope s_key_told) := ⟨rfl, rfl, rfl, by decide +kernel, rfl, by decide +kernel, by decide +kernel⟩
abbrev s_forms_refused : Stmt := topS 45
theorem sc_forms_refused : FnScope ["_law_bag_here", "_law_used", "_law_foreign", "_law_good", "_law_odd", "_law_spoilt_here", "_law_mixed_here", "_law_strange", "_law_due", "_law_level", "_law_high", "_law_behind", "_law_wanted", "_law_form_here", "_law_result", "_law_told"] ["_law_bag_here"] (defScope s_forms_refused) := ⟨rfl, rfl, rfl, by decide +kernel, rfl, by decide +kernel, by decide +kernel⟩
abbrev s_some_row : Stmt := topS 46
theorem sc_some_row : FnScope ["_law_bag_here", "_law_way"] ["_law_bag_here"] (defScope s_some_row) := ⟨rfl, rfl, rfl, by decide +kernel, rfl, by decide +kernel, by decide +kernel⟩
abbrev s_bad_row : Stmt := topS 47
theorem sc_bad_row : FnScope ["_law_bag_here", "_law_row_here", "_law_way", "_law_items", "_law_odd"] ["_law_bag_here", "_law_row_here"] (defScope s_bad_row) := ⟨rfl, rfl, rfl, by decide +kernel, rfl, by decide +kernel, by decide +kernel⟩
abbrev s_called : Stmt := topS 48
theorem sc_called : FnScope ["_law_which", "_law_key", "_law_many", "_law_rows"] ["_law_which", "_law_key", "_law_many", "_law_rows"] (defScope s_called) := ⟨rfl, rfl, rfl, by decide +kernel, rfl, by decide +kernel, by decide +kernel⟩
abbrev s_row_told : Stmt := topS 49
theorem sc_row_told : FnScope ["_law_which", "_law_key", "_law_many", "_law_rows", "e"] ["_law_which", "_law_key", "_law_many", "_law_rows"] (defScope s_row_told) := ⟨rfl, rfl, rfl, by decide +kernel, rfl, by decide +kernel, by decide +kernel⟩
abbrev s_law : Stmt := topS 50
theorem sc_law : FnScope ["_law_script", "_law_bag_here", "_law_key", "_law_many", "_law_which", "_law_count", "_law_rows", "_law_bad", "_law_at", "_law_step"] ["_law_script"] (defScope s_law) := ⟨rfl, rfl, rfl, by decide +kernel, rfl, by decide +kernel, by decide +kernel⟩
abbrev s_BadForm_init : Stmt := inClass (topS 2) 0
abbrev s_NoName_init : Stmt := inClass (topS 3) 0
abbrev s_BadRow_init : Stmt := inClass (topS 4) 0
/-- what the top leaves -/
structure Top (K : PySem.W.Frag) (mg : Str → Option Value) (W : World) where
  m_NotImplemented : mg "NotImplemented" = none
  m_ValueError : mg "ValueError" = none
  m_abs : mg "abs" = none
  m_all : mg "all" = none
  m_bool : mg "bool" = none
  m_enumerate : mg "enumerate" = none
  m_int : mg "int" = none
  m_isinstance : mg "isinstance" = none
  m_len : mg "len" = none
  m_list : mg "list" = none
  m_range : mg "range" = none
  m_repr : mg "repr" = none
  m_str : mg "str" = none
  m_tuple : mg "tuple" = none
  v_LETTERS : ∃ t, mg "LETTERS" = some (.str "abcdefghijklmnopqrstuvwxyz" t)
  v_MOST_LEVELS : ∃ t, mg "MOST_LEVELS" = some (.int 5 t)
  v_MOST_ITEMS : ∃ t, mg "MOST_ITEMS" = some (.int 5 t)
  a_is_name : Addr
  d_is_name : FuncData
  F_is_name : Fun K "is_name" "is_name" s_is_name a_is_name d_is_name
  b_is_name : Binds K d_is_name ["thing"] []
  g_is_name : mg "is_name" = some (.ref a_is_name)
  a_is_number : Addr
  d_is_number : FuncData
  F_is_number : Fun K "is_number" "is_number" s_is_number a_is_number d_is_number
  b_is_number : Binds K d_is_number ["thing", "low", "high"] []
  g_is_number : mg "is_number" = some (.ref a_is_number)
  a_is_part : Addr
  d_is_part : FuncData
  F_is_part : Fun K "is_part" "is_part" s_is_part a_is_part d_is_part
  b_is_part : Binds K d_is_part ["part"] []
  g_is_part : mg "is_part" = some (.ref a_is_part)
  a_check_form : Addr
  d_check_form : FuncData
  F_check_form : Fun K "check_form" "check_form" s_check_form a_check_form d_check_form
  b_check_form : Binds K d_check_form ["parts"] []
  g_check_form : mg "check_form" = some (.ref a_check_form)
  a_value_of : Addr
  d_value_of : FuncData
  F_value_of : Fun K "value_of" "value_of" s_value_of a_value_of d_value_of
  b_value_of : Binds K d_value_of ["parts", "values"] []
  g_value_of : mg "value_of" = some (.ref a_value_of)
  a_names_of : Addr
  d_names_of : FuncData
  F_names_of : Fun K "names_of" "names_of" s_names_of a_names_of d_names_of
  b_names_of : Binds K d_names_of ["parts"] []
  g_names_of : mg "names_of" = some (.ref a_names_of)
  a_check_row : Addr
  d_check_row : FuncData
  F_check_row : Fun K "check_row" "check_row" s_check_row a_check_row d_check_row
  b_check_row : Binds K d_check_row ["row"] []
  g_check_row : mg "check_row" = some (.ref a_check_row)
  a_idents_of : Addr
  d_idents_of : FuncData
  F_idents_of : Fun K "idents_of" "idents_of" s_idents_of a_idents_of d_idents_of
  b_idents_of : Binds K d_idents_of ["parts", "row"] []
  g_idents_of : mg "idents_of" = some (.ref a_idents_of)
  a_at_most : Addr
  d_at_most : FuncData
  F_at_most : Fun K "at_most" "at_most" s_at_most a_at_most d_at_most
  b_at_most : Binds K d_at_most ["first", "second"] []
  g_at_most : mg "at_most" = some (.ref a_at_most)
  a_Key_init : Addr
  d_Key_init : FuncData
  F_Key_init : Fun K "__init__" "Key.__init__" s_Key_init a_Key_init d_Key_init
  b_Key_init : Binds K d_Key_init ["self", "form"] []
  a_Key_parts : Addr
  d_Key_parts : FuncData
  F_Key_parts : Fun K "parts" "Key.parts" s_Key_parts a_Key_parts d_Key_parts
  b_Key_parts : Binds K d_Key_parts ["self"] []
  a_Key_call : Addr
  d_Key_call : FuncData
  F_Key_call : Fun K "__call__" "Key.__call__" s_Key_call a_Key_call d_Key_call
  b_Key_call : Binds K d_Key_call ["self", "item", "at"] []
  a_Key_le : Addr
  d_Key_le : FuncData
  F_Key_le : Fun K "__le__" "Key.__le__" s_Key_le a_Key_le d_Key_le
  b_Key_le : Binds K d_Key_le ["self", "other"] []
  a_Key_idents : Addr
  d_Key_idents : FuncData
  F_Key_idents : Fun K "idents" "Key.idents" s_Key_idents a_Key_idents d_Key_idents
  b_Key_idents : Binds K d_Key_idents ["self", "row"] []
  a_matched : Addr
  d_matched : FuncData
  F_matched : Fun K "matched" "matched" s_matched a_matched d_matched
  b_matched : Binds K d_matched ["key", "old", "new"] []
  g_matched : mg "matched" = some (.ref a_matched)
  a_slips : Addr
  d_slips : FuncData
  F_slips : Fun K "slips" "slips" s_slips a_slips d_slips
  b_slips : Binds K d_slips ["key", "old", "new"] []
  g_slips : mg "slips" = some (.ref a_slips)
  a_losses : Addr
  d_losses : FuncData
  F_losses : Fun K "losses" "losses" s_losses a_losses d_losses
  b_losses : Binds K d_losses ["key", "old", "new"] []
  g_losses : mg "losses" = some (.ref a_losses)
  a_goes_wrong : Addr
  d_goes_wrong : FuncData
  F_goes_wrong : Fun K "goes_wrong" "goes_wrong" s_goes_wrong a_goes_wrong d_goes_wrong
  b_goes_wrong : Binds K d_goes_wrong ["old", "before", "new", "behind"] []
  g_goes_wrong : mg "goes_wrong" = some (.ref a_goes_wrong)
  a_first_going_wrong : Addr
  d_first_going_wrong : FuncData
  F_first_going_wrong : Fun K "first_going_wrong" "first_going_wrong" s_first_going_wrong a_first_going_wrong d_first_going_wrong
  b_first_going_wrong : Binds K d_first_going_wrong ["olds", "news"] []
  g_first_going_wrong : mg "first_going_wrong" = some (.ref a_first_going_wrong)
  a_faithful : Addr
  d_faithful : FuncData
  F_faithful : Fun K "faithful" "faithful" s_faithful a_faithful d_faithful
  b_faithful : Binds K d_faithful ["key", "menu"] []
  g_faithful : mg "faithful" = some (.ref a_faithful)
  a_coarsest : Addr
  d_coarsest : FuncData
  F_coarsest : Fun K "coarsest" "coarsest" s_coarsest a_coarsest d_coarsest
  b_coarsest : Binds K d_coarsest ["keys", "menu"] []
  g_coarsest : mg "coarsest" = some (.ref a_coarsest)
  a_mixed : Addr
  d_mixed : FuncData
  F_mixed : Fun K "_law_mixed" "_law_mixed" s_mixed a_mixed d_mixed
  b_mixed : Binds K d_mixed ["_law_number", "_law_turn"] []
  g_mixed : mg "_law_mixed" = some (.ref a_mixed)
  a_bag : Addr
  d_bag : FuncData
  F_bag : Fun K "_law_bag" "_law_bag" s_bag a_bag d_bag
  b_bag : Binds K d_bag ["_law_script"] []
  g_bag : mg "_law_bag" = some (.ref a_bag)
  a_pick : Addr
  d_pick : FuncData
  F_pick : Fun K "_law_pick" "_law_pick" s_pick a_pick d_pick
  b_pick : Binds K d_pick ["_law_bag_here", "_law_many"] []
  g_pick : mg "_law_pick" = some (.ref a_pick)
  a_choice : Addr
  d_choice : FuncData
  F_choice : Fun K "_law_choice" "_law_choice" s_choice a_choice d_choice
  b_choice : Binds K d_choice ["_law_bag_here", "_law_things"] []
  g_choice : mg "_law_choice" = some (.ref a_choice)
  a_mingled : Addr
  d_mingled : FuncData
  F_mingled : Fun K "_law_mingled" "_law_mingled" s_mingled a_mingled d_mingled
  b_mingled : Binds K d_mingled ["_law_bag_here", "_law_things"] []
  g_mingled : mg "_law_mingled" = some (.ref a_mingled)
  a_form : Addr
  d_form : FuncData
  F_form : Fun K "_law_form" "_law_form" s_form a_form d_form
  b_form : Binds K d_form ["_law_bag_here", "_law_readable", "_law_levels"] []
  g_form : mg "_law_form" = some (.ref a_form)
  a_row : Addr
  d_row : FuncData
  F_row : Fun K "_law_row" "_law_row" s_row a_row d_row
  b_row : Binds K d_row ["_law_bag_here", "_law_most"] []
  g_row : mg "_law_row" = some (.ref a_row)
  a_new_name : Addr
  d_new_name : FuncData
  F_new_name : Fun K "_law_new_name" "_law_new_name" s_new_name a_new_name d_new_name
  b_new_name : Binds K d_new_name ["_law_bag_here", "_law_used"] []
  g_new_name : mg "_law_new_name" = some (.ref a_new_name)
  a_read : Addr
  d_read : FuncData
  F_read : Fun K "_law_read" "_law_read" s_read a_read d_read
  b_read : Binds K d_read ["_law_form_here"] []
  g_read : mg "_law_read" = some (.ref a_read)
  a_any_key : Addr
  d_any_key : FuncData
  F_any_key : Fun K "_law_any_key" "_law_any_key" s_any_key a_any_key d_any_key
  b_any_key : Binds K d_any_key ["_law_bag_here"] []
  g_any_key : mg "_law_any_key" = some (.ref a_any_key)
  a_odd_part : Addr
  d_odd_part : FuncData
  F_odd_part : Fun K "_law_odd_part" "_law_odd_part" s_odd_part a_odd_part d_odd_part
  b_odd_part : Binds K d_odd_part ["_law_bag_here", "_law_good"] []
  g_odd_part : mg "_law_odd_part" = some (.ref a_odd_part)
  a_spoilt : Addr
  d_spoilt : FuncData
  F_spoilt : Fun K "_law_spoilt" "_law_spoilt" s_spoilt a_spoilt d_spoilt
  b_spoilt : Binds K d_spoilt ["_law_bag_here", "_law_form_here", "_law_odd"] []
  g_spoilt : mg "_law_spoilt" = some (.ref a_spoilt)
  a_tower : Addr
  d_tower : FuncData
  F_tower : Fun K "_law_tower" "_law_tower" s_tower a_tower d_tower
  b_tower : Binds K d_tower ["_law_bag_here", "_law_levels", "_law_readable"] []
  g_tower : mg "_law_tower" = some (.ref a_tower)
  a_key_told : Addr
  d_key_told : FuncData
  F_key_told : Fun K "_law_key_told" "_law_key_told" s_key_told a_key_told d_key_told
  b_key_told : Binds K d_key_told ["_law_form_here"] []
  g_key_told : mg "_law_key_told" = some (.ref a_key_told)
  a_forms_refused : Addr
  d_forms_refused : FuncData
  F_forms_refused : Fun K "_law_forms_refused" "_law_forms_refused" s_forms_refused a_forms_refused d_forms_refused
  b_forms_refused : Binds K d_forms_refused ["_law_bag_here"] []
  g_forms_refused : mg "_law_forms_refused" = some (.ref a_forms_refused)
  a_some_row : Addr
  d_some_row : FuncData
  F_some_row : Fun K "_law_some_row" "_law_some_row" s_some_row a_some_row d_some_row
  b_some_row : Binds K d_some_row ["_law_bag_here"] []
  g_some_row : mg "_law_some_row" = some (.ref a_some_row)
  a_bad_row : Addr
  d_bad_row : FuncData
  F_bad_row : Fun K "_law_bad_row" "_law_bad_row" s_bad_row a_bad_row d_bad_row
  b_bad_row : Binds K d_bad_row ["_law_bag_here", "_law_row_here"] []
  g_bad_row : mg "_law_bad_row" = some (.ref a_bad_row)
  a_called : Addr
  d_called : FuncData
  F_called : Fun K "_law_called" "_law_called" s_called a_called d_called
  b_called : Binds K d_called ["_law_which", "_law_key", "_law_many", "_law_rows"] []
  g_called : mg "_law_called" = some (.ref a_called)
  a_row_told : Addr
  d_row_told : FuncData
  F_row_told : Fun K "_law_row_told" "_law_row_told" s_row_told a_row_told d_row_told
  b_row_told : Binds K d_row_told ["_law_which", "_law_key", "_law_many", "_law_rows"] []
  g_row_told : mg "_law_row_told" = some (.ref a_row_told)
  a_law : Addr
  d_law : FuncData
  F_law : Fun K "law" "law" s_law a_law d_law
  b_law : Binds K d_law ["_law_script"] []
  g_law : mg "law" = some (.ref a_law)
  D_COUNTS : Addr
  e_COUNTS : Array DictEntry
  n_COUNTS : Nat
  g_COUNTS : mg "COUNTS" = some (.ref D_COUNTS)
  l_COUNTS : K.lookup D_COUNTS = some ⟨.type "dict", none, .dict e_COUNTS n_COUNTS, #[]⟩
  q_COUNTS : PySem.W.KeysLit W.params e_COUNTS.toList
  w_COUNTS : (D_COUNTS == sysModules) = false
  k_COUNTS_0 : ∃ t, PySem.W.nsIn K D_COUNTS "is" = some (some (.int 2 t))
  k_COUNTS_1 : ∃ t, PySem.W.nsIn K D_COUNTS "get" = some (some (.int 2 t))
  k_COUNTS_2 : ∃ t, PySem.W.nsIn K D_COUNTS "sum" = some (some (.int 3 t))
  k_COUNTS_3 : ∃ t, PySem.W.nsIn K D_COUNTS "same" = some (some (.int 3 t))
  k_COUNTS_4 : ∃ t, PySem.W.nsIn K D_COUNTS "pick" = some (some (.int 4 t))
  z_COUNTS : ∃ t0 t1 t2 t3 t4, e_COUNTS.toList.map (fun e => e.key) = [.str "is" t0, .str "get" t1, .str "sum" t2, .str "same" t3, .str "pick" t4]
  C_Key : Addr
  g_Key : mg "Key" = some (.ref C_Key)
  cl_Key : Cls K C_Key
  na_Key_form : NoAttr K C_Key "form"
  mk_Key : Mk K C_Key a_Key_init
  co_Key : StX.CallO K C_Key a_Key_call
  sp_Key_le : PySem.W.findIn K (.ref C_Key) "__le__" = some (some (.ref a_Key_le)) ∧ PySem.W.isFn K (.ref a_Key_le) = true
  me_Key_idents : Meth K C_Key "idents" a_Key_idents
  p_Key_parts : Addr
  pr_Key_parts : PropOf K C_Key "parts" p_Key_parts a_Key_parts
  ty_Key : PySem.W.findIn K (.ref C_Key) "__class__" = some (some (.builtin "object.__class__")) ∧ PySem.W.specialIn K (.builtin "object.__class__") "__get__" = some (some (.builtin "getset_descriptor.__get__")) ∧ PySem.W.takesIn K (.builtin "object.__class__") = some true ∧ PySem.W.mroIn K C_Key (.type "object") = some true ∧ PySem.W.kitOne K (.ref C_Key) (.ref C_Key) = some true
  x_file : Str
  C_ScreenError : Addr
  g_ScreenError : mg "ScreenError" = some (.ref C_ScreenError)
  C_NoItem : Addr
  g_NoItem : mg "NoItem" = some (.ref C_NoItem)
  C_BadForm : Addr
  i_BadForm : Addr
  g_BadForm : mg "BadForm" = some (.ref C_BadForm)
  x_BadForm : ∀ P : Program, PySem.XExc.PF P x_file → PySem.XExc.ExTxt P K mg "BadForm" "part" "not a form: " C_BadForm i_BadForm
  xcv_BadForm : PySem.XExc.CvR K i_BadForm
  xc_BadForm : ExcC K C_BadForm
  xf_BadForm : XfC K C_BadForm
  ki_BadForm_NoItem : PySem.W.kitOne K (.ref C_BadForm) (.ref C_NoItem) = some false
  kv_BadForm : PySem.W.kitOne K (.ref C_BadForm) (.type "ValueError") = some true
  em_BadForm_ScreenError : PySem.W.exmOne K (.ref C_BadForm) (.ref C_ScreenError) = some true
  em_BadForm_BadForm : PySem.W.exmOne K (.ref C_BadForm) (.ref C_BadForm) = some true
  C_NoName : Addr
  i_NoName : Addr
  g_NoName : mg "NoName" = some (.ref C_NoName)
  x_NoName : ∀ P : Program, PySem.XExc.PF P x_file → PySem.XExc.ExTxt P K mg "NoName" "name" "no such name: " C_NoName i_NoName
  xc_NoName : ExcC K C_NoName
  xf_NoName : XfC K C_NoName
  ki_NoName_NoItem : PySem.W.kitOne K (.ref C_NoName) (.ref C_NoItem) = some false
  kv_NoName : PySem.W.kitOne K (.ref C_NoName) (.type "ValueError") = some true
  em_NoName_ScreenError : PySem.W.exmOne K (.ref C_NoName) (.ref C_ScreenError) = some true
  em_NoName_NoName : PySem.W.exmOne K (.ref C_NoName) (.ref C_NoName) = some true
  C_BadRow : Addr
  i_BadRow : Addr
  g_BadRow : mg "BadRow" = some (.ref C_BadRow)
  x_BadRow : ∀ P : Program, PySem.XExc.PF P x_file → PySem.XExc.ExTxt P K mg "BadRow" "row" "not a row: " C_BadRow i_BadRow
  xcv_BadRow : PySem.XExc.CvR K i_BadRow
  xc_BadRow : ExcC K C_BadRow
  xf_BadRow : XfC K C_BadRow
  ki_BadRow_NoItem : PySem.W.kitOne K (.ref C_BadRow) (.ref C_NoItem) = some false
  kv_BadRow : PySem.W.kitOne K (.ref C_BadRow) (.type "ValueError") = some true
  em_BadRow_ScreenError : PySem.W.exmOne K (.ref C_BadRow) (.ref C_ScreenError) = some true
  em_BadRow_BadRow : PySem.W.exmOne K (.ref C_BadRow) (.ref C_BadRow) = some true
  ki_BadForm_NoName : PySem.W.kitOne K (.ref C_BadForm) (.ref C_NoName) = some false
  ki_BadForm_BadRow : PySem.W.kitOne K (.ref C_BadForm) (.ref C_BadRow) = some false
  ki_NoName_BadForm : PySem.W.kitOne K (.ref C_NoName) (.ref C_BadForm) = some false
  ki_NoName_BadRow : PySem.W.kitOne K (.ref C_NoName) (.ref C_BadRow) = some false
  ki_BadRow_BadForm : PySem.W.kitOne K (.ref C_BadRow) (.ref C_BadForm) = some false
  ki_BadRow_NoName : PySem.W.kitOne K (.ref C_BadRow) (.ref C_NoName) = some false
/-! ### the bag -/
structure Bag (G : Hp) (o : HO) : Prop where
  ex : ∃ (n : Addr) (ns : List Int) (i g t s : Int), o = .lst [.ref n, .int i, .int g, .int t, .int s] ∧ G n = some (.lst (ns.map V.int)) ∧ 0 ≤ i ∧ 0 ≤ g
theorem Bag.same {G G' : Hp} {o : HO} (e : Same G G') (b : Bag G o) : Bag G' o := by
  obtain ⟨n, ns, i, g, t, s, h1, h2, h3⟩ := b.ex
  exact ⟨n, ns, i, g, t, s, h1, e _ _ h2, h3⟩

section
variable {P : Program} {w : World} {K : PySem.W.Frag} {mg : Str → Option Value} {base : Heap}
def spMixed : Sp := fun vs H Q _ => ∃ n t : Int, vs = [.int n, .int t] ∧ ∀ r : Int, 0 ≤ r → r < 2147483587 → Q (.int r) H
theorem ok_mixed (T : Top K mg w) {k : Nat} : FnOk P w K mg base CX0 (k + 1) T.a_mixed T.d_mixed ["_law_number", "_law_turn"] spMixed := by
  refine T.F_mixed.ok sc_mixed (fun vs H Q E h => ?_) (fun cdv A outer s H vs Q E hr h => ?_)
  · obtain ⟨n, t, rfl, _⟩ := h
    rfl
  · obtain ⟨n, t, rfl, q⟩ := h
    refine ⟨_, (pss_cons (ps_set (i := 2) sc_mixed.nd rfl (.inl rfl) (pe_op op_modY (pe_callTy cr_int (by rfl) T.m_int (by decide +kernel) (pa_cons (pe_op op_addY (pe_op op_mulY (pe_op op_addY (xv 0) pe_int) pe_int) (pe_op op_mulY (pe_op op_addY (xv 1) pe_int) pe_int)) pa_nil)) pe_int))
      (pss_cons (ps_set (i := 3) sc_mixed.nd rfl (.inl rfl) (pe_op op_modY (pe_callTy cr_int (by rfl) T.m_int (by decide +kernel) (pa_cons (pe_op op_addY (pe_op op_addY (pe_op op_mulY (xv 2) (xv 2)) (pe_op op_mulY (xv 2) pe_int)) (pe_op op_mulY (pe_op op_addY (xv 1) pe_int) pe_int)) pa_nil)) pe_int))
      (pss_one (ps_ret (pe_op op_modY (pe_callTy cr_int (by rfl) T.m_int (by decide +kernel) (pa_cons (pe_op op_addY (pe_op op_addY (pe_op op_divY (xv 3) pe_int) (pe_op op_mulY (xv 3) pe_int)) (xv 1)) pa_nil)) pe_int))))), ?_⟩
    refine ⟨.inr ⟨by decide, by decide⟩, .inr ⟨by decide, by decide⟩, by decide, fun f _ f0 f1 => ?_⟩
    refine ⟨.inl ⟨by omega, by omega⟩, .inr ⟨by decide, by decide⟩, .inr ⟨by decide, by decide⟩, by decide, fun g _ g0 g1 => ?_⟩
    refine ⟨⟨by decide, by decide⟩, fun d _ _ => ⟨.inr ⟨by decide, by decide⟩, by decide, fun r _ r0 r1 => ?_⟩⟩
    exact q r r0 r1

def spPick : Sp := fun vs H Q _ => ∃ (G : Hp) (M : List (Addr × HO)) (b : Addr) (o : HO) (n : Int), vs = [.ref b, .int n] ∧ Sep G ((b, o) :: M) H ∧ Bag G o ∧ 0 < n ∧ n < 1073741824 ∧
  ∀ (r : Int) (o' : HO) (H' : Hp), 0 ≤ r → r < n → Bag G o' → Sep G ((b, o') :: M) H' → Q (.int r) H'
theorem ok_pick (T : Top K mg w) {k : Nat} (G_mixed : FnOk P w K mg base CX0 (k + 1) T.a_mixed T.d_mixed ["_law_number", "_law_turn"] spMixed) :
    FnOk P w K mg base CX0 (k + 2) T.a_pick T.d_pick ["_law_bag_here", "_law_many"] spPick := by
  refine T.F_pick.ok sc_pick (fun vs H Q E h => ?_) (fun cdv A outer s H vs Q E hr h => ?_)
  · obtain ⟨G, M, b, o, n, rfl, _⟩ := h
    rfl
  · obtain ⟨G, M, b, o, n, rfl, S, B, n0, n1, q⟩ := h
    obtain ⟨N, ns, i, g, t, z, rfl, hN, i0, g0⟩ := B.ex
    refine ⟨_, (pss_cons (ps_set (i := 2) sc_pick.nd rfl (.inl rfl) (pe_ix (ix_k K) (xv 0) pe_int (fun _ _ => rfl)))
      (pss_cons (ps_asg (pe_op op_addY (xv 2) pe_int) (pg_sub (xv 0) pe_int set_list))
      (xss_cut (xs_if (PW.pt (xw_and (xt_cmp (op_eqLK K hr.u190) (pe_ix (ix_k K) (xv 0) pe_int (fun _ _ => rfl)) pe_int (nomark _)) (pw_and1 (xt_cmp op_ltY (pe_ix (ix_k K) (xv 0) pe_int (fun _ _ => rfl)) (pe_callB (cr_lenK K) (by rfl) T.m_len (by decide +kernel) (pa_cons (pe_ix (ix_k K) (xv 0) pe_int (fun _ _ => rfl)) pa_nil)) (nomark _)))))
      (pss_cons (ps_set (i := 3) sc_pick.nd rfl (.inl rfl) (pe_ix (ix_k K) (pe_ix (ix_k K) (xv 0) pe_int (fun _ _ => rfl)) (pe_ix (ix_k K) (xv 0) pe_int (fun _ _ => rfl)) (fun _ _ => rfl)))
      (pss_cons (ps_asg (pe_op op_addY (pe_ix (ix_k K) (xv 0) pe_int (fun _ _ => rfl)) pe_int) (pg_sub (xv 0) pe_int set_list))
      (pss_cons (xs_if (xt_cmp op_ltY (pe_callB cr_abs (by rfl) T.m_abs (by decide +kernel) (pa_cons (xv 3) pa_nil)) (pe_op op_powY pe_int pe_int) (nomark _))
      (pss_one (ps_ret (pe_op op_modY (pe_callTy cr_int (by rfl) T.m_int (by decide +kernel) (pa_cons (pe_call G_mixed (hr.mono (by omega)) (by rfl) T.g_mixed T.F_mixed.kp T.b_mixed .nil pass0 (pa_cons (pe_op op_addY (pe_op op_mulY pe_int (pe_callB cr_abs (by rfl) T.m_abs (by decide +kernel) (pa_cons (xv 3) pa_nil))) (pe_cmpR op_ltY (xv 3) pe_int (nomark _))) (pa_cons (xv 2) pa_nil))) pa_nil)) (xv 1))))
      pss_nil)
      (pss_one (ps_asg (pe_callB cr_abs (by rfl) T.m_abs (by decide +kernel) (pa_cons (xv 3) pa_nil)) (pg_sub (xv 0) pe_int set_list))))))
      pss_nil)
      (pss_cons (xs_if (xt_cmp (op_eqLK K hr.u190) (pe_ix (ix_k K) (xv 0) pe_int (fun _ _ => rfl)) pe_int (nomark _))
      (pss_one (ps_ret (pe_op op_modY (pe_callTy cr_int (by rfl) T.m_int (by decide +kernel) (pa_cons (pe_call G_mixed (hr.mono (by omega)) (by rfl) T.g_mixed T.F_mixed.kp T.b_mixed .nil pass0 (pa_cons (pe_ix (ix_k K) (xv 0) pe_int (fun _ _ => rfl)) (pa_cons (xv 2) pa_nil))) pa_nil)) (xv 1))))
      pss_nil)
      (pss_cons (ps_set (i := 4) sc_pick.nd rfl (.inl rfl) (pe_op op_modY (pe_callTy cr_int (by rfl) T.m_int (by decide +kernel) (pa_cons (pe_ix (ix_k K) (xv 0) pe_int (fun _ _ => rfl)) pa_nil)) (xv 1)))
      (pss_cons (ps_asg (pe_op op_divY (pe_ix (ix_k K) (xv 0) pe_int (fun _ _ => rfl)) (xv 1)) (pg_sub (xv 0) pe_int set_list))
      (pss_one (ps_ret (xv 4))))))))), ?_⟩
    -- the turn
    refine ⟨_, _, .inl (SqL.of S.hd), rfl, b, _, _, 3, rfl, rfl, S.hd, rfl, ?_⟩
    have S1 := S.set (o' := .lst [.ref N, .int i, .int g, .int (t + 1), .int z])
    have fin : ∀ (j : Int) (g' : Int) (H2 : Hp), 0 ≤ j → 0 ≤ g' → Sep G ((b, .lst [.ref N, .int j, .int g', .int (t + 1), .int z]) :: M) H2 → (g' = 0 → ∀ r : Int, 0 ≤ r → r < n → Q (.int r) H2) ∧
        (∀ (r d : Int), 0 ≤ r → r < n → 0 ≤ d → Q (.int r) (upd H2 b (.lst [.ref N, .int j, .int d, .int (t + 1), .int z]))) := fun j g' H2 j0 h0 S2 =>
      ⟨fun _ r r0 r1 => q r _ _ r0 r1 ⟨N, ns, j, g', t + 1, z, rfl, hN, j0, h0⟩ S2, fun r d r0 r1 d0 => q r _ _ r0 r1 ⟨N, ns, j, d, t + 1, z, rfl, hN, j0, d0⟩ S2.set⟩
    -- the rest, from a bag on
    refine ⟨fun σ H2 => ∃ (y3 y4 : Option V) (j g' : Int), σ = [some (.ref b), some (.int n), some (.int t), y3, y4] ∧ 0 ≤ j ∧ 0 ≤ g' ∧ Sep G ((b, .lst [.ref N, .int j, .int g', .int (t + 1), .int z]) :: M) H2, ?_, fun σ H2 h => ?_⟩
    · have go : ∃ (y3 y4 : Option V) (j g' : Int), ([some (.ref b), some (.int n), some (.int t), none, none] : List (Option V)) = [some (.ref b), some (.int n), some (.int t), y3, y4] ∧ 0 ≤ j ∧ 0 ≤ g' ∧ Sep G ((b, .lst [.ref N, .int j, .int g', .int (t + 1), .int z]) :: M) _ := ⟨_, _, i, g, rfl, i0, g0, S1⟩
      refine ⟨_, _, .inl (SqL.of S1.hd), rfl, fun e => ⟨_, _, .inl (SqL.of S1.hd), rfl, _, _, .inl (SqL.of S1.hd), rfl, _, .inl (SqL.of (S1.st hN)), fun e => ?_, fun e => go⟩, fun e => ⟨ff, fun _ => go⟩⟩
      have hi : i < (ns.map V.int).length := of_decide_eq_true e
      obtain ⟨v, hv, hm⟩ := atI_in i0 hi
      obtain ⟨c, _, rfl⟩ := List.mem_map.mp hm
      refine ⟨_, _, .inl (SqL.of S1.hd), rfl, _, _, .inl (SqL.of S1.hd), rfl, _, _, .inl (SqL.of (S1.st hN)), hv, ?_⟩
      refine ⟨_, _, .inl (SqL.of S1.hd), rfl, b, _, _, 1, rfl, rfl, S1.hd, rfl, ?_⟩
      have S2 := S1.set (o' := .lst [.ref N, .int (i + 1), .int g, .int (t + 1), .int z])
      refine ⟨⟨by decide, by decide, by decide⟩, fun p _ => ⟨fun e => ?_, fun e => ?_⟩⟩
      · refine ⟨.inl ⟨by decide, by decide⟩, _, _, rfl, fun m _ _ => ⟨n0, fun r _ r0 r1 => ?_⟩⟩
        exact q r _ _ r0 r1 ⟨N, ns, i + 1, g, t + 1, z, rfl, hN, by omega, g0⟩ S2
      · refine ⟨b, _, _, 2, rfl, rfl, S2.hd, rfl, ?_⟩
        exact ⟨_, _, i + 1, c.natAbs, rfl, by omega, by omega, S2.set⟩
    · obtain ⟨y3, y4, j, g', rfl, j0, h0, S2⟩ := h
      obtain ⟨f1, f2⟩ := fin j g' H2 j0 h0 S2
      refine ⟨_, _, .inl (SqL.of S2.hd), rfl, fun e => ?_, fun e => ?_⟩
      · refine ⟨_, _, .inl (SqL.of S2.hd), rfl, _, _, rfl, fun m _ _ => ⟨n0, fun r _ r0 r1 => ?_⟩⟩
        exact f1 (of_decide_eq_true e) r r0 r1
      · refine ⟨_, _, .inl (SqL.of S2.hd), rfl, n0, fun r _ r0 r1 => ?_⟩
        refine ⟨_, _, .inl (SqL.of S2.hd), rfl, ⟨n0, n1⟩, fun d _ d0 => ⟨b, _, _, 2, rfl, rfl, S2.hd, rfl, ?_⟩⟩
        exact f2 r d r0 r1 (d0 h0)

def spBag (K : PySem.W.Frag) : Sp := fun vs H Q _ => ∃ (G : Hp) (M : List (Addr × HO)) (a : Addr) (ns : List Int), vs = [.ref a] ∧ Sep G M H ∧ SqL K G a (ns.map V.int) ∧ ns.length ≤ 63 ∧
  ∀ (b : Addr) (o : HO) (G' H' : Hp), Same G G' → Bag G' o → Sep G' ((b, o) :: M) H' → Q (.ref b) H'
theorem ok_bag (T : Top K mg w) {k : Nat} : FnOk P w K mg base CX0 (k + 1) T.a_bag T.d_bag ["_law_script"] (spBag K) := by
  refine T.F_bag.ok sc_bag (fun vs H Q E h => ?_) (fun cdv A outer s H vs Q E hr h => ?_)
  · obtain ⟨G, M, a, ns, rfl, _⟩ := h
    rfl
  · obtain ⟨G, M, a, ns, rfl, S, hA, hl, q⟩ := h
    refine ⟨_, (pss_cons (ps_setLc (i := 2) (own := [("_law_cell", 1)]) (by rfl) sc_bag.nd rfl rfl (sw_true rfl rfl rfl (by decide +kernel)) (pi_listK K (xv 0)) (blkOk_by (N := ["_law_script", "_law_cell", "_law_numbers", "_law_seed", "_law_at"]) (sc := defScope s_bag) (by decide +kernel)) (fun _ _ _ _ _ => (pg_name (i := 1) sc_bag.nd rfl (.inl rfl))) (fun _ _ _ _ _ => pts_nil) (fun _ _ _ _ _ => (pe_callTy cr_int (by rfl) T.m_int (by decide +kernel) (pa_cons (xv 1) pa_nil))))
      (pss_cons (ps_set (i := 3) sc_bag.nd rfl (.inl rfl) (pe_callB (cr_lenK K) (by rfl) T.m_len (by decide +kernel) (pa_cons (xv 2) pa_nil)))
      (pss_cons (ps_for PassesOwn.never rfl (pi_enum (by rfl) T.m_enumerate (pa_cons (pe_slice (sl_listK K) (xv 2) po_none (po_some pe_int)) pa_nil)) (pg_tupK K 2 (pgs_cons (pg_name (i := 4) sc_bag.nd rfl (.inl rfl)) (pgs_cons (pg_name (i := 1) sc_bag.nd rfl (.inl rfl)) pgs_nil)))
      (pss_one (ps_set (i := 3) sc_bag.nd rfl (.inl rfl) (pe_op op_modY (pe_callTy cr_int (by rfl) T.m_int (by decide +kernel) (pa_cons (pe_op op_addY (pe_op op_addY (pe_op op_mulY (xv 3) pe_int) (pe_op op_modY (pe_callTy cr_int (by rfl) T.m_int (by decide +kernel) (pa_cons (pe_callB cr_abs (by rfl) T.m_abs (by decide +kernel) (pa_cons (xv 1) pa_nil)) pa_nil)) pe_int)) (pe_op op_mulY (pe_op op_addY (xv 4) pe_int) (pe_cmpR op_ltY (xv 1) pe_int (nomark _)))) pa_nil)) pe_int))))
      (pss_one (ps_ret (pe_lst (pa_cons (xv 2) (pa_cons pe_int (pa_cons pe_int (pa_cons pe_int (pa_cons (xv 3) pa_nil))))))))))), ?_⟩
    refine ⟨a, rfl, ⟨_, S.l hA⟩, fun L nL => lc_pre (xs := ns.map V.int) (fun pre H' => Sep G ((L, .lst pre) :: M) H') (S.new nL) (fun pre H' p => p.l hA) (fun _ => rfl) (fun pre x post H' e p => ?_) (fun H' S1 => ?_)⟩
    · obtain ⟨c, _, rfl⟩ := List.mem_map.mp (show x ∈ ns.map V.int by rw [e]; simp)
      have hz : pre.length ≤ 63 := by
        have z := congrArg List.length e
        rw [List.length_map, List.length_append] at z
        omega
      exact ⟨_, p.hd, smallL (by omega), p.set⟩
    · -- the seed
      have S2 := S1.frz
      have hN : upd G L (.lst (ns.map V.int)) L = some (.lst (ns.map V.int)) := upd_same
      refine ⟨_, .inl (SqL.of (S2.st hN)), ?_⟩
      refine ⟨63, rfl, L, _, rfl, SqL.of (S2.st hN), fun c nc => ?_⟩
      have S3 := S2.newG (o := .lst (cutV (ns.map V.int) none (some 63))) nc
      have s3 := S2.grow (o := .lst (cutV (ns.map V.int) none (some 63))) nc
      refine ⟨c, _, rfl, SqL.of (S3.st upd_same), for_enum (xs := cutV (ns.map V.int) none (some 63)) (fun pre σ H' => ∃ (y1 y4 : Option V) (z : Int) (G' : Hp), σ = [some (.ref a), y1, some (.ref L), some (.int z), y4] ∧
        Same (upd (upd G L (.lst (ns.map V.int))) c (.lst (cutV (ns.map V.int) none (some 63)))) G' ∧ Sep G' M H') ⟨_, _, _, _, rfl, Same.refl _, S3⟩ (fun pre σ H' h => ?_) (fun pre x post σ H' W e h nW => ?_) (fun σ H' h => ?_)⟩
      · obtain ⟨_, _, _, G', _, s4, S4⟩ := h
        exact SqL.of (S4.st (s4 _ _ upd_same))
      · obtain ⟨y1, y4, z, G', rfl, s4, S4⟩ := h
        have hx : x ∈ ns.map V.int := by
          have hm : x ∈ cutV (ns.map V.int) none (some 63) := by rw [e]; simp
          exact List.mem_of_mem_drop (List.mem_of_mem_take hm)
        obtain ⟨v, _, rfl⟩ := List.mem_map.mp hx
        have S5 := S4.newG (o := .tup [.int (pre.length : Nat), .int v]) nW
        refine ⟨.inr ⟨by decide, by decide⟩, by decide, fun r _ r0 r1 => ⟨by decide, fun u _ u0 u1 => ?_⟩⟩
        exact ⟨_, _, _, _, rfl, s4.trans (S4.grow nW), S5⟩
      · obtain ⟨y1, y4, z, G', rfl, s4, S4⟩ := h
        refine ⟨sz, fun b nb => ?_⟩
        exact q b _ G' _ ((S1.frzS).trans (s3.trans s4)) ⟨L, ns, 0, 0, 0, z, rfl, s4 _ _ (s3 _ _ hN), by decide, by decide⟩ (S4.new nb)

def spChoice (K : PySem.W.Frag) : Sp := fun vs H Q _ => ∃ (G : Hp) (M : List (Addr × HO)) (b : Addr) (o : HO) (l : Addr) (xs : List V), vs = [.ref b, .ref l] ∧ Sep G ((b, o) :: M) H ∧ Bag G o ∧ SqL K G l xs ∧ 0 < xs.length ∧ xs.length < 100000 ∧
  ∀ (v : V) (o' : HO) (H' : Hp), v ∈ xs → Bag G o' → Sep G ((b, o') :: M) H' → Q v H'
theorem ok_choice (T : Top K mg w) {k : Nat} (G_pick : FnOk P w K mg base CX0 k T.a_pick T.d_pick ["_law_bag_here", "_law_many"] spPick) : FnOk P w K mg base CX0 (k + 1) T.a_choice T.d_choice ["_law_bag_here", "_law_things"] (spChoice K) := by
  refine T.F_choice.ok sc_choice (fun vs H Q E h => ?_) (fun cdv A outer s H vs Q E hr h => ?_)
  · obtain ⟨G, M, b, o, l, xs, rfl, _⟩ := h
    rfl
  · obtain ⟨G, M, b, o, l, xs, rfl, S, B, hl, x0, x1, q⟩ := h
    refine ⟨_, (pss_one (ps_ret (pe_ix (ix_k K) (xv 1) (pe_call G_pick (hr.mono (by omega)) (by rfl) T.g_pick T.F_pick.kp T.b_pick .nil pass0 (pa_cons (xv 0) (pa_cons (pe_callB (cr_lenK K) (by rfl) T.m_len (by decide +kernel) (pa_cons (xv 1) pa_nil)) pa_nil))) (fun _ _ => rfl)))), ?_⟩
    refine ⟨_, .inl (S.l hl), G, M, b, o, _, rfl, S, B, by omega, by omega, fun r o' H' r0 r1 B' S' => ?_⟩
    obtain ⟨v, hv, hm⟩ := atI_in r0 r1
    exact ⟨_, v, .inl (S'.l hl), hv, q v o' H' hm B' S'⟩

def spMingled (K : PySem.W.Frag) : Sp := fun vs H Q _ => ∃ (G : Hp) (M : List (Addr × HO)) (b : Addr) (o : HO) (l : Addr) (xs : List V), vs = [.ref b, .ref l] ∧ Sep G ((b, o) :: M) H ∧ Bag G o ∧ SqL K G l xs ∧ xs.length < 100000 ∧
  ∀ (p : Addr) (ys : List V) (o' : HO) (G' H' : Hp), Same G G' → G' p = some (.lst ys) → ys.Perm xs → Bag G' o' → Sep G' ((b, o') :: M) H' → Q (.ref p) H'
theorem ok_mingled (T : Top K mg w) {k : Nat} (G_pick : FnOk P w K mg base CX0 k T.a_pick T.d_pick ["_law_bag_here", "_law_many"] spPick) : FnOk P w K mg base CX0 (k + 1) T.a_mingled T.d_mingled ["_law_bag_here", "_law_things"] (spMingled K) := by
  refine T.F_mingled.ok sc_mingled (fun vs H Q E h => ?_) (fun cdv A outer s H vs Q E hr h => ?_)
  · obtain ⟨G, M, b, o, l, xs, rfl, _⟩ := h
    rfl
  · obtain ⟨G, M, b, o, l, xs, rfl, S, B, hl, x1, q⟩ := h
    refine ⟨_, (pss_cons (ps_set (i := 2) sc_mingled.nd rfl (.inl rfl) (pe_callTy (call_listK K) (by rfl) T.m_list (by decide +kernel) (pa_cons (xv 1) pa_nil)))
      (pss_cons (ps_set (i := 3) sc_mingled.nd rfl (.inl rfl) (pe_lst pa_nil))
      (pss_cons (ps_for PassesOwn.never rfl (pi_range1 (by rfl) T.m_range (pa_cons (pe_callB (cr_lenK K) (by rfl) T.m_len (by decide +kernel) (pa_cons (xv 1) pa_nil)) pa_nil)) (pg_name (i := 4) sc_mingled.nd rfl (.inl rfl))
      (pss_one (ps_expr (pe_bmK K PySem.F.plainAttrs_list PySem.F.slot_list_append PySem.F.type_list_append mt_append (xv 3) (pa_cons (pe_bmK K PySem.F.plainAttrs_list PySem.F.slot_list_pop PySem.F.type_list_pop mt_popAt (xv 2) (pa_cons (pe_call G_pick (hr.mono (by omega)) (by rfl) T.g_pick T.F_pick.kp T.b_pick .nil pass0 (pa_cons (xv 0) (pa_cons (pe_callB (cr_lenK K) (by rfl) T.m_len (by decide +kernel) (pa_cons (xv 2) pa_nil)) pa_nil))) pa_nil)) pa_nil)))))
      (pss_one (ps_ret (xv 3)))))), ?_⟩
    refine ⟨l, xs, rfl, .inl (S.l hl), fun L nL => ?_⟩
    have S1 := S.new (o := .lst xs) nL
    refine ⟨sz, fun O nO => ?_⟩
    have S2 := S1.new (o := .lst []) nO
    refine ⟨_, .inl (S2.l hl), _, rfl, by omega, by omega, for_range (lo := 0) (n := (xs.length : Int).toNat) (fun i σ H' => ∃ (y4 : Option V) (o' : HO) (ls os : List V), σ = [some (.ref b), some (.ref l), some (.ref L), some (.ref O), y4] ∧
      Bag G o' ∧ Sep G ((O, .lst os) :: (L, .lst ls) :: (b, o') :: M) H' ∧ ls.length + i = xs.length ∧ os.length = i ∧ (os ++ ls).Perm xs) ?_ (fun i σ H' hi h => ?_) (fun σ H' h => ?_)⟩
    · exact ⟨_, o, xs, [], rfl, B, S2, by omega, rfl, List.Perm.refl _⟩
    · obtain ⟨y4, o', ls, os, rfl, B', S3, e1, e2, pm⟩ := h
      have S4 := (S3.sw).perm (List.Perm.cons _ (List.Perm.swap _ _ _))
      have S5 := S4.sw
      -- out.append(left.pop(pick(bag, len(left))))
      refine ⟨.inl ⟨rfl, _, SqL.of S3.hd⟩, .inl ⟨rfl, _, SqL.of S4.hd⟩, _, .inl (SqL.of S4.hd), G, _, b, o', _, rfl, S5, B', by omega, by omega, fun r o2 H2 r0 r1 B2 S6 => ?_⟩
      have S7 := S6.sw
      obtain ⟨v, hv, hm⟩ := atI_in r0 r1
      have S8 := S7.set (o' := .lst (ls.eraseIdx r.toNat))
      have S9 := (S8.perm (List.Perm.cons _ (List.Perm.swap _ _ _))).sw
      refine ⟨L, ls, r, r.toNat, v, rfl, rfl, S7.hd, by omega, by omega, seqIdx r0 r1, atN r0 hv, O, os, v, rfl, rfl, S9.hd, smallL (by omega), ?_⟩
      refine ⟨_, o2, ls.eraseIdx r.toNat, os ++ [v], rfl, B2, S9.set, ?_, ?_, ?_⟩
      · rw [List.length_eraseIdx_of_lt (by omega)]
        omega
      · rw [List.length_append, e2]
        rfl
      · refine List.Perm.trans ?_ pm
        rw [List.append_assoc, List.singleton_append]
        refine List.Perm.append_left _ ?_
        exact perm_erase (atN r0 hv)
    · obtain ⟨y4, o', ls, os, rfl, B', S3, e1, e2, pm⟩ := h
      have S4 := ((S3.frz).drop)
      exact q O os o' _ _ S3.frzS upd_same (by
        have e3 : ls = [] := List.eq_nil_of_length_eq_zero (by omega)
        rw [e3, List.append_nil] at pm
        exact pm) (B'.same S3.frzS) S4

end
end K25
set_option Elab.async false
set_option linter.all false
set_option maxRecDepth 100000
set_option maxHeartbeats 4000000
namespace K25
open PySem PySem.Spec PyProof.Rows L2 XL
section
variable {P : Program} {w : World} {K : PySem.W.Frag} {mg : Str → Option Value} {base : Heap}
/-! ### a new name -/
def spNew : Sp := fun vs H Q _ => ∃ (G : Hp) (M : List (Addr × HO)) (b : Addr) (o : HO) (l : Addr) (zs : List Str), vs = [.ref b, .ref l] ∧ Sep G ((b, o) :: (l, .lst (zs.map V.str)) :: M) H ∧ Bag G o ∧ (∀ z ∈ zs, Lt 1 8 z) ∧ zs.length ≤ 100 ∧
  ∀ (z : Str) (o' : HO) (H' : Hp), Lt 1 8 z → z ∉ zs → z ≠ "item" → z ≠ "at" → Bag G o' → Sep G ((b, o') :: (l, .lst ((zs ++ [z]).map V.str)) :: M) H' → Q (.str z) H'
theorem letter_ix {r : Int} (h0 : 0 ≤ r) (h1 : r < 26) : ∃ c, atI LS.cps.toList r = some c ∧ c ∈ LS.cps.toList := by
  obtain ⟨k, rfl⟩ := Int.eq_ofNat_of_zero_le h0
  have z := letter_at (show k < 26 by omega)
  exact ⟨_, atI_nat z, List.mem_of_getElem? z⟩
theorem LS_len : LS.length ≤ sizeLine := by decide +kernel
theorem lt_small {a b : Nat} {z : Str} (h : Lt a b z) (hb : b ≤ 100) : z.length ≤ sizeLine := Nat.le_trans h.hi (Nat.le_trans hb (by decide))
def freshOf (p : Str) (zs : List Str) (ts : List Str) : List Str := (ts.filter fun t => !decide (p ++ t ∈ zs)).map fun t => p ++ t
theorem fresh_snoc (p : Str) (us ts : List Str) (t2 : Str) : freshOf p us (ts ++ [t2]) = freshOf p us ts ++ (if !decide (p ++ t2 ∈ us) then [p ++ t2] else []) := by
  unfold freshOf
  rw [List.filter_append, List.map_append]
  congr 1
  by_cases h : p ++ t2 ∈ us <;> simp [h]
theorem ok_new_name (T : Top K mg w) {k : Nat} (G_pick : FnOk P w K mg base CX0 k T.a_pick T.d_pick ["_law_bag_here", "_law_many"] spPick) : FnOk P w K mg base CX0 (k + 1) T.a_new_name T.d_new_name ["_law_bag_here", "_law_used"] spNew := by
  refine T.F_new_name.ok sc_new_name (fun vs H Q E h => ?_) (fun cdv A outer s H vs Q E hr h => ?_)
  · obtain ⟨G, M, b, o, l, zs, rfl, _⟩ := h
    rfl
  · obtain ⟨G, M, b, o, l, zs, rfl, S, B, hz, zl, q⟩ := h
    refine ⟨_, (pss_cons (ps_set (i := 2) sc_new_name.nd rfl (.inr rfl) pe_str)
      (pss_cons (ps_set (i := 3) sc_new_name.nd rfl (.inr rfl) (pe_join pe_str (pe_lc (own := [("_law_step", 7)]) (by rfl) sc_new_name.nd (pi_range1 (by rfl) T.m_range (pa_cons (pe_op op_addY pe_int (pe_call G_pick (hr.mono (by omega)) (by rfl) T.g_pick T.F_pick.kp T.b_pick .nil pass0 (pa_cons (xv 0) (pa_cons pe_int pa_nil)))) pa_nil)) (blkOk_by (N := ["_law_bag_here", "_law_used", "_law_letters", "_law_told", "_law_near", "_law_at", "_law_tails", "_law_step", "_law_k", "_law_tail"]) (sc := defScope s_new_name) (by decide +kernel)) (fun _ _ _ _ _ => (pg_name (i := 7) sc_new_name.nd rfl (.inl rfl))) (fun _ _ _ _ _ => pts_nil) (fun _ _ _ _ _ => (pe_ix (ix_k K) (xv 2) (pe_call G_pick (hr.mono (by omega)) (by rfl) T.g_pick T.F_pick.kp T.b_pick .nil pass0 (pa_cons (xv 0) (pa_cons pe_int pa_nil))) (fun _ _ => rfl))))))
      (xss_cut (xs_if (PW.pt (xw_and (xt_truK K (xv 1)) (pw_and1 (xt_cmp (op_eqLK K hr.u190) (pe_call G_pick (hr.mono (by omega)) (by rfl) T.g_pick T.F_pick.kp T.b_pick .nil pass0 (pa_cons (xv 0) (pa_cons pe_int pa_nil))) pe_int (nomark _)))))
      (pss_cons (ps_set (i := 4) sc_new_name.nd rfl (.inl rfl) (pe_slice sl_str (pe_ix (ix_k K) (xv 1) (pe_call G_pick (hr.mono (by omega)) (by rfl) T.g_pick T.F_pick.kp T.b_pick .nil pass0 (pa_cons (xv 0) (pa_cons (pe_callB (cr_lenK K) (by rfl) T.m_len (by decide +kernel) (pa_cons (xv 1) pa_nil)) pa_nil))) (fun _ _ => rfl)) po_none (po_some pe_int)))
      (pss_cons (ps_set (i := 5) sc_new_name.nd rfl (.inl rfl) (pe_call G_pick (hr.mono (by omega)) (by rfl) T.g_pick T.F_pick.kp T.b_pick .nil pass0 (pa_cons (xv 0) (pa_cons (pe_callB (cr_lenK K) (by rfl) T.m_len (by decide +kernel) (pa_cons (xv 4) pa_nil)) pa_nil))))
      (pss_one (ps_set (i := 3) sc_new_name.nd rfl (.inr rfl) (pe_op op_addY (pe_op op_addY (pe_slice sl_str (xv 4) po_none (po_some (xv 5))) (pe_ix (ix_k K) (xv 2) (pe_call G_pick (hr.mono (by omega)) (by rfl) T.g_pick T.F_pick.kp T.b_pick .nil pass0 (pa_cons (xv 0) (pa_cons pe_int pa_nil))) (fun _ _ => rfl))) (pe_slice sl_str (xv 4) (po_some (pe_op op_addY (xv 5) pe_int)) po_none))))))
      pss_nil)
      (xss_cut (xs_if (xt_cmp (in_seqK K) (xv 3) (pe_op op_addY (xv 1) (pe_lst (pa_cons pe_str (pa_cons pe_str pa_nil)))) (by rfl))
      (pss_cons (ps_setLc (i := 6) (own := [("_law_k", 8)]) (by rfl) sc_new_name.nd rfl rfl (sw_true rfl rfl rfl (by decide +kernel)) (pi_range1 (by rfl) T.m_range (pa_cons pe_int pa_nil)) (blkOk_by (N := ["_law_bag_here", "_law_used", "_law_letters", "_law_told", "_law_near", "_law_at", "_law_tails", "_law_step", "_law_k", "_law_tail"]) (sc := defScope s_new_name) (by decide +kernel)) (fun _ _ _ _ _ => (pg_name (i := 8) sc_new_name.nd rfl (.inl rfl))) (fun _ _ _ _ _ => pts_nil) (fun _ _ _ _ _ => (pe_op op_addY (pe_ix (ix_k K) (xv 2) (pe_op op_divY (xv 8) pe_int) (fun _ _ => rfl)) (pe_ix (ix_k K) (xv 2) (pe_op op_modY (pe_callTy cr_int (by rfl) T.m_int (by decide +kernel) (pa_cons (xv 8) pa_nil)) pe_int) (fun _ _ => rfl)))))
      (pss_one (ps_set (i := 3) sc_new_name.nd rfl (.inr rfl) (pe_ix (ix_k K) (pe_lc (own := [("_law_tail", 9)]) (by rfl) sc_new_name.nd (pi_listK K (xv 6)) (blkOk_by (N := ["_law_bag_here", "_law_used", "_law_letters", "_law_told", "_law_near", "_law_at", "_law_tails", "_law_step", "_law_k", "_law_tail"]) (sc := defScope s_new_name) (by decide +kernel)) (fun _ _ _ _ _ => (pg_name (i := 9) sc_new_name.nd rfl (.inl rfl))) (fun _ _ _ _ _ => (pts_one (xt_cmp (notin_seqK K) (pe_op op_addY (pe_slice sl_str (xv 3) po_none (po_some pe_int)) (xv 9)) (pe_op op_addY (xv 1) (pe_lst (pa_cons pe_str pa_nil))) (by rfl)))) (fun _ _ _ _ _ => (pe_op op_addY (pe_slice sl_str (xv 3) po_none (po_some pe_int)) (xv 9)))) pe_int (fun _ _ => rfl)))))
      pss_nil)
      (pss_cons (ps_expr (pe_bmK K PySem.F.plainAttrs_list PySem.F.slot_list_append PySem.F.type_list_append mt_append (xv 1) (pa_cons (xv 3) pa_nil)))
      (pss_one (ps_ret (xv 3)))))))), ?_⟩
    -- letters in a row
    refine ⟨⟨_, rfl⟩, G, _, b, o, 6, rfl, S, B, by decide, by decide, fun r1 o1 H1 r10 r11 B1 S1 => ⟨_, rfl, by omega, by omega, fun D nD => lc_range (lo := 0) (n := (1 + r1).toNat) (fun i H' => ∃ (o' : HO) (ys : List Str), Bag G o' ∧ Sep G ((D, .lst (ys.map V.str)) :: (b, o') :: (l, .lst (zs.map V.str)) :: M) H' ∧ ys.length = i ∧ ∀ y ∈ ys, Lt 1 1 y)
      ⟨o1, [], B1, S1.new nD, rfl, fun y hy => absurd hy (by simp)⟩ (fun i H' hi p => ?_) (fun H' p => ?_)⟩⟩
    · obtain ⟨o', ys, B', S', yl, hy⟩ := p
      refine ⟨rfl, G, _, b, o', 26, rfl, S'.sw, B', by decide, by decide, fun r2 o2 H2 r20 r21 B2 S2 => ?_⟩
      obtain ⟨c, hc, hm⟩ := letter_ix r20 r21
      refine ⟨c, LS_len, hc, ys.map V.str, S2.sw.hd, by rw [List.length_map]; exact smallL (by omega), o2, ys ++ [⟨#[c]⟩], B2, ?_, by rw [List.length_append, yl]; rfl, fun y hy' => ?_⟩
      · rw [List.map_append]
        exact S2.sw.set
      · rcases List.mem_append.mp hy' with z | z
        · exact hy y z
        · rw [List.mem_singleton.mp z]
          exact Lt.one hm
    obtain ⟨o2, ys, B2, S2, yl, hy⟩ := p
    refine ⟨_, D, ys, rfl, rfl, .inl (SqL.of S2.hd), ?_, ?_⟩
    · rw [sum_ones hy, show Str.length ("" : Str) = 0 from rfl, Nat.mul_zero]
      omega
    have S3 := S2.drop
    have lt1 : Lt 1 6 (Txt.join "" ys) := (Lt.join hy).wide (by omega) (by omega)
    generalize Txt.join "" ys = t1 at *
    -- near another one
    refine ⟨fun σ H' => ∃ (y4 y5 : Option V) (o' : HO) (t : Str), σ = [some (.ref b), some (.ref l), some (.str LS), some (.str t), y4, y5, none, none, none, none] ∧ Lt 1 6 t ∧ Bag G o' ∧ Sep G ((b, o') :: (l, .lst (zs.map V.str)) :: M) H', ?_, fun σ H4 h => ?_⟩
    · have stay : ∀ (o' : HO) (H' : Hp), Bag G o' → Sep G ((b, o') :: (l, .lst (zs.map V.str)) :: M) H' → ∃ (y4 y5 : Option V) (o' : HO) (t : Str), ([some (.ref b), some (.ref l), some (.str LS), some (.str t1), none, none, none, none, none, none] : List (Option V)) = [some (.ref b), some (.ref l), some (.str LS), some (.str t), y4, y5, none, none, none, none] ∧ Lt 1 6 t ∧ Bag G o' ∧ Sep G ((b, o') :: (l, .lst (zs.map V.str)) :: M) H' :=
        fun o' H' B' S' => ⟨_, _, o', t1, rfl, lt1, B', S'⟩
      refine ⟨_, .inl ⟨_, SqL.of S3.sw.hd, rfl⟩, fun ne => ⟨G, _, b, o2, 3, rfl, S3, B2, by decide, by decide, fun r4 o4 H4 _ _ B4 S4 => ⟨fun _ => ?_, fun _ => stay o4 H4 B4 S4⟩⟩, fun _ => ⟨ff, fun _ => stay o2 _ B2 S3⟩⟩
      have z0 : 0 < zs.length := by
        cases zs with
        | nil => cases ne
        | cons _ _ => simp
      refine ⟨_, .inl (SqL.of S4.sw.hd), G, _, b, o4, _, rfl, S4, B4, by rw [List.length_map]; omega, by rw [List.length_map]; omega, fun r5 o5 H5 r50 r51 B5 S5 => ?_⟩
      obtain ⟨v5, hv5, hm5⟩ := atI_in r50 r51
      obtain ⟨z5, hz5, rfl⟩ := List.mem_map.mp hm5
      have l5 := hz z5 hz5
      refine ⟨_, _, .inl (SqL.of S5.sw.hd), hv5, _, rfl, z5, rfl, lt_small l5 (by decide), ?_⟩
      have ln : Lt 1 6 (cutS z5 none (some (6 : Int))) := (l5.to 6).wide (by decide) (by decide)
      generalize cutS z5 none (some (6 : Int)) = nr at *
      have nlo := ln.lo
      have nhi := ln.hi
      refine ⟨lt_small ln (by decide), G, _, b, o5, _, rfl, S5, B5, by omega, by omega, fun r6 o6 H6 r60 r61 B6 S6 => ?_⟩
      obtain ⟨k6, rfl⟩ := Int.eq_ofNat_of_zero_le r60
      refine ⟨_, rfl, nr, rfl, lt_small ln (by decide), G, _, b, o6, 26, rfl, S6, B6, by decide, by decide, fun r7 o7 H7 r70 r71 B7 S7 => ?_⟩
      obtain ⟨c, hc, hm⟩ := letter_ix r70 r71
      have a1 : (cutS nr none (some (k6 : Int))).length = k6 := by rw [cut_to_len]; omega
      have a2 : (cutS nr (some ((k6 + 1 : Nat) : Int)) none).length = nr.length - (k6 + 1) := cut_from_len nr (k6 + 1) (by omega)
      refine ⟨c, LS_len, hc, ?_, fun t2 et2 => ⟨_, rfl, nr, rfl, lt_small ln (by decide), ?_, fun t3 et3 => ⟨_, _, o7, t3, rfl, ?_, B7, S7⟩⟩⟩
      · rw [a1]
        exact small (by show k6 + 1 ≤ 100000; omega)
      · rw [et2, app_len, a1]
        show k6 + 1 + (cutS nr (some ((k6 + 1 : Nat) : Int)) none).length ≤ sizeLine
        rw [a2]
        exact small (by omega)
      · rw [et3, et2]
        have p1 : Lt k6 k6 (cutS nr none (some (k6 : Int))) := ⟨by omega, by omega, fun d hd => ln.ch d (cut_mem hd)⟩
        have p2 : Lt (nr.length - (k6 + 1)) (nr.length - (k6 + 1)) (cutS nr (some ((k6 + 1 : Nat) : Int)) none) := ⟨by omega, by omega, fun d hd => ln.ch d (cut_mem hd)⟩
        exact ((p1.app (Lt.one hm)).app p2).wide (by omega) (by omega)
    obtain ⟨y4, y5, o4, t, rfl, lt, B4, S4⟩ := h
    -- one that is used
    refine ⟨fun σ H' => ∃ (y6 : Option V) (z : Str), σ = [some (.ref b), some (.ref l), some (.str LS), some (.str z), y4, y5, y6, none, none, none] ∧ Lt 1 8 z ∧ z ∉ zs ∧ z ≠ "item" ∧ z ≠ "at" ∧ Sep G ((b, o4) :: (l, .lst (zs.map V.str)) :: M) H', ?_, fun σ H5 h => ?_⟩
    · refine ⟨sz, fun A1 nA1 => ?_⟩
      have S5 := S4.new (o := .lst [.str "item", .str "at"]) nA1
      refine ⟨l, A1, zs.map V.str, [.str "item", .str "at"], rfl, rfl, S5.at (show (l, HO.lst (zs.map V.str)) ∈ _ by simp), S5.hd, small (by rw [List.length_map]; simp; omega), fun A2 nA2 => ?_⟩
      have e6 : zs.map V.str ++ [V.str "item", .str "at"] = (zs ++ (["item", "at"] : List Str)).map V.str := by rw [List.map_append]; rfl
      rw [e6]
      have S6 := S5.new (o := .lst ((zs ++ (["item", "at"] : List Str)).map V.str)) nA2
      have S7 := S6.drop.drop
      refine ⟨A2, _, rfl, .inl (SqL.of S6.hd), rfl, strs_flat _, fun e1 => ?_, fun e1 => ?_⟩
      · -- its tails
        refine ⟨676, rfl, by decide, by decide, fun D nD => lc_range (lo := 0) (n := (676 : Int).toNat) (fun i H' => Sep G ((D, .lst (((List.range i).map tail2).map V.str)) :: (b, o4) :: (l, .lst (zs.map V.str)) :: M) H') (S7.new nD) (fun i H' hi p => ?_) (fun H8 S8 => ?_)⟩
        · have hi : i < 676 := hi
          rw [Int.zero_add]
          refine ⟨rfl, ⟨by decide, by decide⟩, fun d ed _ => ⟨letter (i / 26), LS_len, ?_, by decide, fun r er r0 r1 => ⟨letter (i % 26), LS_len, ?_, small (by show 1 + 1 ≤ 100000; decide), fun t2 et2 => ⟨_, p.hd, ?_, ?_⟩⟩⟩⟩
          · have z : d = ((i / 26 : Nat) : Int) := by omega
            rw [z]
            exact atI_nat (letter_at (by omega))
          · have z : r = ((i % 26 : Nat) : Int) := by omega
            rw [z]
            exact atI_nat (letter_at (by omega))
          · rw [List.length_map, List.length_map, List.length_range]
            exact smallL (by omega)
          · rw [List.range_succ, List.map_append, List.map_append, et2]
            exact p.set
        have S8 : Sep G ((D, .lst (((List.range 676).map tail2).map V.str)) :: (b, o4) :: (l, .lst (zs.map V.str)) :: M) H8 := S8
        have ltp : Lt 1 6 (cutS t none (some (6 : Int))) := (lt.to 6).wide (by decide) (by decide)
        generalize ep : cutS t none (some (6 : Int)) = p at *
        have tl : ∀ t2 ∈ (List.range 676).map tail2, Lt 2 2 t2 := fun t2 h => by
          obtain ⟨k2, hk2, rfl⟩ := List.mem_map.mp h
          exact tail2_lt (List.mem_range.mp hk2)
        obtain ⟨ts, ets⟩ : ∃ ts, ts = (List.range 676).map tail2 := ⟨_, rfl⟩
        rw [← ets] at tl S8
        have tsl : ts.length = 676 := by rw [ets]; simp
        refine ⟨D, rfl, ⟨_, SqL.of S8.hd⟩, fun F nF => lc_list (xs := ts.map V.str) (fun i H' => Sep G ((F, .lst ((freshOf p (zs ++ (["item"] : List Str)) (ts.take i)).map V.str)) :: (D, .lst (ts.map V.str)) :: (b, o4) :: (l, .lst (zs.map V.str)) :: M) H')
          (S8.new nF) (fun i H' _ p' => SqL.of p'.sw.hd) (fun i x H' hx p' => ?_) (fun H9 S9 => ?_)⟩
        · rw [List.getElem?_map] at hx
          obtain ⟨t2, ht2, rfl⟩ := Option.map_eq_some_iff.mp hx
          have lt2 := tl t2 (List.mem_of_getElem? ht2)
          have il := (List.getElem?_eq_some_iff.mp ht2).1
          have ltb := ltp.app lt2
          have hb := ltb.hi
          rw [app_len] at hb
          have flen : (freshOf p (zs ++ (["item"] : List Str)) (ts.take i)).length ≤ 676 := by
            unfold freshOf
            rw [List.length_map]
            refine Nat.le_trans (List.length_filter_le _ _) ?_
            rw [List.length_take]
            omega
          have fstep : freshOf p (zs ++ (["item"] : List Str)) (ts.take (i + 1)) = freshOf p (zs ++ (["item"] : List Str)) (ts.take i) ++ (if !decide (p ++ t2 ∈ zs ++ (["item"] : List Str)) then [p ++ t2] else []) := by
            rw [XL.take_snoc ht2]
            exact fresh_snoc _ _ _ _
          rw [fstep]
          refine ⟨rfl, _, rfl, t, rfl, lt_small lt (by decide), ?_⟩
          rw [ep]
          refine ⟨small (by omega), fun u1 eu1 => ⟨sz, fun A3 nA3 => ?_⟩⟩
          have Sa := p'.new (o := .lst [.str "item"]) nA3
          refine ⟨l, A3, zs.map V.str, [.str "item"], rfl, rfl, Sa.at (show (l, HO.lst (zs.map V.str)) ∈ _ by simp), Sa.hd, small (by rw [List.length_map]; simp; omega), fun A4 nA4 => ?_⟩
          have e7 : zs.map V.str ++ [V.str "item"] = (zs ++ (["item"] : List Str)).map V.str := by rw [List.map_append]; rfl
          rw [e7]
          have Sb := Sa.new (o := .lst ((zs ++ (["item"] : List Str)).map V.str)) nA4
          refine ⟨A4, _, rfl, .inl (SqL.of Sb.hd), rfl, strs_flat _, ?_⟩
          have e8 : (if true = true then !inV (V.str u1) ((zs ++ (["item"] : List Str)).map V.str) else inV (V.str u1) ((zs ++ (["item"] : List Str)).map V.str)) = !decide (p ++ t2 ∈ zs ++ (["item"] : List Str)) := by rw [if_pos rfl, inV_str, eu1]
          rw [e8]
          have Sc := Sb.drop.drop
          refine tst (fun e9 => ?_) (fun e9 => ?_)
          · rw [if_pos e9]
            refine ⟨_, rfl, t, rfl, lt_small lt (by decide), ?_⟩
            rw [ep]
            refine ⟨small (by omega), fun u2 eu2 => ⟨_, Sc.hd, by rw [List.length_map]; exact smallL (by omega), ?_⟩⟩
            rw [List.map_append, eu2]
            exact Sc.set
          · rw [if_neg (by rw [e9]; exact Bool.false_ne_true), List.append_nil]
            exact Sc
        rw [List.length_map, List.take_length] at S9
        obtain ⟨k0, hk0, no⟩ := unused p (zs ++ (["item"] : List Str)) (by rw [List.length_append]; simp; omega)
        have mem : p ++ tail2 k0 ∈ freshOf p (zs ++ (["item"] : List Str)) ts := by
          unfold freshOf
          refine List.mem_map.mpr ⟨tail2 k0, List.mem_filter.mpr ⟨?_, by simpa using no⟩, rfl⟩
          rw [ets]
          exact List.mem_map.mpr ⟨k0, List.mem_range.mpr hk0, rfl⟩
        cases ef : freshOf p (zs ++ (["item"] : List Str)) ts with
        | nil => rw [ef] at mem; cases mem
        | cons z0 zr =>
          rw [ef] at S9
          have hz0 : z0 ∈ freshOf p (zs ++ (["item"] : List Str)) ts := by rw [ef]; exact List.mem_cons_self
          unfold freshOf at hz0
          obtain ⟨t2, ht2, rfl⟩ := List.mem_map.mp hz0
          obtain ⟨h1, h2⟩ := List.mem_filter.mp ht2
          have no2 : p ++ t2 ∉ zs ++ (["item"] : List Str) := by simpa using h2
          have l2 := ltp.app (tl t2 h1)
          refine ⟨_, .str (p ++ t2), .inl (SqL.of S9.hd), (show atI _ ((0 : Nat) : Int) = some _ from atI_nat rfl), _, p ++ t2, rfl, l2.wide (by decide) (by decide), fun h => no2 (List.mem_append_left _ h), fun h => no2 (List.mem_append_right _ (by rw [h]; simp)), fun h => ?_, S9.drop.drop⟩
          have l3 := l2.lo
          rw [h] at l3
          exact absurd l3 (by decide +kernel)
      · have e2 : inV (.str t) ((zs ++ (["item", "at"] : List Str)).map V.str) = false := e1
        rw [inV_str] at e2
        have no := of_decide_eq_false e2
        exact ⟨_, t, rfl, lt.wide (by decide) (by decide), fun h => no (List.mem_append_left _ h), fun h => no (List.mem_append_right _ (by rw [h]; simp)), fun h => no (List.mem_append_right _ (by rw [h]; simp)), S7⟩
    obtain ⟨y6, z, rfl, ltz, f1, f2, f3, S5⟩ := h
    refine ⟨.inl ⟨rfl, _, SqL.of S5.sw.hd⟩, l, _, _, rfl, rfl, S5.sw.hd, smallL (by rw [List.length_map]; omega), ?_⟩
    refine q z o4 _ ltz f1 f2 f3 B4 ?_
    rw [List.map_append]
    exact (S5.sw.set).sw

end
end K25
set_option Elab.async false
set_option linter.all false
set_option maxRecDepth 100000
set_option maxHeartbeats 4000000
namespace K25
open PySem PySem.Spec PyProof.Rows L2 XL
/-! ### forms -/
inductive Fm where
  | is (n : Int)
  | get (x : Str)
  | sum (a b : Fm)
  | same (a b : Fm)
  | pick (a b c : Fm)
def Fm.dep : Fm → Nat
  | .is _ => 1
  | .get _ => 1
  | .sum a b => max a.dep b.dep + 1
  | .same a b => max a.dep b.dep + 1
  | .pick a b c => max a.dep (max b.dep c.dep) + 1
def Fm.size : Fm → Nat
  | .is _ => 1
  | .get _ => 1
  | .sum a b => a.size + b.size + 1
  | .same a b => a.size + b.size + 1
  | .pick a b c => a.size + b.size + c.size + 1
def Fm.val (i j : Int) : Fm → Int
  | .is n => n
  | .get x => if x = "item" then i else j
  | .sum a b => (a.val i j + b.val i j) % 10
  | .same a b => if a.val i j = b.val i j then 1 else 0
  | .pick a b c => if a.val i j = 0 then c.val i j else b.val i j
def Fm.ok : Fm → Prop
  | .is n => 0 ≤ n ∧ n ≤ 9
  | .get x => x = "item" ∨ x = "at"
  | .sum a b => a.ok ∧ b.ok
  | .same a b => a.ok ∧ b.ok
  | .pick a b c => a.ok ∧ b.ok ∧ c.ok
inductive FmAt (G : Hp) : V → Fm → Prop
  | is {p : Addr} {n : Int} : G p = some (.tup [.str "is", .int n]) → FmAt G (.ref p) (.is n)
  | get {p : Addr} {x : Str} : G p = some (.tup [.str "get", .str x]) → FmAt G (.ref p) (.get x)
  | sum {p : Addr} {v1 v2 : V} {a b : Fm} : G p = some (.tup [.str "sum", v1, v2]) → FmAt G v1 a → FmAt G v2 b → FmAt G (.ref p) (.sum a b)
  | same {p : Addr} {v1 v2 : V} {a b : Fm} : G p = some (.tup [.str "same", v1, v2]) → FmAt G v1 a → FmAt G v2 b → FmAt G (.ref p) (.same a b)
  | pick {p : Addr} {v1 v2 v3 : V} {a b c : Fm} : G p = some (.tup [.str "pick", v1, v2, v3]) → FmAt G v1 a → FmAt G v2 b → FmAt G v3 c → FmAt G (.ref p) (.pick a b c)
theorem FmAt.same' {G G' : Hp} (e : Same G G') {v : V} {f : Fm} (h : FmAt G v f) : FmAt G' v f := by
  induction h with
  | is h => exact .is (e _ _ h)
  | get h => exact .get (e _ _ h)
  | sum h _ _ i1 i2 => exact .sum (e _ _ h) i1 i2
  | same h _ _ i1 i2 => exact .same (e _ _ h) i1 i2
  | pick h _ _ _ i1 i2 i3 => exact .pick (e _ _ h) i1 i2 i3
theorem Fm.dep_pos (f : Fm) : 0 < f.dep := by cases f <;> simp [Fm.dep]
theorem Fm.size_pos (f : Fm) : 0 < f.size := by cases f <;> simp [Fm.size]
/-- a form's data -/
def Fm.dat : Fm → PyData
  | .is n => .tuple [.str "is", .int n]
  | .get x => .tuple [.str "get", .str x]
  | .sum a b => .tuple [.str "sum", a.dat, b.dat]
  | .same a b => .tuple [.str "same", a.dat, b.dat]
  | .pick a b c => .tuple [.str "pick", a.dat, b.dat, c.dat]
theorem FmAt.dp {K : PySem.W.Frag} {G H : Hp} (e : Same G H) {v : V} {f : Fm} (h : FmAt G v f) : Dp K H v f.dat := by
  induction h with
  | is h => exact .tup (SqT.of (e _ _ h)) (.cons (.str _) (.cons (.int _) .nil))
  | get h => exact .tup (SqT.of (e _ _ h)) (.cons (.str _) (.cons (.str _) .nil))
  | sum h _ _ i1 i2 => exact .tup (SqT.of (e _ _ h)) (.cons (.str _) (.cons i1 (.cons i2 .nil)))
  | same h _ _ i1 i2 => exact .tup (SqT.of (e _ _ h)) (.cons (.str _) (.cons i1 (.cons i2 .nil)))
  | pick h _ _ _ i1 i2 i3 => exact .tup (SqT.of (e _ _ h)) (.cons (.str _) (.cons i1 (.cons i2 (.cons i3 .nil))))
/-- the dict of item and at -/
abbrev env2 (i j : Int) : List (Key × V) := [(.inr "item", .int i), (.inr "at", .int j)]
theorem env_get (i j : Int) {x : Str} (h : x = "item" ∨ x = "at") : valV (env2 i j) (.inr x : Key) = some (.int (if x = "item" then i else j)) := by
  rcases h with rfl | rfl
  · rw [if_pos rfl]
    exact valV_pos rfl
  · rw [if_neg (by decide +kernel), valV_neg (by intro z; injection z with z; exact absurd z (by decide +kernel)), valV_pos rfl]
theorem env_merge (i j : Int) : mergeK [] [((.inr "item" : Key), V.int i), ((.inr "at" : Key), V.int j)] = env2 i j := by
  unfold mergeK
  rw [List.foldl_cons, List.foldl_cons, List.foldl_nil]
  have e1 : putK ([] : List (Key × V)) (.inr "item") (V.int i) = [(.inr "item", .int i)] := rfl
  rw [e1]
  unfold putK
  rw [if_neg]
  · rfl
  · simp only [List.any_cons, List.any_nil, Bool.or_false, decide_eq_true_eq]
    intro z
    injection z with z
    exact absurd z (by decide +kernel)
/-- words that differ, that are one -/
theorem wd {a b : Str} {A : Prop} (h : decide (a = b) = true) (n : decide (a = b) = false := by decide +kernel) : A := by rw [n] at h; cases h
theorem we {a : Str} {A : Prop} (h : decide (a = a) = false) : A := by rw [decide_eq_true rfl] at h; cases h
theorem wn {a b : Str} {A : Prop} (h : (!decide (a = b)) = false) (n : decide (a = b) = false := by decide +kernel) : A := by rw [n] at h; cases h
theorem wm {a : Str} {A : Prop} (h : (!decide (a = a)) = true) : A := by rw [decide_eq_true rfl] at h; cases h
theorem at0 {x : V} {r : List V} : atI (x :: r) 0 = some x := atI_nat (j := 0) rfl

section
variable {P : Program} {w : World} {K : PySem.W.Frag} {mg : Str → Option Value} {base : Heap}
/-! ### the program's forms -/
def spNumberIn : Sp := fun vs H Q _ => ∃ i l h : Int, vs = [.int i, .int l, .int h] ∧ l ≤ i ∧ i ≤ h ∧ Q (.bl true) H
theorem ok_is_number (T : Top K mg w) {k : Nat} : FnOk P w K mg base CX0 (k + 1) T.a_is_number T.d_is_number ["thing", "low", "high"] spNumberIn := by
  refine T.F_is_number.ok sc_is_number (fun vs H Q E h => ?_) (fun cdv A outer s H vs Q E hr h => ?_)
  · obtain ⟨i, l, h', rfl, _⟩ := h
    rfl
  · obtain ⟨i, l, h', rfl, h1, h2, q⟩ := h
    refine ⟨_, (pss_one (ps_ret (xe_and (pe_callB (call_isK K) (by rfl) T.m_isinstance (by decide +kernel) (pa_cons (xv 0) (pa_cons (pe_bltn (v := .ty "int") (by rfl) T.m_int (by decide +kernel) rfl) pa_nil))) (xe_and (xe_not (pe_callB (call_isK K) (by rfl) T.m_isinstance (by decide +kernel) (pa_cons (xv 0) (pa_cons (pe_bltn (v := .ty "bool") (by rfl) T.m_bool (by decide +kernel) rfl) pa_nil)))) (pe_one (xe_chain op_leY op_leY (xv 1) (xv 0) (xv 2))))))), ?_⟩
    refine ⟨_, _, _, _, true, rfl, .ty _, .base (.int _), kit_ty (by decide +kernel), fun _ => ⟨_, _, _, _, false, rfl, .ty _, .base (.int _), kit_ty (by decide +kernel), fun _ => ?_, tt⟩, tt⟩
    refine ⟨fun _ => ?_, fun e => absurd h1 (of_decide_eq_false e)⟩
    have e : decide (i ≤ h') = true := decide_eq_true h2
    show Q (.bl (decide (i ≤ h'))) H
    rw [e]
    exact q
theorem signs_in (x : Str) (h : x = "item" ∨ x = "at") : ∀ c ∈ x.cps.toList, c ∈ ("abcdefghijklmnopqrstuvwxyz" : Str).cps.toList := by
  rcases h with rfl | rfl <;> decide +kernel
def spName : Sp := fun vs H Q _ => ∃ (G : Hp) (M : List (Addr × HO)) (x : Str), vs = [.str x] ∧ Sep G M H ∧ (x = "item" ∨ x = "at") ∧ ∀ G' H', Same G G' → Sep G' M H' → Q (.bl true) H'
theorem ok_is_name (T : Top K mg w) {k : Nat} : FnOk P w K mg base CX0 (k + 1) T.a_is_name T.d_is_name ["thing"] spName := by
  refine T.F_is_name.ok sc_is_name (fun vs H Q E h => ?_) (fun cdv A outer s H vs Q E hr h => ?_)
  · obtain ⟨G, M, x, rfl, _⟩ := h
    rfl
  · obtain ⟨G, M, x, rfl, S, hx, q⟩ := h
    refine ⟨_, (pss_cons (xs_if (PW.pt (xw_or (pt_not (xt_truK K (pe_callB (call_isK K) (by rfl) T.m_isinstance (by decide +kernel) (pa_cons (xv 0) (pa_cons (pe_bltn (v := .ty "str") (by rfl) T.m_str (by decide +kernel) rfl) pa_nil))))) (xw_or (xt_cmp op_ltY (pe_callB (cr_lenK K) (by rfl) T.m_len (by decide +kernel) (pa_cons (xv 0) pa_nil)) pe_int (nomark _)) (pw_or1 (xt_cmp op_gtY (pe_callB (cr_lenK K) (by rfl) T.m_len (by decide +kernel) (pa_cons (xv 0) pa_nil)) pe_int (nomark _))))))
      (pss_one (ps_ret pe_bl))
      pss_nil)
      (pss_one (ps_ret (pe_callB (cr_allK K rfl) (by rfl) T.m_all (by decide +kernel) (pa_cons (pe_lc (own := [("sign", 1)]) (by rfl) sc_is_name.nd (pi_str (xv 0)) (blkOk_by (N := ["thing", "sign"]) (sc := defScope s_is_name) (by decide +kernel)) (fun _ _ _ _ _ => (pg_name (i := 1) sc_is_name.nd rfl (.inl rfl))) (fun _ _ _ _ _ => pts_nil) (fun _ _ _ _ _ => (pe_cmpR op_in_sign (xv 1) (xe_glob (by rfl) T.v_LETTERS) (by rfl)))) pa_nil))))), ?_⟩
    have hl : x.length = 4 ∨ x.length = 2 := by
      rcases hx with rfl | rfl
      · exact .inl (by decide +kernel)
      · exact .inr (by decide +kernel)
    have hz : x.length ≤ sizeLine := small (by omega)
    refine ⟨_, _, _, _, true, rfl, .ty _, .base (.str _), kit_ty (by decide +kernel), ff, fun _ => ⟨hz, fun e => ?_, fun _ => ⟨hz, fun e => ?_, fun _ => ?_⟩⟩⟩
    · have z := of_decide_eq_true e
      omega
    · have z : (8 : Int) < x.length := of_decide_eq_true e
      omega
    · refine ⟨x, rfl, fun L nL => lc_it (walk_str (z := x)) (fun i H' => Sep G ((L, .lst (List.replicate i (V.bl true))) :: M) H') (S.new nL) (fun _ _ _ _ => trivial) (fun i v H1 H' hi p y => ?_) (fun H' S1 => ?_)⟩
      · obtain ⟨rfl, c, hc, rfl⟩ := y
        refine ⟨rfl, c, _, rfl, rfl, _, p.hd, ?_, ?_⟩
        · rw [List.length_replicate]
          exact smallL (by have z : x.cps.size = x.length := rfl; omega)
        · have hm : decide (c ∈ ("abcdefghijklmnopqrstuvwxyz" : Str).cps.toList) = true := decide_eq_true (signs_in x hx c (by
            rw [Array.mem_toList_iff]
            exact Array.mem_of_getElem? hc))
          rw [hm, List.replicate_succ']
          exact p.set
      · refine ⟨L, List.replicate x.cps.size true, rfl, ?_, ?_⟩
        · rw [List.map_replicate]
          exact SqL.of S1.hd
        · have e : (List.replicate x.cps.size true).all id = true := by simp
          rw [e]
          exact q _ _ S1.frzS S1.frz
def spPart (K : PySem.W.Frag) : Sp := fun vs H Q _ => ∃ (G : Hp) (M : List (Addr × HO)) (v : V) (f : Fm), vs = [v] ∧ Sep G M H ∧ FmAt G v f ∧ f.ok ∧ ∀ G' H', Same G G' → Sep G' M H' → Q (.bl true) H'
theorem ok_is_part (T : Top K mg w) {k : Nat} (G_is_number : FnOk P w K mg base CX0 (k + 1) T.a_is_number T.d_is_number ["thing", "low", "high"] spNumberIn) (G_is_name : FnOk P w K mg base CX0 (k + 1) T.a_is_name T.d_is_name ["thing"] spName) :
    FnOk P w K mg base CX0 (k + 2) T.a_is_part T.d_is_part ["part"] (spPart K) := by
  refine T.F_is_part.ok sc_is_part (fun vs H Q E h => ?_) (fun cdv A outer s H vs Q E hr h => ?_)
  · obtain ⟨G, M, v, f, rfl, _⟩ := h
    rfl
  · obtain ⟨G, M, v, f, rfl, S, hf, ok, q⟩ := h
    refine ⟨_, (pss_cons (xs_if (PW.pt (xw_or (pt_not (xt_truK K (pe_callB (call_isK K) (by rfl) T.m_isinstance (by decide +kernel) (pa_cons (xv 0) (pa_cons (pe_bltn (v := .ty "tuple") (by rfl) T.m_tuple (by decide +kernel) rfl) pa_nil))))) (pw_or1 (xt_cmp (op_eqLK K hr.u190) (pe_callB (cr_lenK K) (by rfl) T.m_len (by decide +kernel) (pa_cons (xv 0) pa_nil)) pe_int (nomark _)))))
      (pss_one (ps_ret pe_bl))
      pss_nil)
      (pss_cons (xs_if (PW.pt (xw_or (pt_not (xt_truK K (pe_callB (call_isK K) (by rfl) T.m_isinstance (by decide +kernel) (pa_cons (pe_ix (ix_k K) (xv 0) pe_int (fun _ _ => rfl)) (pa_cons (pe_bltn (v := .ty "str") (by rfl) T.m_str (by decide +kernel) rfl) pa_nil))))) (pw_or1 (xt_cmp (op_notIn_kd ⟨T.l_COUNTS, T.q_COUNTS, T.w_COUNTS⟩) (pe_ix (ix_k K) (xv 0) pe_int (fun _ _ => rfl)) (pe_glob (v := .ref T.D_COUNTS) (by rfl) T.g_COUNTS rfl) (by rfl)))))
      (pss_one (ps_ret pe_bl))
      pss_nil)
      (pss_cons (xs_if (xt_cmp (op_neLK K hr.u190) (pe_callB (cr_lenK K) (by rfl) T.m_len (by decide +kernel) (pa_cons (xv 0) pa_nil)) (pe_ix ix_kdict (pe_glob (v := .ref T.D_COUNTS) (by rfl) T.g_COUNTS rfl) (pe_ix (ix_k K) (xv 0) pe_int (fun _ _ => rfl)) (fun _ _ => rfl)) (nomark _))
      (pss_one (ps_ret pe_bl))
      pss_nil)
      (pss_cons (xs_if (xt_cmp (op_eqLK K hr.u190) (pe_ix (ix_k K) (xv 0) pe_int (fun _ _ => rfl)) pe_str (nomark _))
      (pss_one (ps_ret (pe_call G_is_number (hr.mono (by omega)) (by rfl) T.g_is_number T.F_is_number.kp T.b_is_number .nil pass0 (pa_cons (pe_ix (ix_k K) (xv 0) pe_int (fun _ _ => rfl)) (pa_cons pe_int (pa_cons pe_int pa_nil))))))
      pss_nil)
      (pss_cons (xs_if (xt_cmp (op_eqLK K hr.u190) (pe_ix (ix_k K) (xv 0) pe_int (fun _ _ => rfl)) pe_str (nomark _))
      (pss_one (ps_ret (pe_call G_is_name (hr.mono (by omega)) (by rfl) T.g_is_name T.F_is_name.kp T.b_is_name .nil pass0 (pa_cons (pe_ix (ix_k K) (xv 0) pe_int (fun _ _ => rfl)) pa_nil))))
      pss_nil)
      (pss_one (ps_ret pe_bl))))))), ?_⟩
    have sr := Same.refl G
    cases hf with
    | is hp =>
      have h1 := SqT.of (K := K) (S.st hp)
      obtain ⟨t0, k0⟩ := T.k_COUNTS_0
      refine ⟨_, _, _, _, true, rfl, .ty _, .base (.tup (S.st hp)), kit_ty (by decide +kernel), ff, fun _ => ⟨_, .inr h1, fun e => (nomatch e), fun _ => ?_⟩⟩
      refine ⟨_, _, .inr h1, rfl, _, _, _, _, true, rfl, .ty _, .base (.str _), kit_ty (by decide +kernel), ff, fun _ => ⟨_, _, .inr h1, rfl, _, _, rfl, rfl, k0, ff, fun _ => ?_⟩⟩
      refine ⟨_, .inr h1, _, _, .inr h1, rfl, _, _, .int 2, rfl, rfl, ⟨_, _, _, T.l_COUNTS, T.q_COUNTS, k0, ⟨_, rfl⟩⟩, fun e => (nomatch e), fun _ => ?_⟩
      refine ⟨_, _, .inr h1, rfl, fun _ => ⟨_, _, .inr h1, rfl, _, _, _, rfl, ok.1, ok.2, q G H sr S⟩, we⟩
    | get hp =>
      have h1 := SqT.of (K := K) (S.st hp)
      obtain ⟨t0, k0⟩ := T.k_COUNTS_1
      refine ⟨_, _, _, _, true, rfl, .ty _, .base (.tup (S.st hp)), kit_ty (by decide +kernel), ff, fun _ => ⟨_, .inr h1, fun e => (nomatch e), fun _ => ?_⟩⟩
      refine ⟨_, _, .inr h1, rfl, _, _, _, _, true, rfl, .ty _, .base (.str _), kit_ty (by decide +kernel), ff, fun _ => ⟨_, _, .inr h1, rfl, _, _, rfl, rfl, k0, ff, fun _ => ?_⟩⟩
      refine ⟨_, .inr h1, _, _, .inr h1, rfl, _, _, .int 2, rfl, rfl, ⟨_, _, _, T.l_COUNTS, T.q_COUNTS, k0, ⟨_, rfl⟩⟩, fun e => (nomatch e), fun _ => ?_⟩
      refine ⟨_, _, .inr h1, rfl, fun e => wd e, fun _ => ⟨_, _, .inr h1, rfl, fun _ => ⟨_, _, .inr h1, rfl, G, M, _, rfl, S, ok, q⟩, we⟩⟩
    | sum hp h2 h3 =>
      have h1 := SqT.of (K := K) (S.st hp)
      obtain ⟨t0, k0⟩ := T.k_COUNTS_2
      refine ⟨_, _, _, _, true, rfl, .ty _, .base (.tup (S.st hp)), kit_ty (by decide +kernel), ff, fun _ => ⟨_, .inr h1, fun e => (nomatch e), fun _ => ?_⟩⟩
      refine ⟨_, _, .inr h1, rfl, _, _, _, _, true, rfl, .ty _, .base (.str _), kit_ty (by decide +kernel), ff, fun _ => ⟨_, _, .inr h1, rfl, _, _, rfl, rfl, k0, ff, fun _ => ?_⟩⟩
      refine ⟨_, .inr h1, _, _, .inr h1, rfl, _, _, .int 3, rfl, rfl, ⟨_, _, _, T.l_COUNTS, T.q_COUNTS, k0, ⟨_, rfl⟩⟩, fun e => (nomatch e), fun _ => ?_⟩
      refine ⟨_, _, .inr h1, rfl, fun e => wd e, fun _ => ⟨_, _, .inr h1, rfl, fun e => wd e, fun _ => q G H sr S⟩⟩
    | same hp h2 h3 =>
      have h1 := SqT.of (K := K) (S.st hp)
      obtain ⟨t0, k0⟩ := T.k_COUNTS_3
      refine ⟨_, _, _, _, true, rfl, .ty _, .base (.tup (S.st hp)), kit_ty (by decide +kernel), ff, fun _ => ⟨_, .inr h1, fun e => (nomatch e), fun _ => ?_⟩⟩
      refine ⟨_, _, .inr h1, rfl, _, _, _, _, true, rfl, .ty _, .base (.str _), kit_ty (by decide +kernel), ff, fun _ => ⟨_, _, .inr h1, rfl, _, _, rfl, rfl, k0, ff, fun _ => ?_⟩⟩
      refine ⟨_, .inr h1, _, _, .inr h1, rfl, _, _, .int 3, rfl, rfl, ⟨_, _, _, T.l_COUNTS, T.q_COUNTS, k0, ⟨_, rfl⟩⟩, fun e => (nomatch e), fun _ => ?_⟩
      refine ⟨_, _, .inr h1, rfl, fun e => wd e, fun _ => ⟨_, _, .inr h1, rfl, fun e => wd e, fun _ => q G H sr S⟩⟩
    | pick hp h2 h3 h4 =>
      have h1 := SqT.of (K := K) (S.st hp)
      obtain ⟨t0, k0⟩ := T.k_COUNTS_4
      refine ⟨_, _, _, _, true, rfl, .ty _, .base (.tup (S.st hp)), kit_ty (by decide +kernel), ff, fun _ => ⟨_, .inr h1, fun e => (nomatch e), fun _ => ?_⟩⟩
      refine ⟨_, _, .inr h1, rfl, _, _, _, _, true, rfl, .ty _, .base (.str _), kit_ty (by decide +kernel), ff, fun _ => ⟨_, _, .inr h1, rfl, _, _, rfl, rfl, k0, ff, fun _ => ?_⟩⟩
      refine ⟨_, .inr h1, _, _, .inr h1, rfl, _, _, .int 4, rfl, rfl, ⟨_, _, _, T.l_COUNTS, T.q_COUNTS, k0, ⟨_, rfl⟩⟩, fun e => (nomatch e), fun _ => ?_⟩
      refine ⟨_, _, .inr h1, rfl, fun e => wd e, fun _ => ⟨_, _, .inr h1, rfl, fun e => wd e, fun _ => q G H sr S⟩⟩

end
end K25
set_option Elab.async false
set_option linter.all false
set_option maxRecDepth 100000
set_option maxHeartbeats 4000000
namespace K25
open PySem PySem.Spec PyProof.Rows L2 XL
section
variable {P : Program} {w : World} {K : PySem.W.Frag} {mg : Str → Option Value} {base : Heap}
/-- a promise that asks what cannot be -/
theorem fn_false {f : Addr} {fd : FuncData} {ps : List Str} {sp : Sp} {k : Nat} (h : ∀ vs H Q E, ¬ sp vs H Q E) : FnOk P w K mg base CX0 k f fd ps sp :=
  ⟨fun vs H Q E z => absurd z (h vs H Q E), fun A outer s H args us vs Q E _ _ _ _ z => absurd z (h vs H Q E)⟩
def spValue (d : Nat) : Sp := fun vs H Q _ => ∃ (G : Hp) (M : List (Addr × HO)) (v : V) (f : Fm) (e : Addr) (i j : Int), vs = [v, .ref e] ∧ Sep G M H ∧ FmAt G v f ∧ f.ok ∧ f.dep ≤ d ∧ H e = some (.dK (env2 i j)) ∧ Q (.int (f.val i j)) H
theorem ok_value_of (T : Top K mg w) : ∀ d : Nat, FnOk P w K mg base CX0 (d + 1) T.a_value_of T.d_value_of ["parts", "values"] (spValue d)
  | 0 => fn_false fun vs H Q E h => by
    obtain ⟨G, M, v, f, e, i, j, _, _, _, _, hd, _⟩ := h
    have := f.dep_pos
    omega
  | d + 1 => by
    have G_value_of := ok_value_of T d
    refine T.F_value_of.ok sc_value_of (fun vs H Q E h => ?_) (fun cdv A outer s H vs Q E hr h => ?_)
    · obtain ⟨G, M, v, f, e, i, j, rfl, _⟩ := h
      rfl
    · obtain ⟨G, M, v, f, e, i, j, rfl, S, hf, ok, hd, he, q⟩ := h
      refine ⟨_, (pss_cons (xs_if (xt_cmp (op_eqLK K hr.u190) (pe_ix (ix_k K) (xv 0) pe_int (fun _ _ => rfl)) pe_str (nomark _))
      (pss_one (ps_ret (pe_ix (ix_k K) (xv 0) pe_int (fun _ _ => rfl))))
      pss_nil)
      (pss_cons (xs_if (xt_cmp (op_eqLK K hr.u190) (pe_ix (ix_k K) (xv 0) pe_int (fun _ _ => rfl)) pe_str (nomark _))
      (pss_cons (xs_if (pt_cmp (pc_dnotin (hu_of hr) (pe_ix (ix_k K) (xv 0) pe_int (fun _ _ => rfl)) (xv 1)))
      (pss_one ps_never)
      pss_nil)
      (pss_one (ps_ret (pe_dget (hu_of hr) (xv 1) (pe_ix (ix_k K) (xv 0) pe_int (fun _ _ => rfl)) (fun _ _ => rfl)))))
      pss_nil)
      (pss_cons (xs_if (xt_cmp (op_eqLK K hr.u190) (pe_ix (ix_k K) (xv 0) pe_int (fun _ _ => rfl)) pe_str (nomark _))
      (pss_cons (xs_if (xt_cmp (op_neLK K hr.u190) (pe_call G_value_of (hr.mono (by omega)) (by rfl) T.g_value_of T.F_value_of.kp T.b_value_of .nil pass0 (pa_cons (pe_ix (ix_k K) (xv 0) pe_int (fun _ _ => rfl)) (pa_cons (xv 1) pa_nil))) pe_int (nomark _))
      (pss_one (ps_ret (pe_call G_value_of (hr.mono (by omega)) (by rfl) T.g_value_of T.F_value_of.kp T.b_value_of .nil pass0 (pa_cons (pe_ix (ix_k K) (xv 0) pe_int (fun _ _ => rfl)) (pa_cons (xv 1) pa_nil)))))
      pss_nil)
      (pss_one (ps_ret (pe_call G_value_of (hr.mono (by omega)) (by rfl) T.g_value_of T.F_value_of.kp T.b_value_of .nil pass0 (pa_cons (pe_ix (ix_k K) (xv 0) pe_int (fun _ _ => rfl)) (pa_cons (xv 1) pa_nil))))))
      pss_nil)
      (pss_cons (ps_set (i := 2) sc_value_of.nd rfl (.inl rfl) (pe_call G_value_of (hr.mono (by omega)) (by rfl) T.g_value_of T.F_value_of.kp T.b_value_of .nil pass0 (pa_cons (pe_ix (ix_k K) (xv 0) pe_int (fun _ _ => rfl)) (pa_cons (xv 1) pa_nil))))
      (pss_cons (ps_set (i := 3) sc_value_of.nd rfl (.inl rfl) (pe_call G_value_of (hr.mono (by omega)) (by rfl) T.g_value_of T.F_value_of.kp T.b_value_of .nil pass0 (pa_cons (pe_ix (ix_k K) (xv 0) pe_int (fun _ _ => rfl)) (pa_cons (xv 1) pa_nil))))
      (pss_cons (xs_if (xt_cmp (op_eqLK K hr.u190) (pe_ix (ix_k K) (xv 0) pe_int (fun _ _ => rfl)) pe_str (nomark _))
      (pss_one (ps_ret (pe_op op_modY (pe_op op_addY (xv 2) (xv 3)) pe_int)))
      pss_nil)
      (pss_cons (xs_if (xt_cmp (op_eqLK K hr.u190) (xv 2) (xv 3) (nomark _))
      (pss_one (ps_ret pe_int))
      pss_nil)
      (pss_one (ps_ret pe_int))))))))), ?_⟩
      cases hf with
      | is hp =>
        have h1 := SqT.of (K := K) (S.st hp)
        exact ⟨_, _, .inr h1, rfl, fun _ => ⟨_, _, .inr h1, rfl, q⟩, we⟩
      | @get p x hp =>
        have h1 := SqT.of (K := K) (S.st hp)
        have hg : DGet H e (.str x) (some (.int (if x = "item" then i else j))) := by
          rw [← env_get i j ok]
          exact DGet.k (k := Sum.inr x) he
        exact ⟨_, _, .inr h1, rfl, fun e => wd e, fun _ => ⟨_, _, .inr h1, rfl, fun _ => ⟨_, _, .inr h1, rfl, e, _, rfl, hg, false, rfl, ff, fun _ => ⟨_, _, .inr h1, rfl, e, _, rfl, hg, q⟩⟩, we⟩⟩
      | sum hp h2 h3 =>
        have h1 := SqT.of (K := K) (S.st hp)
        have e1 : (Fm.sum _ _).dep ≤ d + 1 := hd
        simp only [Fm.dep] at e1
        refine ⟨_, _, .inr h1, rfl, fun e => wd e, fun _ => ⟨_, _, .inr h1, rfl, fun e => wd e, fun _ => ⟨_, _, .inr h1, rfl, fun e => wd e, fun _ => ?_⟩⟩⟩
        refine ⟨_, _, .inr h1, rfl, G, M, _, _, e, i, j, rfl, S, h2, ok.1, by omega, he, ?_⟩
        refine ⟨_, _, .inr h1, rfl, G, M, _, _, e, i, j, rfl, S, h3, ok.2, by omega, he, ?_⟩
        exact ⟨_, _, .inr h1, rfl, fun _ => ⟨by decide, fun r hr _ _ => hr ▸ q⟩, we⟩
      | same hp h2 h3 =>
        have h1 := SqT.of (K := K) (S.st hp)
        have e1 : (Fm.same _ _).dep ≤ d + 1 := hd
        simp only [Fm.dep] at e1
        refine ⟨_, _, .inr h1, rfl, fun e => wd e, fun _ => ⟨_, _, .inr h1, rfl, fun e => wd e, fun _ => ⟨_, _, .inr h1, rfl, fun e => wd e, fun _ => ?_⟩⟩⟩
        refine ⟨_, _, .inr h1, rfl, G, M, _, _, e, i, j, rfl, S, h2, ok.1, by omega, he, ?_⟩
        refine ⟨_, _, .inr h1, rfl, G, M, _, _, e, i, j, rfl, S, h3, ok.2, by omega, he, ?_⟩
        refine ⟨_, _, .inr h1, rfl, fun e => wd e, fun _ => ⟨fun e => ?_, fun e => ?_⟩⟩
        · simp only [Fm.val] at q
          rw [if_pos (of_decide_eq_true e)] at q
          exact q
        · simp only [Fm.val] at q
          rw [if_neg (of_decide_eq_false e)] at q
          exact q
      | pick hp h2 h3 h4 =>
        have h1 := SqT.of (K := K) (S.st hp)
        have e1 : (Fm.pick _ _ _).dep ≤ d + 1 := hd
        simp only [Fm.dep] at e1
        refine ⟨_, _, .inr h1, rfl, fun e => wd e, fun _ => ⟨_, _, .inr h1, rfl, fun e => wd e, fun _ => ⟨_, _, .inr h1, rfl, fun _ => ?_, we⟩⟩⟩
        refine ⟨_, _, .inr h1, rfl, G, M, _, _, e, i, j, rfl, S, h2, ok.1, by omega, he, fun e2 => ?_, fun e2 => ?_⟩
        · refine ⟨_, _, .inr h1, rfl, G, M, _, _, e, i, j, rfl, S, h3, ok.2.1, by omega, he, ?_⟩
          simp only [Fm.val] at q
          rw [if_neg (by simpa using e2)] at q
          exact q
        · refine ⟨_, _, .inr h1, rfl, G, M, _, _, e, i, j, rfl, S, h4, ok.2.2, by omega, he, ?_⟩
          simp only [Fm.val] at q
          rw [if_pos (by simpa using e2)] at q
          exact q
/-- the children of a form that is no leaf -/
def Kid (G : Hp) (n : Nat) (v : V) (c : Fm) : Prop := FmAt G v c ∧ c.ok ∧ c.dep < n
def sizes : List Fm → Nat
  | [] => 0
  | c :: r => c.size + sizes r
theorem FmAt.kids {G : Hp} {v : V} {f : Fm} (h : FmAt G v f) (ok : f.ok) : (∃ p n, v = .ref p ∧ G p = some (.tup [.str "is", .int n]) ∧ f = .is n) ∨ (∃ p x, v = .ref p ∧ G p = some (.tup [.str "get", .str x]) ∧ f = .get x) ∨
    ∃ (p : Addr) (u : Str) (vs : List V) (cs : List Fm), v = .ref p ∧ G p = some (.tup (.str u :: vs)) ∧ Paired (Kid G f.dep) vs cs ∧ decide (u = "is") = false ∧ decide (u = "get") = false ∧ sizes cs + 1 = f.size ∧ 1 ≤ vs.length ∧ vs.length ≤ 3 := by
  cases h with
  | is h => exact .inl ⟨_, _, rfl, h, rfl⟩
  | get h => exact .inr (.inl ⟨_, _, rfl, h, rfl⟩)
  | @sum p v1 v2 a b h h1 h2 =>
    refine .inr (.inr ⟨p, "sum", [v1, v2], [a, b], rfl, h, .cons ⟨h1, ok.1, ?_⟩ (.cons ⟨h2, ok.2, ?_⟩ .nil), by decide +kernel, by decide +kernel, ?_, by simp, by simp⟩)
    · simp only [Fm.dep]; omega
    · simp only [Fm.dep]; omega
    · simp only [sizes, Fm.size]; omega
  | @same p v1 v2 a b h h1 h2 =>
    refine .inr (.inr ⟨p, "same", [v1, v2], [a, b], rfl, h, .cons ⟨h1, ok.1, ?_⟩ (.cons ⟨h2, ok.2, ?_⟩ .nil), by decide +kernel, by decide +kernel, ?_, by simp, by simp⟩)
    · simp only [Fm.dep]; omega
    · simp only [Fm.dep]; omega
    · simp only [sizes, Fm.size]; omega
  | @pick p v1 v2 v3 a b c h h1 h2 h3 =>
    refine .inr (.inr ⟨p, "pick", [v1, v2, v3], [a, b, c], rfl, h, .cons ⟨h1, ok.1, ?_⟩ (.cons ⟨h2, ok.2.1, ?_⟩ (.cons ⟨h3, ok.2.2, ?_⟩ .nil)), by decide +kernel, by decide +kernel, ?_, by simp, by simp⟩)
    · simp only [Fm.dep]; omega
    · simp only [Fm.dep]; omega
    · simp only [Fm.dep]; omega
    · simp only [sizes, Fm.size]; omega
theorem Kid.same {G G' : Hp} (e : Same G G') {n : Nat} {v : V} {c : Fm} (h : Kid G n v c) : Kid G' n v c := ⟨h.1.same' e, h.2⟩
theorem Fm.size_le (f : Fm) : f.size + 1 ≤ 3 ^ f.dep * 2 := by
  induction f with
  | is n => simp [Fm.size, Fm.dep]
  | get x => simp [Fm.size, Fm.dep]
  | sum a b ha hb =>
    simp only [Fm.size, Fm.dep]
    have h1 : 3 ^ a.dep ≤ 3 ^ max a.dep b.dep := Nat.pow_le_pow_right (by decide) (Nat.le_max_left _ _)
    have h2 : 3 ^ b.dep ≤ 3 ^ max a.dep b.dep := Nat.pow_le_pow_right (by decide) (Nat.le_max_right _ _)
    have h3 : 3 ^ (max a.dep b.dep + 1) = 3 ^ max a.dep b.dep * 3 := Nat.pow_succ ..
    omega
  | same a b ha hb =>
    simp only [Fm.size, Fm.dep]
    have h1 : 3 ^ a.dep ≤ 3 ^ max a.dep b.dep := Nat.pow_le_pow_right (by decide) (Nat.le_max_left _ _)
    have h2 : 3 ^ b.dep ≤ 3 ^ max a.dep b.dep := Nat.pow_le_pow_right (by decide) (Nat.le_max_right _ _)
    have h3 : 3 ^ (max a.dep b.dep + 1) = 3 ^ max a.dep b.dep * 3 := Nat.pow_succ ..
    omega
  | pick a b c ha hb hc =>
    simp only [Fm.size, Fm.dep]
    have h1 : 3 ^ a.dep ≤ 3 ^ max a.dep (max b.dep c.dep) := Nat.pow_le_pow_right (by decide) (Nat.le_max_left _ _)
    have h2 : 3 ^ b.dep ≤ 3 ^ max a.dep (max b.dep c.dep) := Nat.pow_le_pow_right (by decide) (by omega)
    have h2' : 3 ^ c.dep ≤ 3 ^ max a.dep (max b.dep c.dep) := Nat.pow_le_pow_right (by decide) (by omega)
    have h3 : 3 ^ (max a.dep (max b.dep c.dep) + 1) = 3 ^ max a.dep (max b.dep c.dep) * 3 := Nat.pow_succ ..
    omega
theorem Fm.size5 {f : Fm} (h : f.dep ≤ 5) : f.size ≤ 485 := by
  have h1 := f.size_le
  have h2 : 3 ^ f.dep ≤ 3 ^ 5 := Nat.pow_le_pow_right (by decide) h
  have h3 : 3 ^ 5 = 243 := rfl
  omega
/-! ### the names in a form -/
def Nms (xs : List V) : Prop := ∀ x ∈ xs, x = .str "item" ∨ x = .str "at"
theorem inV_str {x : Str} {xs : List V} (h : Nms xs) : inV (.str x) xs = decide (V.str x ∈ xs) := by
  unfold inV
  induction xs with
  | nil => rfl
  | cons y r ih =>
    rw [List.any_cons, ih fun z hz => h z (List.mem_cons_of_mem _ hz)]
    obtain ⟨z, rfl⟩ : ∃ z, y = .str z := by rcases h y List.mem_cons_self with h | h <;> exact ⟨_, h⟩
    show ((z == x) || decide (V.str x ∈ r)) = decide (V.str x ∈ V.str z :: r)
    by_cases e : x = z
    · subst e
      simp
    · have e2 : ¬ z = x := fun q => e q.symm
      simp [e, e2]
theorem nms_flat {xs : List V} (h : Nms xs) : xs.all flatV = true := by
  rw [List.all_eq_true]
  intro x hx
  rcases h x hx with rfl | rfl <;> rfl
theorem nms_len {xs : List V} (h : Nms xs) (nd : xs.Nodup) : xs.length ≤ 2 := by
  match xs, h, nd with
  | [], _, _ => simp
  | [_], _, _ => simp
  | [_, _], _, _ => simp
  | a :: b :: c :: r, h, nd =>
    exfalso
    simp only [List.nodup_cons, List.mem_cons, not_or] at nd
    obtain ⟨⟨h1, h2, _⟩, ⟨h3, _⟩, _⟩ := nd
    rcases h a (by simp) with rfl | rfl <;> rcases h b (by simp) with rfl | rfl <;> rcases h c (by simp) with rfl | rfl <;> first | exact h1 rfl | exact h2 rfl | exact h3 rfl
def spNames (d : Nat) : Sp := fun vs H Q _ => ∃ (G : Hp) (M : List (Addr × HO)) (v : V) (f : Fm), vs = [v] ∧ Sep G M H ∧ FmAt G v f ∧ f.ok ∧ f.dep ≤ d ∧
  ∀ (p : Addr) (xs : List V) (G' H' : Hp), Same G G' → Sep G' M H' → G' p = some (.tup xs) → Nms xs → xs.length ≤ 2 → Q (.ref p) H'
theorem cut_tl (x : V) (vs : List V) : cutV (x :: vs) (some 1) none = vs := by
  unfold cutV
  rw [show HT.sIx (x :: vs).length 0 (some 1) = min 1 (x :: vs).length from HT.sIx_nat _ 0 1, HT.sIx_none]
  rw [show min 1 (x :: vs).length = 1 by rw [List.length_cons]; omega]
  show (List.take ((x :: vs).length - 1) vs) = vs
  rw [List.length_cons, Nat.add_sub_cancel, List.take_length]
theorem ok_names_of (T : Top K mg w) : ∀ d : Nat, FnOk P w K mg base CX0 (d + 1) T.a_names_of T.d_names_of ["parts"] (spNames d)
  | 0 => fn_false fun vs H Q E h => by
    obtain ⟨G, M, v, f, _, _, _, _, hd, _⟩ := h
    have := f.dep_pos
    omega
  | d + 1 => by
    have G_names_of := ok_names_of T d
    refine T.F_names_of.ok sc_names_of (fun vs H Q E h => ?_) (fun cdv A outer s H vs Q E hr h => ?_)
    · obtain ⟨G, M, v, f, rfl, _⟩ := h
      rfl
    · obtain ⟨G, M, v, f, rfl, S, hf, ok, hd, q⟩ := h
      refine ⟨_, (pss_cons (xs_if (xt_cmp (op_eqLK K hr.u190) (pe_ix (ix_k K) (xv 0) pe_int (fun _ _ => rfl)) pe_str (nomark _))
      (pss_one (ps_ret (pe_tup pa_nil)))
      pss_nil)
      (pss_cons (xs_if (xt_cmp (op_eqLK K hr.u190) (pe_ix (ix_k K) (xv 0) pe_int (fun _ _ => rfl)) pe_str (nomark _))
      (pss_one (ps_ret (pe_tup (pa_cons (pe_ix (ix_k K) (xv 0) pe_int (fun _ _ => rfl)) pa_nil))))
      pss_nil)
      (pss_cons (ps_set (i := 1) sc_names_of.nd rfl (.inl rfl) (pe_lst pa_nil))
      (pss_cons (ps_for PassesOwn.never rfl (pi_tupK K (pe_slice sl_tup (xv 0) (po_some pe_int) po_none)) (pg_name (i := 2) sc_names_of.nd rfl (.inl rfl))
      (pss_one (ps_for PassesOwn.never rfl (pi_tupK K (pe_call G_names_of (hr.mono (by omega)) (by rfl) T.g_names_of T.F_names_of.kp T.b_names_of .nil pass0 (pa_cons (xv 2) pa_nil))) (pg_name (i := 3) sc_names_of.nd rfl (.inl rfl))
      (pss_one (xs_if (xt_cmp (notin_seqK K) (xv 3) (xv 1) (by rfl))
      (pss_one (ps_expr (pe_bmK K PySem.F.plainAttrs_list PySem.F.slot_list_append PySem.F.type_list_append mt_append (xv 1) (pa_cons (xv 3) pa_nil))))
      pss_nil)))))
      (pss_one (ps_ret (pe_callTy (call_tupleK K) (by rfl) T.m_tuple (by decide +kernel) (pa_cons (xv 1) pa_nil)))))))), ?_⟩
      rcases hf.kids ok with ⟨p, n, rfl, hp, rfl⟩ | ⟨p, x, rfl, hp, rfl⟩ | ⟨p, u, vs, cs, rfl, hp, hk, u1, u2, _, v1, v3⟩
      · have h1 := SqT.of (K := K) (S.st hp)
        exact ⟨_, _, .inr h1, rfl, fun _ => ⟨sz, fun t nt => q t [] _ _ (S.grow nt) (S.newG nt) upd_same (fun _ h => nomatch h) (by decide)⟩, we⟩
      · have h1 := SqT.of (K := K) (S.st hp)
        refine ⟨_, _, .inr h1, rfl, fun e => wd e, fun _ => ⟨_, _, .inr h1, rfl, fun _ => ⟨_, _, .inr h1, rfl, sz, fun t nt => q t [.str x] _ _ (S.grow nt) (S.newG nt) upd_same (fun y h => ?_) (by simp)⟩, we⟩⟩
        rw [List.mem_singleton.mp h]
        rcases ok with rfl | rfl
        · exact .inl rfl
        · exact .inr rfl
      · have h1 := SqT.of (K := K) (S.st hp)
        refine ⟨_, .str u, .inr h1, at0, fun e => wd e u1, fun _ => ⟨_, .str u, .inr h1, at0, fun e => wd e u2, fun _ => ?_⟩⟩
        refine ⟨sz, fun L nL => ?_⟩
        have S1 := S.new (o := .lst []) nL
        refine ⟨1, rfl, p, _, rfl, SqT.of (S1.st hp), ?_, fun t nt => ?_⟩
        · rintro ⟨z, _⟩
          rw [show HT.sIx (V.str u :: vs).length 0 (some 1) = min 1 (V.str u :: vs).length from HT.sIx_nat _ 0 1, List.length_cons] at z
          omega
        · rw [cut_tl] at *
          have S2 := S1.newG (o := .tup vs) nt
          have s2 := S1.grow (o := .tup vs) nt
          refine ⟨t, rfl, ⟨vs, SqT.of (S2.st upd_same)⟩, for_tup (xs := vs) (fun i σ H' => ∃ (y2 y3 : Option V) (G' : Hp) (xs : List V), σ = [some (.ref p), some (.ref L), y2, y3] ∧ Same (upd G t (.tup vs)) G' ∧ Sep G' ((L, .lst xs) :: M) H' ∧ Nms xs ∧ xs.Nodup)
            ⟨_, _, _, [], rfl, Same.refl _, S2, (fun _ h => nomatch h), List.nodup_nil⟩ (fun i σ H' _ h => ?_) (fun i x σ H' hx h => ?_) (fun σ H' h => ?_)⟩
          · obtain ⟨_, _, G', _, _, s3, S3, _⟩ := h
            exact SqT.of (S3.st (s3 _ _ upd_same))
          · obtain ⟨y2, y3, G', xs, rfl, s3, S3, nm, nd⟩ := h
            obtain ⟨c, _, hc, okc, dc⟩ := prd_get hk hx
            refine ⟨G', _, _, c, rfl, S3, hc.same' (s2.trans s3), okc, by omega, fun r ns G2 H2 s4 S4 hr nms nl => ?_⟩
            refine ⟨r, rfl, ⟨ns, SqT.of (S4.st hr)⟩, for_tup (xs := ns) (fun i σ H' => ∃ (y3 : Option V) (xs : List V), σ = [some (.ref p), some (.ref L), some x, y3] ∧ Sep G2 ((L, .lst xs) :: M) H' ∧ Nms xs ∧ xs.Nodup)
              ⟨_, xs, rfl, S4, nm, nd⟩ (fun i σ H' _ h => ?_) (fun i y σ H' hy h => ?_) (fun σ H' h => ?_)⟩
            · obtain ⟨_, _, _, S5, _⟩ := h
              exact SqT.of (S5.st hr)
            · obtain ⟨y3, xs, rfl, S5, nm, nd⟩ := h
              have hm : y = .str "item" ∨ y = .str "at" := nms y (List.mem_of_getElem? hy)
              obtain ⟨z, rfl⟩ : ∃ z, y = .str z := by rcases hm with h | h <;> exact ⟨_, h⟩
              have hz := nms_len nm nd
              refine ⟨L, xs, rfl, .inl (SqL.of S5.hd), rfl, nms_flat nm, fun e => ?_, fun e => ?_⟩
              · have hn : V.str z ∉ xs := by
                  have e2 : (!inV (.str z) xs) = true := e
                  rw [inV_str nm] at e2
                  simpa using e2
                refine ⟨.inl ⟨rfl, _, SqL.of S5.hd⟩, L, xs, _, rfl, rfl, S5.hd, smallL (by omega), ?_⟩
                refine ⟨_, xs ++ [.str z], rfl, S5.set, fun a ha => ?_, ?_⟩
                · rcases List.mem_append.mp ha with ha | ha
                  · exact nm a ha
                  · rw [List.mem_singleton.mp ha]
                    exact hm
                · rw [List.nodup_append]
                  refine ⟨nd, by simp, fun a ha b hb => ?_⟩
                  rw [List.mem_singleton.mp hb]
                  rintro rfl
                  exact hn ha
              · exact ⟨_, xs, rfl, S5, nm, nd⟩
            · obtain ⟨y3, xs, rfl, S5, nm, nd⟩ := h
              exact ⟨_, _, G2, xs, rfl, s3.trans s4, S5, nm, nd⟩
          · obtain ⟨y2, y3, G', xs, rfl, s3, S3, nm, nd⟩ := h
            have hz := nms_len nm nd
            refine ⟨L, xs, rfl, .inl ⟨SqL.of S3.hd, fun r nr => ?_⟩⟩
            have S4 := S3.frz
            exact q r xs _ _ ((s2.trans s3).trans (S3.frzS.trans (S4.grow nr))) (S4.newG nr) upd_same nm hz

end
end K25
set_option Elab.async false
set_option linter.all false
set_option maxRecDepth 100000
set_option maxHeartbeats 4000000
namespace K25
open PySem PySem.Spec PyProof.Rows L2 XL
section
variable {P : Program} {w : World} {K : PySem.W.Frag} {mg : Str → Option Value} {base : Heap}
/-! ### check_form -/
def Wt (G : Hp) (v : V) (c : Fm × Int) : Prop := ∃ (t : Addr) (u : V), v = .ref t ∧ G t = some (.tup [u, .int c.2]) ∧ FmAt G u c.1 ∧ c.1.ok ∧ c.2 + c.1.dep ≤ 6
theorem Wt.same {G G' : Hp} (e : Same G G') {v : V} {c : Fm × Int} (h : Wt G v c) : Wt G' v c := by
  obtain ⟨t, u, h1, h2, h3, h4⟩ := h
  exact ⟨t, u, h1, e _ _ h2, h3.same' e, h4⟩
def wsz : List (Fm × Int) → Nat
  | [] => 0
  | c :: r => c.1.size + wsz r
theorem wsz_app : ∀ (a b : List (Fm × Int)), wsz (a ++ b) = wsz a + wsz b
  | [], b => by simp [wsz]
  | c :: r, b => by simp only [List.cons_append, wsz, wsz_app r b]; omega
theorem wsz_len : ∀ (a : List (Fm × Int)), a.length ≤ wsz a
  | [] => by simp
  | c :: r => by
    have h1 := wsz_len r
    have h2 := c.1.size_pos
    simp only [List.length_cons, wsz]
    omega
theorem sizes_rev : ∀ (cs : List Fm) (l : Int), wsz (cs.reverse.map fun c => (c, l)) = sizes cs
  | [], _ => rfl
  | c :: r, l => by
    rw [List.reverse_cons, List.map_append, wsz_app, sizes_rev r l]
    simp only [List.map_cons, List.map_nil, wsz, sizes]
    omega
def spCheck : Sp := fun vs H Q _ => ∃ (G : Hp) (M : List (Addr × HO)) (v : V) (f : Fm), vs = [v] ∧ Sep G M H ∧ FmAt G v f ∧ f.ok ∧ f.dep ≤ 5 ∧ ∀ G' H', Same G G' → Sep G' M H' → Q .non H'
theorem ok_check_form (T : Top K mg w) {k : Nat} (G_is_part : FnOk P w K mg base CX0 k T.a_is_part T.d_is_part ["part"] (spPart K)) :
    FnOk P w K mg base CX0 (k + 1) T.a_check_form T.d_check_form ["parts"] spCheck := by
  refine T.F_check_form.ok sc_check_form (fun vs H Q E h => ?_) (fun cdv A outer s H vs Q E hr h => ?_)
  · obtain ⟨G, M, v, f, rfl, _⟩ := h
    rfl
  · obtain ⟨G, M, v, f, rfl, S, hf, ok, hd, q⟩ := h
    refine ⟨_, (pss_cons (ps_set (i := 1) sc_check_form.nd rfl (.inl rfl) (pe_lst (pa_cons (pe_tup (pa_cons (xv 0) (pa_cons pe_int pa_nil))) pa_nil)))
      (pss_cons (ps_set (i := 2) sc_check_form.nd rfl (.inl rfl) pe_int)
      (pss_cons (xs_while PassesOwn.never (xt_truK K (xv 1))
      (pss_cons (ps_asg (pe_bm0 PySem.F.plainAttrs_list PySem.F.slot_list_pop PySem.F.type_list_pop mt_pop (xv 1)) (pg_tupK K 2 (pgs_cons (pg_name (i := 3) sc_check_form.nd rfl (.inl rfl)) (pgs_cons (pg_name (i := 4) sc_check_form.nd rfl (.inl rfl)) pgs_nil))))
      (pss_cons (xs_if (pt_not (xt_truK K (pe_call G_is_part (hr.mono (by omega)) (by rfl) T.g_is_part T.F_is_part.kp T.b_is_part .nil pass0 (pa_cons (xv 3) pa_nil))))
      (pss_one ps_never)
      pss_nil)
      (xss_cut (xs_if (xt_cmp op_gtY (xv 4) (xv 2) (nomark _))
      (pss_one (ps_set (i := 2) sc_check_form.nd rfl (.inl rfl) (xv 4)))
      pss_nil)
      (pss_one (xs_if (PW.pt (xw_and (xt_cmp (op_neLK K hr.u190) (pe_ix (ix_k K) (xv 3) pe_int (fun _ _ => rfl)) pe_str (nomark _)) (pw_and1 (xt_cmp (op_neLK K hr.u190) (pe_ix (ix_k K) (xv 3) pe_int (fun _ _ => rfl)) pe_str (nomark _)))))
      (pss_one (ps_for PassesOwn.never rfl (pi_range3 (by rfl) T.m_range (pa_cons (pe_op op_subY (pe_callB (cr_lenK K) (by rfl) T.m_len (by decide +kernel) (pa_cons (xv 3) pa_nil)) pe_int) (pa_cons pe_int (pa_cons (pe_un un_neg pe_int) pa_nil)))) (pg_name (i := 5) sc_check_form.nd rfl (.inl rfl))
      (pss_one (ps_expr (pe_bmK K PySem.F.plainAttrs_list PySem.F.slot_list_append PySem.F.type_list_append mt_append (xv 1) (pa_cons (pe_tup (pa_cons (pe_ix (ix_k K) (xv 3) (xv 5) (fun _ _ => rfl)) (pa_cons (pe_op op_addY (xv 4) pe_int) pa_nil))) pa_nil))))))
      pss_nil))))))
      (pss_one (xs_if (xt_cmp op_gtY (xv 2) (xe_globI (by rfl) T.v_MOST_LEVELS) (nomark _))
      (pss_one ps_never)
      pss_nil))))), ?_⟩
    refine ⟨sz, fun t nt => ⟨sz, fun L nL => ?_⟩⟩
    have S1 := S.newG (o := .tup [v, .int 1]) nt
    have s1 := S.grow (o := .tup [v, .int 1]) nt
    have S2 := S1.new (o := .lst [.ref t]) nL
    refine ⟨fun m σ H' => ∃ (y3 y4 y5 : Option V) (ds : Int) (G' : Hp) (ws : List V) (cs : List (Fm × Int)), σ = [some v, some (.ref L), some (.int ds), y3, y4, y5] ∧ Same G G' ∧ Sep G' ((L, .lst ws) :: M) H' ∧ Paired (Wt G') ws cs ∧ ds ≤ 5 ∧ m = wsz cs ∧ m ≤ 485,
      ⟨f.size, _, _, _, 1, _, [.ref t], [(f, 1)], rfl, s1, S2, .cons ⟨t, v, rfl, upd_same, hf.same' s1, ok, by show (1 : Int) + f.dep ≤ 6; omega⟩ .nil, by decide, by simp [wsz], Fm.size5 hd⟩, fun m σ H' h => ?_⟩
    obtain ⟨y3, y4, y5, ds, G', ws, cs, rfl, s3, S3, hw, hds, rfl, hm⟩ := h
    refine ⟨!ws.isEmpty, .inl ⟨ws, SqL.of S3.hd, rfl⟩, fun e => ?_, fun e => ?_⟩
    · rcases nil_or_snoc ws with rfl | ⟨wp, x, rfl⟩
      · exact nomatch e
      obtain ⟨cp, c, rfl, hwp, t1, u, rfl, ht1, hu, oku, du⟩ := prd_unsnoc hw
      have S4 := S3.set (o' := .lst wp)
      -- part, level = waiting.pop()
      refine ⟨.inl ⟨rfl, _, SqL.of S3.hd⟩, L, wp ++ [.ref t1], .ref t1, rfl, rfl, S3.hd, by simp, ?_⟩
      rw [List.dropLast_concat]
      refine ⟨t1, _, rfl, SqT.of (S4.st ht1), rfl, _, _, rfl, _, _, rfl, rfl, ?_⟩
      refine ⟨G', _, u, c.1, rfl, S4, hu, oku, fun G5 H5 s5 S5 => ⟨ff, fun _ => ?_⟩⟩
      have hwp5 : Paired (Wt G5) wp cp := prd_imp (fun _ _ => Wt.same s5) hwp
      have hu5 := hu.same' s5
      have hdc := c.1.dep_pos
      have esz : wsz (cp ++ [c]) = wsz cp + c.1.size := by rw [wsz_app]; simp [wsz]
      have hcs := c.1.size_pos
      refine ⟨fun σ H6 => ∃ ds' : Int, ds' ≤ 5 ∧ σ = [some v, some (.ref L), some (.int ds'), some u, some (.int c.2), y5] ∧ H6 = H5, ⟨fun e => ⟨c.2, by omega, rfl, rfl⟩, fun e => ⟨ds, hds, rfl, rfl⟩⟩, fun σ H6 h => ?_⟩
      obtain ⟨ds', hds', rfl, rfl⟩ := h
      have stop : ∃ m', m' < wsz (cp ++ [c]) ∧ ∃ (y3 y4 y5' : Option V) (ds : Int) (G' : Hp) (ws : List V) (cs : List (Fm × Int)), ([some v, some (.ref L), some (.int ds'), some u, some (.int c.2), y5] : List (Option V)) = [some v, some (.ref L), some (.int ds), y3, y4, y5'] ∧
          Same G G' ∧ Sep G' ((L, .lst ws) :: M) H6 ∧ Paired (Wt G') ws cs ∧ ds ≤ 5 ∧ m' = wsz cs ∧ m' ≤ 485 := ⟨wsz cp, by omega, _, _, _, ds', G5, wp, cp, rfl, s3.trans s5, S5, hwp5, hds', rfl, by omega⟩
      rcases hu5.kids oku with ⟨p, n, rfl, hp, _⟩ | ⟨p, n, rfl, hp, _⟩ | ⟨p, n, vs, ks, rfl, hp, hk, u1, u2, hsz, v1, v3⟩
      · have h1 := SqT.of (K := K) (S5.st hp)
        exact ⟨_, _, .inr h1, rfl, fun e => wm e, fun _ => ⟨ff, fun _ => stop⟩⟩
      · have h1 := SqT.of (K := K) (S5.st hp)
        exact ⟨_, _, .inr h1, rfl, fun _ => ⟨_, _, .inr h1, rfl, fun e => wm e, fun _ => stop⟩, fun e => wn e⟩
      · have h1 := SqT.of (K := K) (S5.st hp)
        refine ⟨_, .str n, .inr h1, at0, fun _ => ⟨_, .str n, .inr h1, at0, fun _ => ?_, fun e => wn e u2⟩, fun e => wn e u1⟩
        refine ⟨_, .inr h1, 1, rfl, (vs.length : Int), 0, -1, vs.length, ?_, ?_, for_rangeC (lo := (vs.length : Int)) (c := -1) (n := vs.length) (fun i σ H' => ∃ (y5 : Option V) (G' : Hp) (ns : List V) (ms : List (Fm × Int)), σ = [some v, some (.ref L), some (.int ds'), some (.ref p), some (.int c.2), y5] ∧
          Same G5 G' ∧ Sep G' ((L, .lst (wp ++ ns)) :: M) H' ∧ Paired (Wt G') ns ms ∧ ms = (ks.reverse.map fun k => (k, c.2 + 1)).take i) ?_ (fun i σ H' hi h => ?_) (fun σ H' h => ?_)⟩
        · have e1 : (((V.str n :: vs).length : Nat) : Int) - 1 = vs.length := by rw [List.length_cons]; omega
          show [V.int ((((V.str n :: vs).length : Nat) : Int) - 1), V.int 0, V.int (-1)] = _
          rw [e1]
        · have z := RgC.neg (i := (vs.length : Int)) (j := 0) (by omega) (by omega) (by omega) (by omega)
          have e1 : ((vs.length : Int) - 0).toNat = vs.length := by omega
          rw [e1] at z
          exact z
        · exact ⟨_, G5, [], [], rfl, Same.refl _, by rw [List.append_nil]; exact S5, .nil, rfl⟩
        · obtain ⟨y5, G6, ns, ms, rfl, s6, S6, hn, rfl⟩ := h
          have hkl := prd_len hk
          have hj : vs.length - 1 - i < vs.length := by omega
          have hx : vs[vs.length - 1 - i]? = some vs[vs.length - 1 - i] := List.getElem?_eq_getElem hj
          obtain ⟨kc, hkc, hkk⟩ := prd_get hk hx
          have hat : atI (V.str n :: vs) ((vs.length : Int) + (i : Nat) * (-1)) = some vs[vs.length - 1 - i] := by
            have e1 : (vs.length : Int) + (i : Nat) * (-1) = ((vs.length - i : Nat) : Int) := by omega
            rw [e1]
            refine atI_nat ?_
            have e2 : vs.length - i = (vs.length - 1 - i) + 1 := by omega
            rw [e2, List.getElem?_cons_succ]
            exact hx
          have hnl := prd_len hn
          have hml : ((ks.reverse.map fun k => (k, c.2 + 1)).take i).length ≤ 3 := by
            rw [List.length_take]
            omega
          have hwl := prd_len hwp5
          have hcl := wsz_len cp
          refine ⟨.inl ⟨rfl, _, SqL.of S6.hd⟩, _, _, .inr (SqT.of (S6.st (s6 _ _ hp))), hat, sz, fun d nd => ?_⟩
          have S7 := S6.newG (o := .tup [vs[vs.length - 1 - i], .int (c.2 + 1)]) nd
          have s7 := S6.grow (o := .tup [vs[vs.length - 1 - i], .int (c.2 + 1)]) nd
          refine ⟨L, _, _, rfl, rfl, S7.hd, ?_, ?_⟩
          · rw [List.length_append]
            exact smallL (by omega)
          · refine ⟨_, _, ns ++ [.ref d], _, rfl, s6.trans s7, by rw [← List.append_assoc]; exact S7.set, (prd_imp (fun _ _ => Wt.same s7) hn).snoc (b := (kc, c.2 + 1)) ⟨d, _, rfl, upd_same, (hkk.1.same' s6).same' s7, hkk.2.1, ?_⟩, ?_⟩
            · have z := hkk.2.2
              show c.2 + 1 + kc.dep ≤ 6
              omega
            · refine (XL.take_snoc ?_).symm
              rw [List.getElem?_map, List.getElem?_reverse (by omega)]
              have e3 : ks.length - 1 - i = vs.length - 1 - i := by omega
              rw [e3, hkc]
              rfl
        · obtain ⟨y5, G6, ns, ms, rfl, s6, S6, hn, rfl⟩ := h
          have hkl := prd_len hk
          have e1 : (ks.reverse.map fun k => (k, c.2 + 1)).take vs.length = ks.reverse.map fun k => (k, c.2 + 1) := List.take_of_length_le (by simp; omega)
          rw [e1] at hn
          have e2 : wsz (cp ++ ks.reverse.map fun k => (k, c.2 + 1)) = wsz cp + sizes ks := by rw [wsz_app, sizes_rev]
          exact ⟨wsz (cp ++ ks.reverse.map fun k => (k, c.2 + 1)), by omega, _, _, _, ds', G6, _, _, rfl, (s3.trans s5).trans s6, S6, prd_app (prd_imp (fun _ _ => Wt.same s6) hwp5) hn, hds', rfl, by omega⟩
    · refine ⟨fun e => ?_, fun e => ?_⟩
      · have z : (5 : Int) < ds := of_decide_eq_true e
        omega
      · exact q _ _ (s3.trans S3.frzS) S3.frz
/-! ### rows -/
structure RowOk (ns : List Int) : Prop where
  len : ns.length ≤ 5
  nd : ns.Nodup
  lo : ∀ n ∈ ns, 0 ≤ n ∧ n ≤ 9
theorem inV_int {x : Int} (xs : List Int) : inV (.int x) (xs.map V.int) = decide (x ∈ xs) := by
  unfold inV
  induction xs with
  | nil => rfl
  | cons y r ih =>
    rw [List.map_cons, List.any_cons, ih]
    show ((y == x) || decide (x ∈ r)) = decide (x ∈ y :: r)
    by_cases e : x = y
    · subst e; simp
    · have e2 : ¬ y = x := fun q => e q.symm
      simp [e, e2]
theorem ints_flat (xs : List Int) : (xs.map V.int).all flatV = true := by
  rw [List.all_eq_true]
  intro x hx
  obtain ⟨n, _, rfl⟩ := List.mem_map.mp hx
  rfl
def spRow (K : PySem.W.Frag) : Sp := fun vs H Q _ => ∃ (G : Hp) (M : List (Addr × HO)) (r : Addr) (ns : List Int), vs = [.ref r] ∧ Sep G M H ∧ Tu G r (ns.map V.int) ∧ RowOk ns ∧ ∀ G' H', Same G G' → Sep G' M H' → Q .non H'
theorem ok_check_row (T : Top K mg w) {k : Nat} : FnOk P w K mg base CX0 (k + 1) T.a_check_row T.d_check_row ["row"] (spRow K) := by
  refine T.F_check_row.ok sc_check_row (fun vs H Q E h => ?_) (fun cdv A outer s H vs Q E hr h => ?_)
  · obtain ⟨G, M, r, ns, rfl, _⟩ := h
    rfl
  · obtain ⟨G, M, r, ns, rfl, S, hr', ro, q⟩ := h
    refine ⟨_, (pss_cons (xs_if (PW.pt (xw_or (pt_not (xt_truK K (pe_callB (call_isK K) (by rfl) T.m_isinstance (by decide +kernel) (pa_cons (xv 0) (pa_cons (pe_bltn (v := .ty "tuple") (by rfl) T.m_tuple (by decide +kernel) rfl) pa_nil))))) (pw_or1 (xt_cmp op_gtY (pe_callB (cr_lenK K) (by rfl) T.m_len (by decide +kernel) (pa_cons (xv 0) pa_nil)) (xe_globI (by rfl) T.v_MOST_ITEMS) (nomark _)))))
      (pss_one ps_never)
      pss_nil)
      (pss_cons (ps_set (i := 1) sc_check_row.nd rfl (.inl rfl) (pe_lst pa_nil))
      (pss_one (ps_for PassesOwn.never rfl (pi_tupK K (xv 0)) (pg_name (i := 2) sc_check_row.nd rfl (.inl rfl))
      (pss_cons (xs_if (PW.pt (xw_or (pt_not (xt_truK K (pe_callB (call_isK K) (by rfl) T.m_isinstance (by decide +kernel) (pa_cons (xv 2) (pa_cons (pe_bltn (v := .ty "int") (by rfl) T.m_int (by decide +kernel) rfl) pa_nil))))) (pw_or1 (xt_truK K (pe_callB (call_isK K) (by rfl) T.m_isinstance (by decide +kernel) (pa_cons (xv 2) (pa_cons (pe_bltn (v := .ty "bool") (by rfl) T.m_bool (by decide +kernel) rfl) pa_nil)))))))
      (pss_one ps_never)
      pss_nil)
      (pss_cons (xs_if (PW.pt (xw_or (xt_cmp op_ltY (xv 2) pe_int (nomark _)) (xw_or (xt_cmp op_gtY (xv 2) pe_int (nomark _)) (pw_or1 (xt_cmp (in_seqK K) (xv 2) (xv 1) (by rfl))))))
      (pss_one ps_never)
      pss_nil)
      (pss_one (ps_expr (pe_bmK K PySem.F.plainAttrs_list PySem.F.slot_list_append PySem.F.type_list_append mt_append (xv 1) (pa_cons (xv 2) pa_nil)))))))))), ?_⟩
    have h1 := (hr'.same S.1).sq (K := K)
    refine ⟨_, _, _, _, true, rfl, .ty _, (hr'.same S.1).ty, kit_ty (by decide +kernel), ff, fun _ => ⟨_, .inr h1, fun e => ?_, fun _ => ?_⟩⟩
    · have z : (5 : Int) < ((ns.map V.int).length : Nat) := of_decide_eq_true e
      rw [List.length_map] at z
      have := ro.len
      omega
    · refine ⟨sz, fun L nL => ?_⟩
      have S1 := S.new (o := .lst []) nL
      refine ⟨r, rfl, ⟨_, (hr'.same S1.1).sq⟩, for_tup (xs := ns.map V.int) (fun i σ H' => ∃ y2, σ = [some (.ref r), some (.ref L), y2] ∧ Sep G ((L, .lst ((ns.take i).map V.int)) :: M) H') ⟨_, rfl, S1⟩ (fun i σ H' _ h => ?_) (fun i x σ H' hx h => ?_) (fun σ H' h => ?_)⟩
      · obtain ⟨_, _, S2⟩ := h
        exact (hr'.same S2.1).sq
      · obtain ⟨y2, rfl, S2⟩ := h
        rw [List.getElem?_map] at hx
        obtain ⟨n, hn, rfl⟩ := Option.map_eq_some_iff.mp hx
        have hnm : n ∈ ns := List.mem_of_getElem? hn
        have hnl := ro.lo n hnm
        have hni : n ∉ ns.take i := by
          intro hm
          have nd := ro.nd
          rw [(take_pre hn).1, List.nodup_append] at nd
          exact nd.2.2 n hm n (by simp) rfl
        refine ⟨_, _, _, _, true, rfl, .ty _, .base (.int _), kit_ty (by decide +kernel), ff, fun _ => ⟨_, _, _, _, false, rfl, .ty _, .base (.int _), kit_ty (by decide +kernel), ff, fun _ => ?_⟩⟩
        refine ⟨fun e => absurd (of_decide_eq_true e) (by omega), fun _ => ⟨fun e => absurd (of_decide_eq_true e) (by omega), fun _ => ⟨L, _, rfl, .inl (SqL.of S2.hd), rfl, ints_flat _, fun e => ?_, fun _ => ?_⟩⟩⟩
        · have e2 : inV (.int n) ((ns.take i).map V.int) = true := e
          rw [inV_int] at e2
          exact absurd (of_decide_eq_true e2) hni
        · refine ⟨.inl ⟨rfl, _, SqL.of S2.hd⟩, L, _, _, rfl, rfl, S2.hd, ?_, ?_⟩
          · rw [List.length_map, List.length_take]
            have := ro.len
            exact smallL (by omega)
          · refine ⟨_, rfl, ?_⟩
            rw [take_snoc hn, List.map_append]
            exact S2.set
      · obtain ⟨y2, rfl, S2⟩ := h
        exact q _ _ S2.frzS S2.frz

end
end K25
set_option Elab.async false
set_option linter.all false
set_option maxRecDepth 100000
set_option maxHeartbeats 4000000
namespace K25
open PySem PySem.Spec PyProof.Rows L2 XL
section
variable {P : Program} {w : World} {K : PySem.W.Frag} {mg : Str → Option Value} {base : Heap}
/-! ### idents -/
def Pr (G : Hp) (v : V) (p : Int × Int) : Prop := ∃ a, v = .ref a ∧ G a = some (.tup [.int p.1, .int p.2])
theorem Pr.same {G G' : Hp} (e : Same G G') {v : V} {p : Int × Int} (h : Pr G v p) : Pr G' v p := by
  obtain ⟨a, h1, h2⟩ := h
  exact ⟨a, h1, e _ _ h2⟩
def gv (f : Fm) (ns : List Int) (k : Nat) : Int := f.val (ns.getD k 0) k
def idt (f : Fm) (ns : List Int) (k : Nat) : Int × Int := (gv f ns k, (((List.range k).map (gv f ns)).count (gv f ns k) : Nat))
def ids (f : Fm) (ns : List Int) : List (Int × Int) := (List.range ns.length).map (idt f ns)
def spIdents (K : PySem.W.Frag) : Sp := fun vs H Q _ => ∃ (G : Hp) (M : List (Addr × HO)) (v : V) (f : Fm) (r : Addr) (ns : List Int), vs = [v, .ref r] ∧ Sep G M H ∧ FmAt G v f ∧ f.ok ∧ f.dep ≤ 5 ∧ Tu G r (ns.map V.int) ∧ ns.length ≤ 5 ∧
  ∀ (p : Addr) (ws : List V) (G' H' : Hp), Same G G' → Sep G' M H' → TupF G' p ws → Paired (Pr G') ws (ids f ns) → Q (.ref p) H'
theorem at_int {ns : List Int} {i : Nat} (h : i < ns.length) : atI (ns.map V.int) (i : Int) = some (.int (ns.getD i 0)) := by
  refine atI_nat ?_
  rw [List.getElem?_map, List.getElem?_eq_getElem h, List.getD_eq_getElem?_getD, List.getElem?_eq_getElem h]
  rfl
theorem ok_idents_of (T : Top K mg w) (G_value_of : FnOk P w K mg base CX0 6 T.a_value_of T.d_value_of ["parts", "values"] (spValue 5)) : FnOk P w K mg base CX0 7 T.a_idents_of T.d_idents_of ["parts", "row"] (spIdents K) := by
  refine T.F_idents_of.ok sc_idents_of (fun vs H Q E h => ?_) (fun cdv A outer s H vs Q E hr h => ?_)
  · obtain ⟨G, M, v, f, r, ns, rfl, _⟩ := h
    rfl
  · obtain ⟨G, M, v, f, r, ns, rfl, S, hf, ok, hd, hr', hl, q⟩ := h
    refine ⟨_, (pss_cons (ps_set (i := 2) sc_idents_of.nd rfl (.inl rfl) (pe_lst pa_nil))
      (pss_cons (ps_set (i := 3) sc_idents_of.nd rfl (.inl rfl) (pe_lst pa_nil))
      (pss_cons (ps_for PassesOwn.never rfl (pi_range1 (by rfl) T.m_range (pa_cons (pe_callB (cr_lenK K) (by rfl) T.m_len (by decide +kernel) (pa_cons (xv 1) pa_nil)) pa_nil)) (pg_name (i := 4) sc_idents_of.nd rfl (.inl rfl))
      (pss_cons (ps_set (i := 5) sc_idents_of.nd rfl (.inl rfl) (pe_call G_value_of (hr.mono (by omega)) (by rfl) T.g_value_of T.F_value_of.kp T.b_value_of .nil pass0 (pa_cons (xv 0) (pa_cons (pe_disp (pps_cons pe_str (pe_ix (ix_k K) (xv 1) (xv 4) (fun _ _ => rfl)) (pps_cons pe_str (xv 4) pps_nil)) (by rfl) (by rfl) (fun z => by cases z) (by decide)) pa_nil))))
      (pss_cons (ps_expr (pe_bmK K PySem.F.plainAttrs_list PySem.F.slot_list_append PySem.F.type_list_append mt_append (xv 3) (pa_cons (pe_tup (pa_cons (xv 5) (pa_cons (pe_bmK K PySem.F.plainAttrs_list PySem.F.slot_list_count PySem.F.type_list_count (mt_countK K) (xv 2) (pa_cons (xv 5) pa_nil)) pa_nil))) pa_nil)))
      (pss_one (ps_expr (pe_bmK K PySem.F.plainAttrs_list PySem.F.slot_list_append PySem.F.type_list_append mt_append (xv 2) (pa_cons (xv 5) pa_nil)))))))
      (pss_one (ps_ret (pe_callTy (call_tupleFK K) (by rfl) T.m_tuple (by decide +kernel) (pa_cons (xv 3) pa_nil))))))), ?_⟩
    refine ⟨sz, fun VL nV => ⟨sz, fun IL nI => ?_⟩⟩
    have S1 := S.new (o := .lst []) nV
    have S2 := (S1.new (o := .lst []) nI).sw
    refine ⟨_, .inr (hr'.same S2.1).sq, _, rfl, by simp, by simp; omega, ?_⟩
    rw [show (((ns.map V.int).length : Nat) : Int).toNat = ns.length by simp]
    refine for_range (lo := 0) (n := ns.length) (fun i σ H' => ∃ (y4 y5 : Option V) (G' : Hp) (ws : List V), σ = [some v, some (.ref r), some (.ref VL), some (.ref IL), y4, y5] ∧ Same G G' ∧
      Sep G' ((VL, .lst (((List.range i).map (gv f ns)).map V.int)) :: (IL, .lst ws) :: M) H' ∧ Paired (Pr G') ws ((List.range i).map (idt f ns))) ⟨_, _, G, [], rfl, Same.refl _, S2, .nil⟩ (fun i σ H' hi h => ?_) (fun σ H' h => ?_)
    · obtain ⟨y4, y5, G', ws, rfl, s3, S3, hw⟩ := h
      have hwl := prd_len hw
      rw [List.length_map, List.length_range] at hwl
      rw [Int.zero_add]
      intro d nd
      have S4 := S3.new (o := .dK []) nd
      refine ⟨_, _, .inr ((hr'.same s3).same S4.1).sq, at_int hi, S4.hd, [(.inr "item", .int (ns.getD i 0)), (.inr "at", .int i)], rfl, by simp, ?_⟩
      rw [env_merge]
      have S5 := S4.set (o' := .dK (env2 (ns.getD i 0) i))
      refine ⟨G', _, v, f, d, ns.getD i 0, i, rfl, S5, hf.same' s3, ok, hd, S5.hd, ?_⟩
      have S6 := S5.drop
      have S7 := S6.sw
      refine ⟨.inl ⟨rfl, _, SqL.of S7.hd⟩, .inl ⟨rfl, _, SqL.of S6.hd⟩, VL, (List.range i).map (gv f ns), f.val (ns.getD i 0) i, rfl, rfl, SqL.of S6.hd, sz, fun t nt => ?_⟩
      have S8 := S7.newG (o := .tup [.int (f.val (ns.getD i 0) i), .int (((List.range i).map (gv f ns)).count (f.val (ns.getD i 0) i) : Nat)]) nt
      have s8 := S7.grow (o := .tup [.int (f.val (ns.getD i 0) i), .int (((List.range i).map (gv f ns)).count (f.val (ns.getD i 0) i) : Nat)]) nt
      refine ⟨IL, ws, _, rfl, rfl, S8.hd, smallL (by omega), ?_⟩
      have S9 := (S8.set (o' := .lst (ws ++ [.ref t]))).sw
      refine ⟨.inl ⟨rfl, _, SqL.of S9.hd⟩, VL, _, _, rfl, rfl, S9.hd, ?_, ?_⟩
      · rw [List.length_map, List.length_map, List.length_range]
        exact smallL (by omega)
      · refine ⟨_, _, _, ws ++ [.ref t], rfl, s3.trans s8, ?_, ?_⟩
        · rw [List.range_succ, List.map_append, List.map_append]
          exact S9.set
        · rw [List.range_succ, List.map_append]
          exact (prd_imp (fun _ _ => Pr.same s8) hw).snoc ⟨t, rfl, upd_same⟩
    · obtain ⟨y4, y5, G', ws, rfl, s3, S3, hw⟩ := h
      have S4 := S3.drop
      refine ⟨IL, ws, rfl, .inl ⟨SqL.of S4.hd, fun t ob nt hob => ?_⟩⟩
      have S5 := S4.frz
      have z := S4.frzS.trans (S5.grow (o := .frz ob (.tup ws)) nt)
      exact q t ws _ _ (s3.trans z) (S5.newG nt) ⟨ob, hob, upd_same⟩ (prd_imp (fun _ _ => Pr.same z) hw)
/-! ### at most -/
def Cons (xs : List (Int × Int)) : Prop := ∀ p ∈ xs, ∀ q ∈ xs, p.1 = q.1 → p.2 = q.2
def rowT (f s : Fm) (i j : Nat) : Int × Int := (s.val i j, f.val i j)
def tabTo (f s : Fm) (i j : Nat) : List (Int × Int) := ((List.range i).flatMap fun a => (List.range 5).map (rowT f s a)) ++ (List.range j).map (rowT f s i)
def tab (f s : Fm) : List (Int × Int) := tabTo f s 10 0
theorem tab_row (f s : Fm) (i : Nat) : tabTo f s i 5 = tabTo f s (i + 1) 0 := by
  unfold tabTo
  rw [List.range_succ (n := i), List.flatMap_append]
  simp
theorem tab_step (f s : Fm) (i j : Nat) : tabTo f s i (j + 1) = tabTo f s i j ++ [rowT f s i j] := by
  unfold tabTo
  rw [List.range_succ (n := j), List.map_append, ← List.append_assoc]
  rfl
structure DI (kvs : List (Key × V)) (xs : List (Int × Int)) : Prop where
  cons : Cons xs
  at_ : ∀ p ∈ xs, valV kvs (.inl p.1) = some (.int p.2)
  of : ∀ k v, valV kvs (.inl k) = some v → ∃ p ∈ xs, p.1 = k
  len : kvs.length ≤ xs.length
theorem DI.nil : DI [] [] := ⟨fun _ h => (nomatch h), fun _ h => (nomatch h), fun _ _ h => (nomatch h), Nat.le_refl _⟩
theorem DI.old {kvs : List (Key × V)} {xs : List (Int × Int)} (d : DI kvs xs) {p : Int × Int} (h : valV kvs (.inl p.1) = some (.int p.2)) : DI kvs (xs ++ [p]) := by
  obtain ⟨q, hq, eq⟩ := d.of _ _ h
  have e2 : q.2 = p.2 := by
    have z := d.at_ q hq
    rw [eq, h] at z
    injection z with z
    injection z with z
    exact z.symm
  have cs : ∀ a ∈ xs ++ [p], a.1 = p.1 → a.2 = p.2 := fun a ha e => by
    rcases List.mem_append.mp ha with ha | ha
    · rw [d.cons a ha q hq (e.trans eq.symm), e2]
    · rw [List.mem_singleton.mp ha]
  refine ⟨fun a ha b hb e => ?_, fun a ha => ?_, fun k v hv => ?_, ?_⟩
  · rcases List.mem_append.mp ha with h1 | h1
    · rcases List.mem_append.mp hb with h2 | h2
      · exact d.cons a h1 b h2 e
      · rw [List.mem_singleton.mp h2] at e ⊢
        exact cs a ha e
    · rw [List.mem_singleton.mp h1] at e ⊢
      exact (cs b hb e.symm).symm
  · rcases List.mem_append.mp ha with ha | ha
    · exact d.at_ a ha
    · rw [List.mem_singleton.mp ha]
      exact h
  · obtain ⟨b, hb, e⟩ := d.of k v hv
    exact ⟨b, List.mem_append_left _ hb, e⟩
  · rw [List.length_append]
    exact Nat.le_trans d.len (Nat.le_add_right _ _)
theorem DI.new {kvs : List (Key × V)} {xs : List (Int × Int)} (d : DI kvs xs) {p : Int × Int} (h : valV kvs (.inl p.1) = none) : DI (putK kvs (.inl p.1) (.int p.2)) (xs ++ [p]) := by
  have no : ∀ a ∈ xs, a.1 ≠ p.1 := fun a ha e => by
    have z := d.at_ a ha
    rw [e, h] at z
    cases z
  refine ⟨fun a ha b hb e => ?_, fun a ha => ?_, fun k v hv => ?_, ?_⟩
  · rcases List.mem_append.mp ha with h1 | h1
    · rcases List.mem_append.mp hb with h2 | h2
      · exact d.cons a h1 b h2 e
      · rw [List.mem_singleton.mp h2] at e
        exact absurd e (no a h1)
    · rcases List.mem_append.mp hb with h2 | h2
      · rw [List.mem_singleton.mp h1] at e
        exact absurd e.symm (no b h2)
      · rw [List.mem_singleton.mp h1, List.mem_singleton.mp h2]
  · rcases List.mem_append.mp ha with ha | ha
    · rw [valV_put, if_neg (fun z => no a ha (Sum.inl.inj z))]
      exact d.at_ a ha
    · rw [List.mem_singleton.mp ha]
      rw [valV_put, if_pos rfl]
  · by_cases e : k = p.1
    · exact ⟨p, by simp, e.symm⟩
    · rw [valV_put, if_neg (fun z => e (Sum.inl.inj z))] at hv
      obtain ⟨b, hb, e⟩ := d.of k v hv
      exact ⟨b, List.mem_append_left _ hb, e⟩
  · rw [putK_new _ h, List.length_append, List.length_append]
    have := d.len
    simp
    omega
def spAtMost (K : PySem.W.Frag) : Sp := fun vs H Q _ => ∃ (G : Hp) (M : List (Addr × HO)) (v u : V) (f s : Fm), vs = [v, u] ∧ Sep G M H ∧ FmAt G v f ∧ f.ok ∧ f.dep ≤ 5 ∧ FmAt G u s ∧ s.ok ∧ s.dep ≤ 5 ∧
  ∀ (b : Bool) (G' H' : Hp), (b = true ↔ Cons (tab f s)) → Same G G' → Sep G' M H' → Q (.bl b) H'
theorem mem_tab {f s : Fm} {i j : Nat} (hi : i < 10) (hj : j < 5) : rowT f s i j ∈ tab f s := by
  unfold tab tabTo
  rw [List.mem_append]
  left
  rw [List.mem_flatMap]
  exact ⟨i, List.mem_range.mpr hi, List.mem_map.mpr ⟨j, List.mem_range.mpr hj, rfl⟩⟩
theorem mem_tabTo {f s : Fm} {i j : Nat} {p : Int × Int} (h : p ∈ tabTo f s i j) : ∃ a b, (a < i ∧ b < 5 ∨ a = i ∧ b < j) ∧ p = rowT f s a b := by
  unfold tabTo at h
  rcases List.mem_append.mp h with h | h
  · obtain ⟨a, ha, h⟩ := List.mem_flatMap.mp h
    obtain ⟨b, hb, rfl⟩ := List.mem_map.mp h
    exact ⟨a, b, .inl ⟨List.mem_range.mp ha, List.mem_range.mp hb⟩, rfl⟩
  · obtain ⟨b, hb, rfl⟩ := List.mem_map.mp h
    exact ⟨i, b, .inr ⟨rfl, List.mem_range.mp hb⟩, rfl⟩
theorem tab_sub {f s : Fm} {i j : Nat} (hi : i < 10) (hj : j < 5) {p : Int × Int} (h : p ∈ tabTo f s i j) : p ∈ tab f s := by
  obtain ⟨a, b, h, rfl⟩ := mem_tabTo h
  exact mem_tab (by omega) (by omega)
theorem tabTo_len (f s : Fm) (i j : Nat) : (tabTo f s i j).length = i * 5 + j := by
  unfold tabTo
  rw [List.length_append, List.length_map, List.length_range]
  congr 1
  induction i with
  | zero => rfl
  | succ i ih =>
    rw [List.range_succ (n := i), List.flatMap_append, List.length_append, ih]
    simp
    omega
theorem ok_at_most (T : Top K mg w) (G_value_of : FnOk P w K mg base CX0 6 T.a_value_of T.d_value_of ["parts", "values"] (spValue 5)) : FnOk P w K mg base CX0 7 T.a_at_most T.d_at_most ["first", "second"] (spAtMost K) := by
  refine T.F_at_most.ok sc_at_most (fun vs H Q E h => ?_) (fun cdv A outer s H vs Q E hr h => ?_)
  · obtain ⟨G, M, v, u, f, s, rfl, _⟩ := h
    rfl
  · obtain ⟨G, M, v, u, f, s', rfl, S, hf, okf, hdf, hs, oks, hds, q⟩ := h
    refine ⟨_, (pss_cons (ps_set (i := 2) sc_at_most.nd rfl (.inl rfl) pe_dnewK)
      (pss_cons (ps_for PassesOwn.never rfl (pi_range1 (by rfl) T.m_range (pa_cons pe_int pa_nil)) (pg_name (i := 3) sc_at_most.nd rfl (.inl rfl))
      (pss_one (ps_for PassesOwn.never rfl (pi_range1 (by rfl) T.m_range (pa_cons (xe_globI (by rfl) T.v_MOST_ITEMS) pa_nil)) (pg_name (i := 4) sc_at_most.nd rfl (.inl rfl))
      (pss_cons (ps_set (i := 5) sc_at_most.nd rfl (.inl rfl) (pe_call G_value_of (hr.mono (by omega)) (by rfl) T.g_value_of T.F_value_of.kp T.b_value_of .nil pass0 (pa_cons (xv 1) (pa_cons (pe_disp (pps_cons pe_str (xv 3) (pps_cons pe_str (xv 4) pps_nil)) (by rfl) (by rfl) (fun z => by cases z) (by decide)) pa_nil))))
      (pss_cons (ps_set (i := 6) sc_at_most.nd rfl (.inl rfl) (pe_call G_value_of (hr.mono (by omega)) (by rfl) T.g_value_of T.F_value_of.kp T.b_value_of .nil pass0 (pa_cons (xv 0) (pa_cons (pe_disp (pps_cons pe_str (xv 3) (pps_cons pe_str (xv 4) pps_nil)) (by rfl) (by rfl) (fun z => by cases z) (by decide)) pa_nil))))
      (pss_one (xs_if (pt_cmp (pc_dnotin (hu_of hr) (xv 5) (xv 2)))
      (pss_one (ps_dput (hu_of hr) (xv 2) (xv 5) (xv 6) rfl))
      (pss_one (xs_if (xt_cmp (op_neLK K hr.u190) (pe_dget (hu_of hr) (xv 2) (xv 5) (fun _ _ => rfl)) (xv 6) (nomark _))
      (pss_one (ps_ret pe_bl))
      pss_nil)))))))))
      (pss_one (ps_ret pe_bl)))), ?_⟩
    intro F nF
    have S1 := S.new (o := .dK []) nF
    refine ⟨10, rfl, by decide, by decide, for_range (lo := 0) (n := 10) (fun i σ H' => ∃ (y3 y4 y5 y6 : Option V) (kvs : List (Key × V)), σ = [some v, some u, some (.ref F), y3, y4, y5, y6] ∧
      Sep G ((F, .dK kvs) :: M) H' ∧ DI kvs (tabTo f s' i 0)) ⟨_, _, _, _, [], rfl, S1, DI.nil⟩ (fun i σ H' hi h => ?_) (fun σ H' h => ?_)⟩
    · obtain ⟨y3, y4, y5, y6, kvs, rfl, S2, di⟩ := h
      refine ⟨5, rfl, by decide, by decide, for_range (lo := 0) (n := 5) (fun j σ H' => ∃ (y4 y5 y6 : Option V) (kvs : List (Key × V)), σ = [some v, some u, some (.ref F), some (.int (i : Nat)), y4, y5, y6] ∧
        Sep G ((F, .dK kvs) :: M) H' ∧ DI kvs (tabTo f s' i j)) ⟨_, _, _, kvs, by rw [Int.zero_add]; rfl, S2, di⟩ (fun j σ H' hj h => ?_) (fun σ H' h => ?_)⟩
      · obtain ⟨y4, y5, y6, kvs, rfl, S3, di⟩ := h
        rw [Int.zero_add]
        intro d nd
        have S4 := S3.new (o := .dK []) nd
        refine ⟨S4.hd, [(.inr "item", .int i), (.inr "at", .int j)], rfl, by simp, ?_⟩
        rw [env_merge]
        have S5 := S4.set (o' := .dK (env2 i j))
        refine ⟨G, _, u, s', d, i, j, rfl, S5, hs, oks, hds, S5.hd, ?_⟩
        have S6 := S5.drop
        intro d2 nd2
        have S7 := S6.new (o := .dK []) nd2
        refine ⟨S7.hd, [(.inr "item", .int i), (.inr "at", .int j)], rfl, by simp, ?_⟩
        rw [env_merge]
        have S8 := S7.set (o' := .dK (env2 i j))
        refine ⟨G, _, v, f, d2, i, j, rfl, S8, hf, okf, hdf, S8.hd, ?_⟩
        have S9 := S8.drop
        have hg : DGet _ F (.int (s'.val i j)) (valV kvs (.inl (s'.val i j))) := DGet.k (k := Sum.inl (s'.val i j)) S9.hd
        refine ⟨F, _, rfl, hg, _, rfl, fun e => ?_, fun e => ?_⟩
        · have e2 : valV kvs (.inl (s'.val i j)) = none := by
            cases z : valV kvs (.inl (s'.val i j)) with
            | none => rfl
            | some _ => rw [z] at e; cases e
          have dl := di.len
          rw [tabTo_len] at dl
          refine ⟨F, _, rfl, DPut.k (k := Sum.inl (s'.val i j)) S9.hd (smallL (by omega)), _, _, _, _, rfl, S9.set, ?_⟩
          rw [tab_step]
          exact di.new (p := rowT f s' i j) e2
        · cases z : valV kvs (.inl (s'.val i j)) with
          | none => rw [z] at e; cases e
          | some y =>
            rw [z] at hg
            obtain ⟨p, hp, ep⟩ := di.of _ _ z
            have ez := di.at_ p hp
            rw [ep, z] at ez
            obtain rfl : y = .int p.2 := Option.some.inj ez
            refine ⟨F, _, rfl, hg, fun e3 => ?_, fun e3 => ?_⟩
            · refine q false _ _ ⟨fun h => (nomatch h), fun h => ?_⟩ S9.frzS S9.frz
              have z2 := h p (tab_sub hi hj hp) _ (mem_tab hi hj) ep
              have z3 : (!decide (p.2 = f.val i j)) = true := e3
              rw [decide_eq_true (show p.2 = f.val i j from z2)] at z3
              cases z3
            · have z3 : (!decide (p.2 = f.val i j)) = false := e3
              have z4 : p.2 = f.val i j := by simpa using z3
              refine ⟨_, _, _, kvs, rfl, S9, ?_⟩
              rw [tab_step]
              refine di.old (p := rowT f s' i j) ?_
              rw [show (rowT f s' i j).1 = s'.val i j from rfl, z, z4]
              rfl
      · obtain ⟨y4, y5, y6, kvs, rfl, S3, di⟩ := h
        rw [tab_row] at di
        exact ⟨_, _, _, _, kvs, rfl, S3, di⟩
    · obtain ⟨y3, y4, y5, y6, kvs, rfl, S2, di⟩ := h
      exact q true _ _ ⟨fun _ => di.cons, fun _ => rfl⟩ S2.frzS S2.frz

end
end K25
set_option Elab.async false
set_option linter.all false
set_option maxRecDepth 100000
set_option maxHeartbeats 4000000
namespace K25
open PySem PySem.Spec PyProof.Rows L2 XL
section
variable {P : Program} {w : World} {K : PySem.W.Frag} {mg : Str → Option Value} {base : Heap}
/-! ### Key -/
def KeyAt (C : Addr) (G : Hp) (v : V) (f : Fm) : Prop := ∃ (x dx : Addr) (u : V), v = .ref x ∧ G x = some (.ins C dx [("form", u)]) ∧ FmAt G u f ∧ f.ok ∧ f.dep ≤ 5
theorem KeyAt.same {C : Addr} {G G' : Hp} (e : Same G G') {v : V} {f : Fm} (h : KeyAt C G v f) : KeyAt C G' v f := by
  obtain ⟨x, dx, u, h1, h2, h3, h4⟩ := h
  exact ⟨x, dx, u, h1, e _ _ h2, h3.same' e, h4⟩
def spKInit (C : Addr) : Sp := fun vs H Q _ => ∃ (G : Hp) (M : List (Addr × HO)) (x dx : Addr) (v : V) (f : Fm), vs = [.ref x, v] ∧ Sep G ((x, .ins C dx []) :: M) H ∧ FmAt G v f ∧ f.ok ∧ f.dep ≤ 5 ∧
  ∀ G' H', Same G G' → Sep G' ((x, .ins C dx [("form", v)]) :: M) H' → Q .non H'
theorem ok_Key_init (T : Top K mg w) (G_check_form : FnOk P w K mg base CX0 6 T.a_check_form T.d_check_form ["parts"] spCheck) (G_names_of : FnOk P w K mg base CX0 6 T.a_names_of T.d_names_of ["parts"] (spNames 5)) :
    FnOk P w K mg base CX0 7 T.a_Key_init T.d_Key_init ["self", "form"] (spKInit T.C_Key) := by
  refine T.F_Key_init.ok sc_Key_init (fun vs H Q E h => ?_) (fun cdv A outer s H vs Q E hr h => ?_)
  · obtain ⟨G, M, x, dx, v, f, rfl, _⟩ := h
    rfl
  · obtain ⟨G, M, x, dx, v, f, rfl, S, hf, ok, hd, q⟩ := h
    refine ⟨_, (pss_cons (ps_expr (pe_call G_check_form (hr.mono (by omega)) (by rfl) T.g_check_form T.F_check_form.kp T.b_check_form .nil pass0 (pa_cons (xv 1) pa_nil)))
      (pss_cons (ps_for PassesOwn.never rfl (pi_tupK K (pe_call G_names_of (hr.mono (by omega)) (by rfl) T.g_names_of T.F_names_of.kp T.b_names_of .nil pass0 (pa_cons (xv 1) pa_nil))) (pg_name (i := 2) sc_Key_init.nd rfl (.inl rfl))
      (pss_one (xs_if (PW.pt (xw_and (xt_cmp (op_neLK K hr.u190) (xv 2) pe_str (nomark _)) (pw_and1 (xt_cmp (op_neLK K hr.u190) (xv 2) pe_str (nomark _)))))
      (pss_one ps_never)
      pss_nil)))
      (pss_one (ps_fld (xv 0) (xv 1) rfl)))), ?_⟩
    refine ⟨G, _, v, f, rfl, S, hf, ok, hd, fun G1 H1 s1 S1 => ?_⟩
    refine ⟨G1, _, v, f, rfl, S1, hf.same' s1, ok, hd, fun r ns G2 H2 s2 S2 hr' nms nl => ?_⟩
    refine ⟨r, rfl, ⟨ns, SqT.of (S2.st hr')⟩, for_tup (xs := ns) (fun i σ H' => ∃ y2, σ = [some (.ref x), some v, y2] ∧ Sep G2 ((x, .ins T.C_Key dx []) :: M) H') ⟨_, rfl, S2⟩ (fun i σ H' _ h => ?_) (fun i y σ H' hy h => ?_) (fun σ H' h => ?_)⟩
    · obtain ⟨_, _, S3⟩ := h
      exact SqT.of (S3.st hr')
    · obtain ⟨y2, rfl, S3⟩ := h
      rcases nms y (List.mem_of_getElem? hy) with rfl | rfl
      · exact ⟨fun e => wm e, fun _ => ⟨ff, fun _ => ⟨_, rfl, S3⟩⟩⟩
      · exact ⟨fun _ => ⟨fun e => wm e, fun _ => ⟨_, rfl, S3⟩⟩, fun e => wn e⟩
    · obtain ⟨y2, rfl, S3⟩ := h
      exact ⟨x, T.C_Key, dx, [], rfl, S3.hd, T.cl_Key, T.na_Key_form, by decide, q _ _ (s1.trans s2) S3.set⟩
def spKParts (C : Addr) : Sp := fun vs H Q _ => ∃ (x dx : Addr) (v : V), vs = [.ref x] ∧ H x = some (.ins C dx [("form", v)]) ∧ Q v H
theorem ok_Key_parts (T : Top K mg w) {k : Nat} : FnOk P w K mg base CX0 (k + 1) T.a_Key_parts T.d_Key_parts ["self"] (spKParts T.C_Key) := by
  refine T.F_Key_parts.ok sc_Key_parts (fun vs H Q E h => ?_) (fun cdv A outer s H vs Q E hr h => ?_)
  · obtain ⟨x, dx, v, rfl, _⟩ := h
    rfl
  · obtain ⟨x, dx, v, rfl, hx, q⟩ := h
    refine ⟨_, (pss_one (ps_ret (pe_fldK K (xv 0)))), ?_⟩
    exact ⟨x, T.C_Key, dx, _, v, rfl, hx, T.cl_Key, T.na_Key_form, rfl, q⟩
def spKCall (C : Addr) : Sp := fun vs H Q _ => ∃ (G : Hp) (M : List (Addr × HO)) (v : V) (f : Fm) (i j : Int), vs = [v, .int i, .int j] ∧ Sep G M H ∧ KeyAt C G v f ∧ ∀ H', Sep G M H' → Q (.int (f.val i j)) H'
theorem ok_Key_call (T : Top K mg w) (G_value_of : FnOk P w K mg base CX0 6 T.a_value_of T.d_value_of ["parts", "values"] (spValue 5)) : FnOk P w K mg base CX0 7 T.a_Key_call T.d_Key_call ["self", "item", "at"] (spKCall T.C_Key) := by
  refine T.F_Key_call.ok sc_Key_call (fun vs H Q E h => ?_) (fun cdv A outer s H vs Q E hr h => ?_)
  · obtain ⟨G, M, v, f, i, j, rfl, _⟩ := h
    rfl
  · obtain ⟨G, M, _, f, i, j, rfl, S, ⟨x, dx, v, rfl, hx, hf, ok, hd⟩, q⟩ := h
    refine ⟨_, (pss_one (ps_ret (pe_call G_value_of (hr.mono (by omega)) (by rfl) T.g_value_of T.F_value_of.kp T.b_value_of .nil pass0 (pa_cons (pe_fldK K (xv 0)) (pa_cons (pe_disp (pps_cons pe_str (xv 1) (pps_cons pe_str (xv 2) pps_nil)) (by rfl) (by rfl) (fun z => by cases z) (by decide)) pa_nil))))), ?_⟩
    refine ⟨x, T.C_Key, dx, _, v, rfl, S.st hx, T.cl_Key, T.na_Key_form, rfl, fun d nd => ?_⟩
    have S4 := S.new (o := .dK []) nd
    refine ⟨S4.hd, [(.inr "item", .int i), (.inr "at", .int j)], rfl, by simp, ?_⟩
    rw [env_merge]
    have S5 := S4.set (o' := .dK (env2 i j))
    exact ⟨G, _, v, f, d, i, j, rfl, S5, hf, ok, hd, S5.hd, q _ S5.drop⟩
def spKLe (C : Addr) : Sp := fun vs H Q _ => ∃ (G : Hp) (M : List (Addr × HO)) (v u : V) (f s : Fm), vs = [v, u] ∧ Sep G M H ∧ KeyAt C G v f ∧ KeyAt C G u s ∧
  ∀ (b : Bool) (G' H' : Hp), (b = true ↔ Cons (tab f s)) → Same G G' → Sep G' M H' → Q (.bl b) H'
theorem ok_Key_le (T : Top K mg w) (G_at_most : FnOk P w K mg base CX0 7 T.a_at_most T.d_at_most ["first", "second"] (spAtMost K)) : FnOk P w K mg base CX0 8 T.a_Key_le T.d_Key_le ["self", "other"] (spKLe T.C_Key) := by
  refine T.F_Key_le.ok sc_Key_le (fun vs H Q E h => ?_) (fun cdv A outer s H vs Q E hr h => ?_)
  · obtain ⟨G, M, v, u, f, s, rfl, _⟩ := h
    rfl
  · obtain ⟨G, M, _, _, f, s', rfl, S, ⟨x, dx, v, rfl, hx, hf, ok, hd⟩, ⟨y, dy, u, rfl, hy, hs, oks, hds⟩, q⟩ := h
    refine ⟨_, (pss_cons (xs_if (pt_not (xt_truK K (pe_callB (call_isK K) (by rfl) T.m_isinstance (by decide +kernel) (pa_cons (xv 1) (pa_cons (pe_glob (v := .ref T.C_Key) (by rfl) T.g_Key rfl) pa_nil)))))
      (pss_one ps_never)
      pss_nil)
      (pss_one (ps_ret (pe_call G_at_most (hr.mono (by omega)) (by rfl) T.g_at_most T.F_at_most.kp T.b_at_most .nil pass0 (pa_cons (pe_fldK K (xv 0)) (pa_cons (pe_fldK K (xv 1)) pa_nil)))))), ?_⟩
    refine ⟨_, _, _, _, true, rfl, .own _, .base (.ins (S.st hy) T.cl_Key T.ty_Key.1 T.ty_Key.2.1 T.ty_Key.2.2.1 T.ty_Key.2.2.2.1), T.ty_Key.2.2.2.2, ff, fun _ => ?_⟩
    refine ⟨x, T.C_Key, dx, _, v, rfl, S.st hx, T.cl_Key, T.na_Key_form, rfl, y, T.C_Key, dy, _, u, rfl, S.st hy, T.cl_Key, T.na_Key_form, rfl, ?_⟩
    exact ⟨G, M, v, u, f, s', rfl, S, hf, ok, hd, hs, oks, hds, q⟩
def spKIdents (C : Addr) : Sp := fun vs H Q _ => ∃ (G : Hp) (M : List (Addr × HO)) (v : V) (f : Fm) (r : Addr) (ns : List Int), vs = [v, .ref r] ∧ Sep G M H ∧ KeyAt C G v f ∧ Tu G r (ns.map V.int) ∧ RowOk ns ∧
  ∀ (p : Addr) (ws : List V) (G' H' : Hp), Same G G' → Sep G' M H' → TupF G' p ws → Paired (Pr G') ws (ids f ns) → Q (.ref p) H'
theorem ok_Key_idents (T : Top K mg w) (G_check_row : FnOk P w K mg base CX0 7 T.a_check_row T.d_check_row ["row"] (spRow K)) (G_idents_of : FnOk P w K mg base CX0 7 T.a_idents_of T.d_idents_of ["parts", "row"] (spIdents K)) :
    FnOk P w K mg base CX0 8 T.a_Key_idents T.d_Key_idents ["self", "row"] (spKIdents T.C_Key) := by
  refine T.F_Key_idents.ok sc_Key_idents (fun vs H Q E h => ?_) (fun cdv A outer s H vs Q E hr h => ?_)
  · obtain ⟨G, M, v, f, r, ns, rfl, _⟩ := h
    rfl
  · obtain ⟨G, M, _, f, r, ns, rfl, S, ⟨x, dx, v, rfl, hx, hf, ok, hd⟩, hr', ro, q⟩ := h
    refine ⟨_, (pss_cons (ps_expr (pe_call G_check_row (hr.mono (by omega)) (by rfl) T.g_check_row T.F_check_row.kp T.b_check_row .nil pass0 (pa_cons (xv 1) pa_nil)))
      (pss_one (ps_ret (pe_call G_idents_of (hr.mono (by omega)) (by rfl) T.g_idents_of T.F_idents_of.kp T.b_idents_of .nil pass0 (pa_cons (pe_fldK K (xv 0)) (pa_cons (xv 1) pa_nil)))))), ?_⟩
    refine ⟨G, M, r, ns, rfl, S, hr', ro, fun G1 H1 s1 S1 => ?_⟩
    refine ⟨x, T.C_Key, dx, _, v, rfl, S1.st (s1 _ _ hx), T.cl_Key, T.na_Key_form, rfl, ?_⟩
    exact ⟨G1, M, v, f, r, ns, rfl, S1, hf.same' s1, ok, hd, hr'.same s1, ro.len, fun p ws G' H' s' => q p ws G' H' (s1.trans s')⟩

end
end K25
set_option Elab.async false
set_option linter.all false
set_option maxRecDepth 100000
set_option maxHeartbeats 4000000
namespace K25
open PySem PySem.Spec PyProof.Rows L2 XL
/-! ### data of a bounded size -/
theorem showAll : ∀ {xs : List PyData}, (∀ x ∈ xs, x.showable = true) → PyData.showableAll xs = true
  | [], _ => by simp only [PyData.showableAll]
  | x :: xs, h => by
    simp only [PyData.showableAll, h x (by simp), showAll (xs := xs) fun y hy => h y (List.mem_cons_of_mem _ hy), Bool.and_self]
theorem layAll : ∀ {xs : List PyData}, (∀ x ∈ xs, x.canLay0 = true) → PyData.canLayAll0 xs = true
  | [], _ => by simp only [PyData.canLayAll0]
  | x :: xs, h => by
    simp only [PyData.canLayAll0, h x (by simp), layAll (xs := xs) fun y hy => h y (List.mem_cons_of_mem _ hy), Bool.and_self]
theorem depthAll_le {n : Nat} : ∀ {xs : List PyData}, (∀ x ∈ xs, x.depth ≤ n) → PyData.depthAll xs ≤ n
  | [], _ => by simp only [PyData.depthAll]; omega
  | x :: xs, h => by
    have h1 := h x (by simp)
    have h2 := depthAll_le (xs := xs) fun y hy => h y (List.mem_cons_of_mem _ hy)
    simp only [PyData.depthAll]
    omega
theorem shortAll {n : Nat} : ∀ {xs : List PyData}, (∀ x ∈ xs, x.leavesShort n = true) → PyData.leavesShortAll n xs = true
  | [], _ => by simp only [PyData.leavesShortAll]
  | x :: xs, h => by
    simp only [PyData.leavesShortAll, h x (by simp), shortAll (xs := xs) fun y hy => h y (List.mem_cons_of_mem _ hy), Bool.and_self]
theorem weightAll_le {n : Nat} : ∀ {xs : List PyData}, (∀ x ∈ xs, x.weight ≤ n) → PyData.weightAll xs ≤ xs.length * (n + 1)
  | [], _ => by simp only [PyData.weightAll]; omega
  | x :: xs, h => by
    have h1 := h x (by simp)
    have h2 := weightAll_le (xs := xs) fun y hy => h y (List.mem_cons_of_mem _ hy)
    simp only [PyData.weightAll, List.length_cons, Nat.add_mul]
    omega
structure Fit (w dp : Nat) (d : PyData) : Prop where
  cl : d.canLay0 = true
  sh : d.showable = true
  ls : d.leavesShort 8 = true
  dp : d.depth ≤ dp
  wt : d.weight ≤ w
theorem Fit.mono {w dp w' dp' : Nat} {d : PyData} (h : Fit w dp d) (h1 : w ≤ w') (h2 : dp ≤ dp') : Fit w' dp' d := ⟨h.cl, h.sh, h.ls, Nat.le_trans h.dp h2, Nat.le_trans h.wt h1⟩
theorem Fit.shaped {w dp : Nat} {d : PyData} (h : Fit w dp d) (h2 : dp ≤ 64) : SeqAt.shaped d = true := by
  unfold SeqAt.shaped
  rw [h.cl, decide_eq_true (Nat.le_trans h.dp h2)]
  rfl
theorem Fit.self {w dp : Nat} {d : PyData} (h : Fit w dp d) : PyData.eqv d d = true := SeqAt.eqv_refl d h.cl
structure Shw (d : PyData) : Prop where
  sh : d.showable = true
  nd : d.hasDict = false
  dp : d.depth ≤ 64
  ln : d.shown.length ≤ sizeLine
theorem Fit.shw {w dp : Nat} {d : PyData} (h : Fit w dp d) (h1 : w ≤ 1048576) (h2 : dp ≤ 64) : Shw d :=
  ⟨h.sh, PyData.hasDict_of_canLay d h.cl, Nat.le_trans h.dp h2, PyData.shown_fits (B := 8) (by decide) (by decide) h.ls (Nat.le_trans h.wt (Nat.le_trans h1 (by decide)))⟩
theorem Fit.tup {w dp : Nat} {ds : List PyData} (hw : PyData.weightAll ds ≤ w) (h : ∀ d ∈ ds, ∃ w', Fit w' dp d) : Fit w (dp + 1) (.tuple ds) := by
  have dl := depthAll_le (n := dp) fun d hd => (h d hd).choose_spec.dp
  refine ⟨?_, ?_, ?_, ?_, ?_⟩
  · simp only [PyData.canLay0]; exact layAll fun d hd => (h d hd).choose_spec.cl
  · simp only [PyData.showable]; exact showAll fun d hd => (h d hd).choose_spec.sh
  · simp only [PyData.leavesShort]; exact shortAll fun d hd => (h d hd).choose_spec.ls
  · simp only [PyData.depth]; omega
  · simp only [PyData.weight]; exact hw
theorem Fit.lst {w dp : Nat} {ds : List PyData} (hw : PyData.weightAll ds ≤ w) (h : ∀ d ∈ ds, ∃ w', Fit w' dp d) : Fit w (dp + 1) (.list ds) := by
  have dl := depthAll_le (n := dp) fun d hd => (h d hd).choose_spec.dp
  refine ⟨?_, ?_, ?_, ?_, ?_⟩
  · simp only [PyData.canLay0]; exact layAll fun d hd => (h d hd).choose_spec.cl
  · simp only [PyData.showable]; exact showAll fun d hd => (h d hd).choose_spec.sh
  · simp only [PyData.leavesShort]; exact shortAll fun d hd => (h d hd).choose_spec.ls
  · simp only [PyData.depth]; omega
  · simp only [PyData.weight]; exact hw
theorem Fit.tups {w dp : Nat} {ds : List PyData} (h : ∀ d ∈ ds, Fit w dp d) : Fit (ds.length * (w + 1)) (dp + 1) (.tuple ds) := .tup (weightAll_le fun d hd => (h d hd).wt) fun d hd => ⟨w, h d hd⟩
theorem Fit.lsts {w dp : Nat} {ds : List PyData} (h : ∀ d ∈ ds, Fit w dp d) : Fit (ds.length * (w + 1)) (dp + 1) (.list ds) := .lst (weightAll_le fun d hd => (h d hd).wt) fun d hd => ⟨w, h d hd⟩
theorem Fit.str {z : Str} {w : Nat} (h : ∀ c ∈ z.cps.toList, c < 1114112) (l : z.length ≤ w) : Fit w 0 (.str z) := by
  refine ⟨?_, by simp only [PyData.showable], ?_, by simp only [PyData.depth]; omega, ?_⟩
  · simp only [PyData.canLay0]
    unfold PyData.strOk
    rw [← Array.all_toList, List.all_eq_true]
    exact fun c hc => decide_eq_true (h c hc)
  · simp only [PyData.leavesShort]
    rw [List.all_eq_true]
    exact fun c hc => decide_eq_true (Nat.lt_trans (h c hc) (by decide))
  · simp only [PyData.weight]
    exact l
theorem LS_low : ∀ c ∈ LS.cps.toList, c < 1114112 := by decide +kernel
theorem Fit.name {z : Str} {a b : Nat} (h : Lt a b z) : Fit b 0 (.str z) := .str (fun c hc => LS_low c (h.ch c hc)) h.hi
theorem dig_short : ∀ n : Nat, n < 10 → (PyData.shown (.int (n : Nat))).length ≤ 8 ∧ PyData.weight (.int (n : Nat)) ≤ 4 ∧ PyData.showable (.int (n : Nat)) = true := by decide +kernel
theorem Fit.digit {n : Int} (h0 : 0 ≤ n) (h1 : n ≤ 9) : Fit 4 0 (.int n) := by
  obtain ⟨k, rfl⟩ := Int.eq_ofNat_of_zero_le h0
  have z := dig_short k (by omega)
  refine ⟨by simp only [PyData.canLay0], z.2.2, ?_, by simp only [PyData.depth]; omega, z.2.1⟩
  simp only [PyData.leavesShort]
  exact decide_eq_true z.1
/-! ### data at a value -/
theorem dp_tup {K : PySem.W.Frag} {G : Hp} {v : V} {ds : List PyData} (h : Dp K G v (.tuple ds)) : ∃ a xs, v = .ref a ∧ SqT K G a xs ∧ DpAll K G xs ds := by
  cases h with
  | tup h1 h2 => exact ⟨_, _, rfl, h1, h2⟩
theorem dpa_cons {K : PySem.W.Frag} {G : Hp} {xs : List V} {d : PyData} {ds : List PyData} (h : DpAll K G xs (d :: ds)) : ∃ x r, xs = x :: r ∧ Dp K G x d ∧ DpAll K G r ds := by
  cases h with
  | cons h1 h2 => exact ⟨_, _, rfl, h1, h2⟩
theorem dpa_nil {K : PySem.W.Frag} {G : Hp} {xs : List V} (h : DpAll K G xs []) : xs = [] := by
  cases h
  rfl
theorem dp_str {K : PySem.W.Frag} {G : Hp} {v : V} {z : Str} (h : Dp K G v (.str z)) : v = .str z := by
  cases h
  rfl
theorem dpa_len {K : PySem.W.Frag} {G : Hp} : ∀ {xs : List V} {ds : List PyData}, DpAll K G xs ds → xs.length = ds.length
  | _, _, .nil => rfl
  | _, _, .cons _ h => congrArg (· + 1) (dpa_len h)
theorem dpa_get {K : PySem.W.Frag} {G : Hp} : ∀ {xs : List V} {ds : List PyData} {i : Nat} {x : V}, DpAll K G xs ds → xs[i]? = some x → ∃ d, ds[i]? = some d ∧ Dp K G x d
  | _, _, _, _, .nil, h => by simp at h
  | _, _, 0, _, .cons h1 _, h => by
    simp at h
    subst h
    exact ⟨_, rfl, h1⟩
  | _, _, i + 1, _, .cons _ h2, h => by
    rw [List.getElem?_cons_succ] at h
    obtain ⟨d, e1, e2⟩ := dpa_get h2 h
    exact ⟨d, by rw [List.getElem?_cons_succ]; exact e1, e2⟩
theorem dpa_app {K : PySem.W.Frag} {G : Hp} : ∀ {xs ys : List V} {ds es : List PyData}, DpAll K G xs ds → DpAll K G ys es → DpAll K G (xs ++ ys) (ds ++ es)
  | _, _, _, _, .nil, h => h
  | _, _, _, _, .cons h1 h2, h => .cons h1 (dpa_app h2 h)
theorem dpa_take {K : PySem.W.Frag} {G : Hp} : ∀ {xs : List V} {ds : List PyData} (n : Nat), DpAll K G xs ds → DpAll K G (xs.take n) (ds.take n)
  | _, _, 0, _ => .nil
  | _, _, _ + 1, .nil => .nil
  | _, _, n + 1, .cons h1 h2 => .cons h1 (dpa_take n h2)
theorem dpa_drop {K : PySem.W.Frag} {G : Hp} : ∀ {xs : List V} {ds : List PyData} (n : Nat), DpAll K G xs ds → DpAll K G (xs.drop n) (ds.drop n)
  | _, _, 0, h => h
  | _, _, _ + 1, .nil => .nil
  | _, _, n + 1, .cons _ h2 => dpa_drop n h2
theorem dpa_one {K : PySem.W.Frag} {G : Hp} {v : V} {d : PyData} (h : Dp K G v d) : DpAll K G [v] [d] := .cons h .nil
theorem Sep.mk {G H : Hp} {M : List (Addr × HO)} {p : Addr} {o : HO} (S : Sep G M H) (h : H p = none) : ∃ G', Same G G' ∧ Sep G' M (upd H p o) ∧ G' p = some o := ⟨_, S.grow h, S.newG h, upd_same⟩

/-! ### fields -/
theorem putF_ne {f g : Str} {v x : V} {r : List (Str × V)} (h : decide (g = f) = false := by decide +kernel) : putF f v ((g, x) :: r) = (g, x) :: putF f v r := by
  show (if g = f then _ else _) = _
  rw [if_neg (of_decide_eq_false h)]
theorem putF_eq {f : Str} {v x : V} {r : List (Str × V)} : putF f v ((f, x) :: r) = (f, v) :: r := by
  show (if f = f then _ else _) = _
  rw [if_pos rfl]
theorem putF_nil {f : Str} {v : V} : putF f v [] = [(f, v)] := rfl
theorem lk_ne {f g : Str} {x : V} {r : List (Str × V)} (h : (f == g) = false := by decide +kernel) : List.lookup f ((g, x) :: r) = List.lookup f r := by simp [List.lookup, h]
theorem lk_eq {f : Str} {x : V} {r : List (Str × V)} : List.lookup f ((f, x) :: r) = some x := by simp [List.lookup]
theorem Sep.keep {G H : Hp} {M : List (Addr × HO)} {p : Addr} {o : HO} (S : Sep G ((p, o) :: M) H) : ∃ G', Same G G' ∧ Sep G' M H ∧ G' p = some o := ⟨_, S.frzS, S.frz, upd_same⟩

section
variable {P : Program} {w : World} {K : PySem.W.Frag} {mg : Str → Option Value} {base : Heap}
/-! ### forms as data: the first wrong part -/
def numOk : PyData → Bool
  | .int n => decide (0 ≤ n ∧ n ≤ 9)
  | _ => false
def nameS (y : Str) : Bool := decide (1 ≤ y.length) && (decide (y.length ≤ 8) && y.cps.toList.all fun c => decide (c ∈ ("abcdefghijklmnopqrstuvwxyz" : Str).cps.toList))
def nameOk : PyData → Bool
  | .str y => nameS y
  | _ => false
def headN (x : Str) : Nat := if x = "is" then 2 else if x = "get" then 2 else if x = "sum" then 3 else if x = "same" then 3 else if x = "pick" then 4 else 0
def partOk : PyData → Bool
  | .tuple (.str x :: r) => decide (headN x = r.length + 1) && (if x = "is" then numOk (r.headD .none) else if x = "get" then nameOk (r.headD .none) else true)
  | _ => false
def leafH : PyData → Bool
  | .str x => decide (x = "is" ∨ x = "get")
  | _ => false
mutual
def fb : PyData → Option PyData
  | .tuple (h :: r) => if partOk (.tuple (h :: r)) then (if leafH h then none else fbs r) else some (.tuple (h :: r))
  | .tuple [] => some (.tuple [])
  | .none => some .none
  | .bool b => some (.bool b)
  | .int n => some (.int n)
  | .str x => some (.str x)
  | .list l => some (.list l)
  | .dict kv => some (.dict kv)
def fbs : List PyData → Option PyData
  | [] => none
  | x :: r => match fb x with
    | some p => some p
    | none => fbs r
end
mutual
def lev : PyData → Nat
  | .tuple (h :: r) => if leafH h then 1 else levs r + 1
  | .tuple [] => 1
  | .none => 1
  | .bool _ => 1
  | .int _ => 1
  | .str _ => 1
  | .list _ => 1
  | .dict _ => 1
def levs : List PyData → Nat
  | [] => 0
  | x :: r => max (lev x) (levs r)
end
mutual
def nds : PyData → Nat
  | .tuple (_ :: r) => ndss r + 1
  | .tuple [] => 1
  | .none => 1
  | .bool _ => 1
  | .int _ => 1
  | .str _ => 1
  | .list _ => 1
  | .dict _ => 1
def ndss : List PyData → Nat
  | [] => 0
  | x :: r => nds x + ndss r
end
theorem nds_pos : ∀ d : PyData, 0 < nds d
  | .tuple (_ :: r) => by simp only [nds]; omega
  | .tuple [] => by simp only [nds]; omega
  | .none => by simp only [nds]; omega
  | .bool _ => by simp only [nds]; omega
  | .int _ => by simp only [nds]; omega
  | .str _ => by simp only [nds]; omega
  | .list _ => by simp only [nds]; omega
  | .dict _ => by simp only [nds]; omega
theorem ndss_len : ∀ r : List PyData, r.length ≤ ndss r
  | [] => by simp
  | x :: r => by
    have h1 := nds_pos x
    have h2 := ndss_len r
    simp only [ndss, List.length_cons]
    omega
theorem fb_bad {d : PyData} (h : partOk d = false) : fb d = some d := by
  cases d with
  | tuple xs => cases xs with
    | nil => simp only [fb]
    | cons x r => simp only [fb, h, Bool.false_eq_true, if_false]
  | _ => simp only [fb]
theorem fbs_app : ∀ a b : List PyData, fbs (a ++ b) = (fbs a).or (fbs b)
  | [], b => by simp [fbs]
  | x :: r, b => by
    rw [List.cons_append]
    simp only [fbs]
    cases fb x with
    | some p => simp
    | none => exact fbs_app r b
theorem part_at {d : PyData} (h : partOk d = true) : ∃ (x : Str) (r : List PyData), d = .tuple (.str x :: r) ∧ headN x = r.length + 1 ∧ (x = "is" → ∃ n, r = [.int n] ∧ 0 ≤ n ∧ n ≤ 9) ∧ (x = "get" → ∃ y, r = [.str y] ∧ nameS y = true) := by
  match d, h with
  | .tuple (.str x :: r), h =>
    simp only [partOk, Bool.and_eq_true, decide_eq_true_eq] at h
    refine ⟨x, r, rfl, h.1, fun e => ?_, fun e => ?_⟩
    · subst e
      have h2 : numOk (r.headD .none) = true := by simpa using h.2
      have h1 : r.length = 1 := by
        have : headN "is" = 2 := by decide +kernel
        omega
      match r, h1, h2 with
      | [d], _, h2 =>
        cases d with
        | int n => exact ⟨n, rfl, of_decide_eq_true h2⟩
        | _ => exact nomatch (show false = true from h2)
    · subst e
      have h2 : nameOk (r.headD .none) = true := by
        have e1 : ¬ (("get" : Str) = "is") := by decide +kernel
        simpa [e1] using h.2
      have h1 : r.length = 1 := by
        have : headN "get" = 2 := by decide +kernel
        omega
      match r, h1, h2 with
      | [d], _, h2 =>
        cases d with
        | str y => exact ⟨y, rfl, h2⟩
        | _ => exact nomatch (show false = true from h2)
theorem fb_leaf {x : Str} {r : List PyData} (hp : partOk (.tuple (.str x :: r)) = true) (h : x = "is" ∨ x = "get") : fb (.tuple (.str x :: r)) = none ∧ lev (.tuple (.str x :: r)) = 1 := by
  have e : leafH (.str x) = true := decide_eq_true h
  simp only [fb, lev, hp, e, if_true, and_self]
theorem fb_node {x : Str} {r : List PyData} (hp : partOk (.tuple (.str x :: r)) = true) (h : x ≠ "is" ∧ x ≠ "get") : fb (.tuple (.str x :: r)) = fbs r ∧ lev (.tuple (.str x :: r)) = levs r + 1 := by
  have e : leafH (.str x) = false := decide_eq_false (by rw [not_or]; exact h)
  simp only [fb, lev, hp, e, if_true, Bool.false_eq_true, if_false, and_self]
/-- texts are short -/
def strsOk (d : PyData) : Prop := ∀ y, d = .str y → y.length ≤ 100000
theorem sqL_ty {K : PySem.W.Frag} {H : Hp} {a : Addr} {xs : List V} (h : SqL K H a xs) : TyX K H (.ref a) (.type "list") := by
  rcases h with (h | ⟨o, h⟩) | ⟨o, _, _, h, c, _⟩
  · exact .base (.lst h)
  · exact .base (.frz h)
  · exact .kList h c
/-! the program's small asks, of any thing -/
def spNumG (K : PySem.W.Frag) : Sp := fun vs H Q _ => ∃ (v : V) (d : PyData), vs = [v, .int 0, .int 9] ∧ Dp K H v d ∧ Q (.bl (numOk d)) H
theorem ok_is_numberG (T : Top K mg w) {k : Nat} : FnOk P w K mg base CX0 (k + 1) T.a_is_number T.d_is_number ["thing", "low", "high"] (spNumG K) := by
  refine T.F_is_number.ok sc_is_number (fun vs H Q E h => ?_) (fun cdv A outer s H vs Q E hr h => ?_)
  · obtain ⟨v, d, rfl, _⟩ := h
    rfl
  · obtain ⟨v, d, rfl, hv, q⟩ := h
    refine ⟨_, (pss_one (ps_ret (xe_and (pe_callB (call_isK K) (by rfl) T.m_isinstance (by decide +kernel) (pa_cons (xv 0) (pa_cons (pe_bltn (v := .ty "int") (by rfl) T.m_int (by decide +kernel) rfl) pa_nil))) (xe_and (xe_not (pe_callB (call_isK K) (by rfl) T.m_isinstance (by decide +kernel) (pa_cons (xv 0) (pa_cons (pe_bltn (v := .ty "bool") (by rfl) T.m_bool (by decide +kernel) rfl) pa_nil)))) (pe_one (xe_chain op_leY op_leY (xv 1) (xv 0) (xv 2))))))), ?_⟩
    cases hv with
    | non => exact ⟨_, _, _, _, false, rfl, .ty _, .base .non, kit_ty (by decide +kernel), ff, fun _ => q⟩
    | bl b => exact ⟨_, _, _, _, true, rfl, .ty _, .base (.bl _), kit_ty (by decide +kernel), fun _ => ⟨_, _, _, _, true, rfl, .ty _, .base (.bl _), kit_ty (by decide +kernel), ff, fun _ => q⟩, tt⟩
    | int i =>
      refine ⟨_, _, _, _, true, rfl, .ty _, .base (.int _), kit_ty (by decide +kernel), fun _ => ⟨_, _, _, _, false, rfl, .ty _, .base (.int _), kit_ty (by decide +kernel), fun _ => ?_, tt⟩, tt⟩
      refine ⟨fun e => ?_, fun e => ?_⟩
      · have e0 := of_decide_eq_true e
        have e1 : decide (i ≤ 9) = numOk (.int i) := by
          show decide (i ≤ 9) = decide (0 ≤ i ∧ i ≤ 9)
          rw [decide_eq_decide]
          omega
        show Q (.bl (decide (i ≤ 9))) H
        rw [e1]
        exact q
      · have e0 := of_decide_eq_false e
        have e1 : numOk (.int i) = false := decide_eq_false (by omega)
        rw [e1] at q
        exact q
    | str x => exact ⟨_, _, _, _, false, rfl, .ty _, .base (.str _), kit_ty (by decide +kernel), ff, fun _ => q⟩
    | lst h1 _ => exact ⟨_, _, _, _, false, rfl, .ty _, sqL_ty h1, kit_ty (by decide +kernel), ff, fun _ => q⟩
    | tup h1 _ => exact ⟨_, _, _, _, false, rfl, .ty _, sqT_ty h1, kit_ty (by decide +kernel), ff, fun _ => q⟩
def spNameG (K : PySem.W.Frag) : Sp := fun vs H Q _ => ∃ (G : Hp) (M : List (Addr × HO)) (v : V) (d : PyData), vs = [v] ∧ Sep G M H ∧ Dp K H v d ∧ strsOk d ∧ ∀ G' H', Same G G' → Sep G' M H' → Q (.bl (nameOk d)) H'
theorem ok_is_nameG (T : Top K mg w) {k : Nat} : FnOk P w K mg base CX0 (k + 1) T.a_is_name T.d_is_name ["thing"] (spNameG K) := by
  refine T.F_is_name.ok sc_is_name (fun vs H Q E h => ?_) (fun cdv A outer s H vs Q E hr h => ?_)
  · obtain ⟨G, M, v, d, rfl, _⟩ := h
    rfl
  · obtain ⟨G, M, v, d, rfl, S, hv, sh, q⟩ := h
    refine ⟨_, (pss_cons (xs_if (PW.pt (xw_or (pt_not (xt_truK K (pe_callB (call_isK K) (by rfl) T.m_isinstance (by decide +kernel) (pa_cons (xv 0) (pa_cons (pe_bltn (v := .ty "str") (by rfl) T.m_str (by decide +kernel) rfl) pa_nil))))) (xw_or (xt_cmp op_ltY (pe_callB (cr_lenK K) (by rfl) T.m_len (by decide +kernel) (pa_cons (xv 0) pa_nil)) pe_int (nomark _)) (pw_or1 (xt_cmp op_gtY (pe_callB (cr_lenK K) (by rfl) T.m_len (by decide +kernel) (pa_cons (xv 0) pa_nil)) pe_int (nomark _))))))
      (pss_one (ps_ret pe_bl))
      pss_nil)
      (pss_one (ps_ret (pe_callB (cr_allK K rfl) (by rfl) T.m_all (by decide +kernel) (pa_cons (pe_lc (own := [("sign", 1)]) (by rfl) sc_is_name.nd (pi_str (xv 0)) (blkOk_by (N := ["thing", "sign"]) (sc := defScope s_is_name) (by decide +kernel)) (fun _ _ _ _ _ => (pg_name (i := 1) sc_is_name.nd rfl (.inl rfl))) (fun _ _ _ _ _ => pts_nil) (fun _ _ _ _ _ => (pe_cmpR op_in_sign (xv 1) (xe_glob (by rfl) T.v_LETTERS) (by rfl)))) pa_nil))))), ?_⟩
    have q0 := q G H (Same.refl _) S
    cases hv with
    | non => exact ⟨_, _, _, _, false, rfl, .ty _, .base .non, kit_ty (by decide +kernel), fun _ => ⟨fun _ => q0, tt⟩, tt⟩
    | bl b => exact ⟨_, _, _, _, false, rfl, .ty _, .base (.bl _), kit_ty (by decide +kernel), fun _ => ⟨fun _ => q0, tt⟩, tt⟩
    | int i => exact ⟨_, _, _, _, false, rfl, .ty _, .base (.int _), kit_ty (by decide +kernel), fun _ => ⟨fun _ => q0, tt⟩, tt⟩
    | lst h1 _ => exact ⟨_, _, _, _, false, rfl, .ty _, sqL_ty h1, kit_ty (by decide +kernel), fun _ => ⟨fun _ => q0, tt⟩, tt⟩
    | tup h1 _ => exact ⟨_, _, _, _, false, rfl, .ty _, sqT_ty h1, kit_ty (by decide +kernel), fun _ => ⟨fun _ => q0, tt⟩, tt⟩
    | str x =>
      have hz : x.length ≤ sizeLine := small (by have := sh x rfl; omega)
      refine ⟨_, _, _, _, true, rfl, .ty _, .base (.str _), kit_ty (by decide +kernel), ff, fun _ => ⟨hz, fun e => ?_, fun e0 => ⟨hz, fun e => ?_, fun e1 => ?_⟩⟩⟩
      · have z := of_decide_eq_true e
        have e2 : nameOk (.str x) = false := by
          show nameS x = false
          unfold nameS
          rw [decide_eq_false (show ¬ 1 ≤ x.length by omega), Bool.false_and]
        rw [e2] at q0
        exact ⟨fun _ => q0, tt⟩
      · have z : (8 : Int) < x.length := of_decide_eq_true e
        have e2 : nameOk (.str x) = false := by
          show nameS x = false
          unfold nameS
          rw [decide_eq_false (show ¬ x.length ≤ 8 by omega), Bool.false_and, Bool.and_false]
        rw [e2] at q0
        exact q0
      · have z0 : ¬ ((x.length : Nat) : Int) < 1 := of_decide_eq_false e0
        have z1 : ¬ (8 : Int) < x.length := of_decide_eq_false e1
        have e2 : nameOk (.str x) = x.cps.toList.all fun c => decide (c ∈ ("abcdefghijklmnopqrstuvwxyz" : Str).cps.toList) := by
          show nameS x = _
          unfold nameS
          rw [decide_eq_true (show 1 ≤ x.length by omega), decide_eq_true (show x.length ≤ 8 by omega), Bool.true_and, Bool.true_and]
        have xl : x.cps.size = x.length := rfl
        refine ⟨x, rfl, fun L nL => lc_it (walk_str (z := x)) (fun i H' => Sep G ((L, .lst (((x.cps.toList.take i).map fun c => decide (c ∈ ("abcdefghijklmnopqrstuvwxyz" : Str).cps.toList)).map V.bl)) :: M) H') (S.new nL) (fun _ _ _ _ => trivial) (fun i v H1 H' hi p y => ?_) (fun H' S1 => ?_)⟩
        · obtain ⟨rfl, c, hc, rfl⟩ := y
          have hc2 : x.cps.toList[i]? = some c := by rw [Array.getElem?_toList]; exact hc
          refine ⟨rfl, c, _, rfl, rfl, _, p.hd, ?_, ?_⟩
          · rw [List.length_map, List.length_map, List.length_take]
            exact smallL (by omega)
          · rw [take_snoc hc2, List.map_append, List.map_append]
            exact p.set
        · have e3 : x.cps.toList.take x.cps.size = x.cps.toList := List.take_of_length_le (by simp)
          rw [e3] at S1
          refine ⟨L, _, rfl, SqL.of S1.hd, ?_⟩
          have e4 : (x.cps.toList.map fun c => decide (c ∈ ("abcdefghijklmnopqrstuvwxyz" : Str).cps.toList)).all id = nameOk (.str x) := by
            rw [e2, List.all_map]
            rfl
          rw [e4]
          exact q _ _ S1.frzS S1.frz

end
end K25
set_option Elab.async false
set_option linter.all false
set_option maxRecDepth 100000
set_option maxHeartbeats 4000000
namespace K25
open PySem PySem.Spec PyProof.Rows L2 XL
section
variable {P : Program} {w : World} {K : PySem.W.Frag} {mg : Str → Option Value} {base : Heap}
/-! ### is_part, of any thing -/
theorem weight_mem : ∀ {l : List PyData} {d : PyData}, d ∈ l → d.weight ≤ PyData.weightAll l
  | x :: r, d, h => by
    simp only [PyData.weightAll]
    rcases List.mem_cons.mp h with rfl | h
    · omega
    · have := weight_mem h
      omega
theorem strs_of {d : PyData} (h : d.weight ≤ 100000) : strsOk d := fun y e => by
  subst e
  simp only [PyData.weight] at h
  exact h
theorem cnt_none {K : PySem.W.Frag} {D : Addr} {es : Array DictEntry} {n : Nat} (hl : K.lookup D = some ⟨.type "dict", none, .dict es n, #[]⟩) {ks : List Value} (hk : es.toList.map (fun e => e.key) = ks) {x : Str} (h : ∀ k ∈ ks, ∃ y t, k = .str y t ∧ y ≠ x) : PySem.W.nsIn K D x = some none := by
  subst hk
  have h2 : ∀ e ∈ es.toList, ∃ y t, e.key = .str y t ∧ y ≠ x := fun e he => h _ (List.mem_map_of_mem he)
  unfold PySem.W.nsIn
  rw [hl]
  have e1 : es.toList.find? (fun e => e.key.isStr x) = none := by
    rw [List.find?_eq_none]
    intro e he q
    obtain ⟨y, t, e2, ne⟩ := h2 e he
    rw [e2] at q
    have q : (y == x) = true := q
    exact ne (eq_of_beq q)
  have e2 : es.toList.any (fun e => e.refKey) = false := by
    rw [List.any_eq_false]
    intro e he q
    obtain ⟨y, t, e2, ne⟩ := h2 e he
    unfold DictEntry.refKey at q
    rw [e2] at q
    exact nomatch q
  simp only [e1, e2, Bool.false_eq_true, if_false]
theorem headN_none {x : Str} (h : headN x = 0) : x ≠ "is" ∧ x ≠ "get" ∧ x ≠ "sum" ∧ x ≠ "same" ∧ x ≠ "pick" := by
  unfold headN at h
  split at h
  · exact nomatch h
  split at h
  · exact nomatch h
  split at h
  · exact nomatch h
  split at h
  · exact nomatch h
  split at h
  · exact nomatch h
  · exact ⟨by assumption, by assumption, by assumption, by assumption, by assumption⟩
theorem headN_some {x : Str} (h : headN x ≠ 0) : x = "is" ∨ x = "get" ∨ x = "sum" ∨ x = "same" ∨ x = "pick" := by
  refine Decidable.byContradiction fun hn => h ?_
  simp only [not_or] at hn
  obtain ⟨h1, h2, h3, h4, h5⟩ := hn
  unfold headN
  rw [if_neg h1, if_neg h2, if_neg h3, if_neg h4, if_neg h5]
theorem cnt_at (T : Top K mg w) (x : Str) : ∃ r, PySem.W.nsIn K T.D_COUNTS x = some r ∧ (headN x = 0 → r = none) ∧ (headN x ≠ 0 → ∃ t, r = some (.int (headN x : Nat) t)) := by
  by_cases h : headN x = 0
  · obtain ⟨n1, n2, n3, n4, n5⟩ := headN_none h
    obtain ⟨t0, t1, t2, t3, t4, hk⟩ := T.z_COUNTS
    refine ⟨none, cnt_none T.l_COUNTS hk fun k hk => ?_, fun _ => rfl, fun h2 => absurd h h2⟩
    simp only [List.mem_cons, List.not_mem_nil, or_false] at hk
    rcases hk with rfl | rfl | rfl | rfl | rfl
    · exact ⟨_, _, rfl, n1.symm⟩
    · exact ⟨_, _, rfl, n2.symm⟩
    · exact ⟨_, _, rfl, n3.symm⟩
    · exact ⟨_, _, rfl, n4.symm⟩
    · exact ⟨_, _, rfl, n5.symm⟩
  · rcases headN_some h with rfl | rfl | rfl | rfl | rfl
    · obtain ⟨t, k⟩ := T.k_COUNTS_0
      exact ⟨_, k, fun e => absurd e (by decide +kernel), fun _ => ⟨t, by rw [show headN "is" = 2 by decide +kernel]; rfl⟩⟩
    · obtain ⟨t, k⟩ := T.k_COUNTS_1
      exact ⟨_, k, fun e => absurd e (by decide +kernel), fun _ => ⟨t, by rw [show headN "get" = 2 by decide +kernel]; rfl⟩⟩
    · obtain ⟨t, k⟩ := T.k_COUNTS_2
      exact ⟨_, k, fun e => absurd e (by decide +kernel), fun _ => ⟨t, by rw [show headN "sum" = 3 by decide +kernel]; rfl⟩⟩
    · obtain ⟨t, k⟩ := T.k_COUNTS_3
      exact ⟨_, k, fun e => absurd e (by decide +kernel), fun _ => ⟨t, by rw [show headN "same" = 3 by decide +kernel]; rfl⟩⟩
    · obtain ⟨t, k⟩ := T.k_COUNTS_4
      exact ⟨_, k, fun e => absurd e (by decide +kernel), fun _ => ⟨t, by rw [show headN "pick" = 4 by decide +kernel]; rfl⟩⟩
theorem part_ne {x : Str} {r : List PyData} (h : headN x ≠ r.length + 1) : partOk (.tuple (.str x :: r)) = false := by
  simp only [partOk, decide_eq_false h, Bool.false_and]
theorem dp_tyx {K : PySem.W.Frag} {H : Hp} {v : V} {d : PyData} (h : Dp K H v d) : (∃ x, d = .str x ∧ v = .str x) ∨ ((∀ x, d ≠ .str x) ∧ ∃ t, TyX K H v (.type t) ∧ kitB t "str" = some false) := by
  cases h with
  | non => exact .inr ⟨fun x e => (nomatch e), _, .base .non, by decide +kernel⟩
  | bl b => exact .inr ⟨fun x e => (nomatch e), _, .base (.bl _), by decide +kernel⟩
  | int i => exact .inr ⟨fun x e => (nomatch e), _, .base (.int _), by decide +kernel⟩
  | str x => exact .inl ⟨x, rfl, rfl⟩
  | lst h1 _ => exact .inr ⟨fun x e => (nomatch e), _, sqL_ty h1, by decide +kernel⟩
  | tup h1 _ => exact .inr ⟨fun x e => (nomatch e), _, sqT_ty h1, by decide +kernel⟩
def spPartG (K : PySem.W.Frag) : Sp := fun vs H Q _ => ∃ (G : Hp) (M : List (Addr × HO)) (v : V) (d : PyData), vs = [v] ∧ Sep G M H ∧ Dp K H v d ∧ d.weight ≤ 100000 ∧ ∀ G' H', Same G G' → Sep G' M H' → Q (.bl (partOk d)) H'
theorem ok_is_partG (T : Top K mg w) {k : Nat} (G_is_number : FnOk P w K mg base CX0 (k + 1) T.a_is_number T.d_is_number ["thing", "low", "high"] (spNumG K)) (G_is_name : FnOk P w K mg base CX0 (k + 1) T.a_is_name T.d_is_name ["thing"] (spNameG K)) :
    FnOk P w K mg base CX0 (k + 2) T.a_is_part T.d_is_part ["part"] (spPartG K) := by
  refine T.F_is_part.ok sc_is_part (fun vs H Q E h => ?_) (fun cdv A outer s H vs Q E hr h => ?_)
  · obtain ⟨G, M, v, d, rfl, _⟩ := h
    rfl
  · obtain ⟨G, M, v, d, rfl, S, hv, wd1, q⟩ := h
    refine ⟨_, (pss_cons (xs_if (PW.pt (xw_or (pt_not (xt_truK K (pe_callB (call_isK K) (by rfl) T.m_isinstance (by decide +kernel) (pa_cons (xv 0) (pa_cons (pe_bltn (v := .ty "tuple") (by rfl) T.m_tuple (by decide +kernel) rfl) pa_nil))))) (pw_or1 (xt_cmp (op_eqLK K hr.u190) (pe_callB (cr_lenK K) (by rfl) T.m_len (by decide +kernel) (pa_cons (xv 0) pa_nil)) pe_int (nomark _)))))
      (pss_one (ps_ret pe_bl))
      pss_nil)
      (pss_cons (xs_if (PW.pt (xw_or (pt_not (xt_truK K (pe_callB (call_isK K) (by rfl) T.m_isinstance (by decide +kernel) (pa_cons (pe_ix (ix_k K) (xv 0) pe_int (fun _ _ => rfl)) (pa_cons (pe_bltn (v := .ty "str") (by rfl) T.m_str (by decide +kernel) rfl) pa_nil))))) (pw_or1 (xt_cmp (op_notIn_kd ⟨T.l_COUNTS, T.q_COUNTS, T.w_COUNTS⟩) (pe_ix (ix_k K) (xv 0) pe_int (fun _ _ => rfl)) (pe_glob (v := .ref T.D_COUNTS) (by rfl) T.g_COUNTS rfl) (by rfl)))))
      (pss_one (ps_ret pe_bl))
      pss_nil)
      (pss_cons (xs_if (xt_cmp (op_neLK K hr.u190) (pe_callB (cr_lenK K) (by rfl) T.m_len (by decide +kernel) (pa_cons (xv 0) pa_nil)) (pe_ix ix_kdict (pe_glob (v := .ref T.D_COUNTS) (by rfl) T.g_COUNTS rfl) (pe_ix (ix_k K) (xv 0) pe_int (fun _ _ => rfl)) (fun _ _ => rfl)) (nomark _))
      (pss_one (ps_ret pe_bl))
      pss_nil)
      (pss_cons (xs_if (xt_cmp (op_eqLK K hr.u190) (pe_ix (ix_k K) (xv 0) pe_int (fun _ _ => rfl)) pe_str (nomark _))
      (pss_one (ps_ret (pe_call G_is_number (hr.mono (by omega)) (by rfl) T.g_is_number T.F_is_number.kp T.b_is_number .nil pass0 (pa_cons (pe_ix (ix_k K) (xv 0) pe_int (fun _ _ => rfl)) (pa_cons pe_int (pa_cons pe_int pa_nil))))))
      pss_nil)
      (pss_cons (xs_if (xt_cmp (op_eqLK K hr.u190) (pe_ix (ix_k K) (xv 0) pe_int (fun _ _ => rfl)) pe_str (nomark _))
      (pss_one (ps_ret (pe_call G_is_name (hr.mono (by omega)) (by rfl) T.g_is_name T.F_is_name.kp T.b_is_name .nil pass0 (pa_cons (pe_ix (ix_k K) (xv 0) pe_int (fun _ _ => rfl)) pa_nil))))
      pss_nil)
      (pss_one (ps_ret pe_bl))))))), ?_⟩
    have q0 := q G H (Same.refl _) S
    cases hv with
    | non => exact ⟨_, _, _, _, false, rfl, .ty _, .base .non, kit_ty (by decide +kernel), fun _ => ⟨fun _ => q0, tt⟩, tt⟩
    | bl b => exact ⟨_, _, _, _, false, rfl, .ty _, .base (.bl _), kit_ty (by decide +kernel), fun _ => ⟨fun _ => q0, tt⟩, tt⟩
    | int i => exact ⟨_, _, _, _, false, rfl, .ty _, .base (.int _), kit_ty (by decide +kernel), fun _ => ⟨fun _ => q0, tt⟩, tt⟩
    | str x => exact ⟨_, _, _, _, false, rfl, .ty _, .base (.str _), kit_ty (by decide +kernel), fun _ => ⟨fun _ => q0, tt⟩, tt⟩
    | lst h1 _ => exact ⟨_, _, _, _, false, rfl, .ty _, sqL_ty h1, kit_ty (by decide +kernel), fun _ => ⟨fun _ => q0, tt⟩, tt⟩
    | @tup a xs ds h1 hd =>
      refine ⟨_, _, _, _, true, rfl, .ty _, sqT_ty h1, kit_ty (by decide +kernel), ff, fun _ => ?_⟩
      cases hd with
      | nil => exact ⟨_, .inr h1, fun _ => q0, fun e => absurd e (by simp)⟩
      | @cons v0 vr d0 r hv0 hvr =>
        have vl := dpa_len hvr
        have at0 : atI (v0 :: vr) 0 = some v0 := atI_nat (j := 0) rfl
        refine ⟨_, .inr h1, fun e => by have := of_decide_eq_true e; rw [List.length_cons] at this; omega, fun _ => ?_⟩
        rcases dp_tyx hv0 with ⟨x, rfl, rfl⟩ | ⟨ns, t, ty, kt⟩
        · refine ⟨_, _, .inr h1, at0, _, _, _, _, true, rfl, .ty _, .base (.str _), kit_ty (by decide +kernel), ff, fun _ => ?_⟩
          obtain ⟨rr, hrr, hz, hs⟩ := cnt_at T x
          refine ⟨_, _, .inr h1, at0, _, _, rfl, rfl, hrr, fun e => ?_, fun e => ?_⟩
          · have e0 : headN x = 0 := Decidable.of_not_not fun hn => by
              obtain ⟨t, rfl⟩ := hs hn
              exact nomatch e
            have e1 : partOk (.tuple (.str x :: r)) = false := part_ne (by omega)
            rw [e1] at q0
            exact q0
          · have hn : headN x ≠ 0 := fun e0 => by
              rw [hz e0] at e
              exact nomatch e
            obtain ⟨t, rfl⟩ := hs hn
            refine ⟨_, .inr h1, _, _, .inr h1, at0, _, _, .int (headN x : Nat), rfl, rfl, ⟨_, _, _, T.l_COUNTS, T.q_COUNTS, hrr, ⟨_, rfl⟩⟩, fun e => ?_, fun e => ?_⟩
            · have e0 : headN x ≠ r.length + 1 := fun e0 => by
                have : decide ((((V.str x :: vr).length : Nat) : Int) = (headN x : Nat)) = true := decide_eq_true (by rw [List.length_cons, vl]; omega)
                simp only [this] at e
                exact nomatch e
              have e1 : partOk (.tuple (.str x :: r)) = false := part_ne e0
              rw [e1] at q0
              exact q0
            · have e0 : headN x = r.length + 1 := by
                have e2 : (!decide ((((V.str x :: vr).length : Nat) : Int) = (headN x : Nat))) = false := e
                have := of_decide_eq_true (by simpa using e2 : decide ((((V.str x :: vr).length : Nat) : Int) = (headN x : Nat)) = true)
                rw [List.length_cons, vl] at this
                omega
              have w1 : ∀ d ∈ r, d.weight ≤ 100000 := fun d hd => by
                have := weight_mem (List.mem_cons_of_mem (.str x) hd)
                simp only [PyData.weight] at wd1
                omega
              have hd1 : headN x ≠ 1 → ∃ v1 vr' d1 r', vr = v1 :: vr' ∧ r = d1 :: r' ∧ Dp K H v1 d1 := fun hne => by
                cases hvr with
                | nil => exact absurd e0 hne
                | cons a b => exact ⟨_, _, _, _, rfl, rfl, a⟩
              refine ⟨_, _, .inr h1, at0, fun e => ?_, fun e => ?_⟩
              · have ex : x = "is" := of_decide_eq_true e
                subst ex
                obtain ⟨v1, vr', d1, r', rfl, rfl, h3⟩ := hd1 (by decide +kernel)
                have e1 : partOk (.tuple (.str "is" :: d1 :: r')) = numOk d1 := by
                  simp only [partOk, e0]
                  simp
                rw [e1] at q0
                exact ⟨_, _, .inr h1, atI_nat (j := 1) rfl, v1, d1, rfl, h3, q0⟩
              · have ne1 : x ≠ "is" := of_decide_eq_false e
                refine ⟨_, _, .inr h1, at0, fun e => ?_, fun e => ?_⟩
                · have ex : x = "get" := of_decide_eq_true e
                  subst ex
                  obtain ⟨v1, vr', d1, r', rfl, rfl, h3⟩ := hd1 (by decide +kernel)
                  have e1 : partOk (.tuple (.str "get" :: d1 :: r')) = nameOk d1 := by
                    simp only [partOk, e0]
                    simp [ne1]
                  refine ⟨_, _, .inr h1, atI_nat (j := 1) rfl, G, M, v1, d1, rfl, S, h3, strs_of (w1 d1 List.mem_cons_self), fun G' H' s' S' => ?_⟩
                  rw [← e1]
                  exact q G' H' s' S'
                · have ne2 : x ≠ "get" := of_decide_eq_false e
                  have e1 : partOk (.tuple (.str x :: r)) = true := by
                    simp only [partOk, e0]
                    simp [ne1, ne2]
                  rw [e1] at q0
                  exact q0
        · have e1 : partOk (.tuple (d0 :: r)) = false := by
            cases d0 with
            | str x => exact absurd rfl (ns x)
            | _ => rfl
          rw [e1] at q0
          exact ⟨_, _, .inr h1, at0, _, _, _, _, false, rfl, .ty _, ty, kit_ty kt, fun _ => ⟨fun _ => q0, tt⟩, tt⟩

end
end K25
set_option Elab.async false
set_option linter.all false
set_option maxRecDepth 100000
set_option maxHeartbeats 4000000
namespace K25
open PySem PySem.Spec PyProof.Rows L2 XL
section
variable {P : Program} {w : World} {K : PySem.W.Frag} {mg : Str → Option Value} {base : Heap}
/-! ### check_form, of any thing -/
def Rz (G : Hp) (M : List (Addr × HO)) (C : Addr) (fs : List (Str × V)) (E : XK) : Prop := ∀ (G' H' : Hp) (N : List (Addr × HO)) (dd : Addr), Same G G' → Sep G' (N ++ M) H' → H' dd = none → E (.ref C) (some dd) (upd H' dd (.xd fs))
theorem Rz.same {G G' : Hp} {M : List (Addr × HO)} {C : Addr} {fs : List (Str × V)} {E : XK} (h : Rz G M C fs E) (s : Same G G') : Rz G' M C fs E := fun G2 H' N dd s2 S n => h G2 H' N dd (s.trans s2) S n
theorem Rz.cell {G : Hp} {M : List (Addr × HO)} {C : Addr} {fs : List (Str × V)} {E : XK} (N' : List (Addr × HO)) (h : Rz G M C fs E) : Rz G (N' ++ M) C fs E := fun G2 H' N dd s2 S n => h G2 H' (N ++ N') dd s2 (by rw [List.append_assoc]; exact S) n
theorem Rz.now {G H : Hp} {M : List (Addr × HO)} {C : Addr} {fs : List (Str × V)} {E : XK} (h : Rz G M C fs E) (S : Sep G M H) (dd : Addr) (n : H dd = none) : E (.ref C) (some dd) (upd H dd (.xd fs)) := h G H [] dd (Same.refl _) S n
structure Okd (d : PyData) : Prop where
  ok : okR d = true
  sw : d.showable = true
  tb : tbR d ≤ 100000
  dp : d.depth ≤ 64
  wt : d.weight ≤ 100000
theorem okd_all : ∀ {xs : List PyData} {y : PyData}, y ∈ xs → okRs xs = true → PyData.showableAll xs = true → okR y = true ∧ y.showable = true ∧ tbR y ≤ tbRs xs ∧ y.depth ≤ PyData.depthAll xs ∧ y.weight ≤ PyData.weightAll xs
  | x :: r, y, h, h1, h2 => by
    simp only [okRs, Bool.and_eq_true] at h1
    simp only [PyData.showableAll, Bool.and_eq_true] at h2
    simp only [tbRs, PyData.depthAll, PyData.weightAll]
    rcases List.mem_cons.mp h with rfl | h
    · exact ⟨h1.1, h2.1, by omega, by omega, by omega⟩
    · obtain ⟨a, b, c, d, e⟩ := okd_all h h1.2 h2.2
      exact ⟨a, b, by omega, by omega, by omega⟩
theorem Okd.kid {xs : List PyData} (h : Okd (.tuple xs)) {y : PyData} (hy : y ∈ xs) : Okd y := by
  have h1 := h.ok
  have h2 := h.sw
  have h3 := h.tb
  have h4 := h.dp
  have h5 := h.wt
  simp only [okR] at h1
  simp only [PyData.showable] at h2
  simp only [tbR] at h3
  simp only [PyData.depth] at h4
  simp only [PyData.weight] at h5
  obtain ⟨a, b, c, d, e⟩ := okd_all hy h1 h2
  exact ⟨a, b, by omega, by omega, by omega⟩
theorem Okd.rp {K : PySem.W.Frag} {H : Hp} {v : V} {d : PyData} (h : Okd d) (hv : Dp K H v d) : RpD K H v := ⟨d, hv, h.ok, h.sw, h.tb, h.dp⟩
/-- on the stack -/
def WtD (K : PySem.W.Frag) (G : Hp) (v : V) (c : PyData × Int) : Prop := ∃ (t : Addr) (u : V), v = .ref t ∧ G t = some (.tup [u, .int c.2]) ∧ Dp K G u c.1 ∧ Okd c.1 ∧ 1 ≤ c.2
theorem WtD.same {K : PySem.W.Frag} {G G' : Hp} (e : Same G G') {v : V} {c : PyData × Int} (h : WtD K G v c) : WtD K G' v c := by
  obtain ⟨t, u, h1, h2, h3, h4⟩ := h
  exact ⟨t, u, h1, e _ _ h2, dp_same e h3, h4⟩
def wszD : List (PyData × Int) → Nat
  | [] => 0
  | c :: r => nds c.1 + wszD r
theorem wszD_app : ∀ (a b : List (PyData × Int)), wszD (a ++ b) = wszD a + wszD b
  | [], b => by simp [wszD]
  | c :: r, b => by simp only [List.cons_append, wszD, wszD_app r b]; omega
theorem wszD_len : ∀ (a : List (PyData × Int)), a.length ≤ wszD a
  | [] => by simp
  | c :: r => by
    have h1 := wszD_len r
    have h2 := nds_pos c.1
    simp only [List.length_cons, wszD]
    omega
theorem ndss_rev : ∀ (cs : List PyData) (l : Int), wszD (cs.reverse.map fun c => (c, l)) = ndss cs
  | [], _ => by simp [wszD, ndss]
  | c :: r, l => by
    rw [List.reverse_cons, List.map_append, wszD_app, ndss_rev r l]
    simp only [List.map_cons, List.map_nil, wszD, ndss]
    omega
def lvm : List (PyData × Int) → Int
  | [] => 0
  | c :: r => max (c.2 - 1 + (lev c.1 : Nat)) (lvm r)
theorem lvm_app : ∀ (a b : List (PyData × Int)), (∀ c ∈ b, 1 ≤ c.2) → lvm (a ++ b) = max (lvm a) (lvm b)
  | [], b, h => by
    have : 0 ≤ lvm b := by
      cases b with
      | nil => exact Int.le_refl _
      | cons c r =>
        have := h c List.mem_cons_self
        simp only [lvm]
        omega
    simp only [List.nil_append, lvm]
    omega
  | c :: r, b, h => by simp only [List.cons_append, lvm, lvm_app r b h]; omega
theorem lvm_rev : ∀ (cs : List PyData) (l : Int), 0 ≤ l → lvm (cs.reverse.map fun c => (c, l + 1)) = if cs = [] then 0 else l + (levs cs : Nat)
  | [], _, _ => by simp [lvm]
  | c :: r, l, h => by
    rw [List.reverse_cons, List.map_append, lvm_app _ _ (fun c hc => by
      simp only [List.map_cons, List.map_nil, List.mem_singleton] at hc
      rw [hc]
      show 1 ≤ l + 1
      omega), lvm_rev r l h, if_neg (List.cons_ne_nil _ _)]
    simp only [List.map_cons, List.map_nil, lvm, levs]
    by_cases e : r = []
    · subst e
      simp only [if_true, levs]
      omega
    · rw [if_neg e]
      omega
theorem lev_pos : ∀ d : PyData, 1 ≤ lev d
  | .tuple (_ :: r) => by simp only [lev]; split <;> omega
  | .tuple [] => by simp only [lev]; omega
  | .none => by simp only [lev]; omega
  | .bool _ => by simp only [lev]; omega
  | .int _ => by simp only [lev]; omega
  | .str _ => by simp only [lev]; omega
  | .list _ => by simp only [lev]; omega
  | .dict _ => by simp only [lev]; omega
/-- what check_form tells -/
def due (d : PyData) : Option PyData := match fb d with
  | some p => some p
  | none => if lev d ≤ 5 then none else some d
def spCheckG (K : PySem.W.Frag) (C : Addr) : Sp := fun vs H Q E => ∃ (G : Hp) (M : List (Addr × HO)) (v : V) (d : PyData), vs = [v] ∧ Sep G M H ∧ Dp K G v d ∧ Okd d ∧ nds d ≤ 40000 ∧
  (due d = none → ∀ G' H', Same G G' → Sep G' M H' → Q .non H') ∧ (∀ p, due d = some p → ∀ u G1, Same G G1 → Dp K G1 u p → Rz G1 M C [("part", u)] E)
theorem ok_check_formG (T : Top K mg w) (pf : PySem.XExc.PF P T.x_file) {k : Nat} (G_is_part : FnOk P w K mg base CX0 (k + 1) T.a_is_part T.d_is_part ["part"] (spPartG K)) :
    FnOk P w K mg base (L2.CX P w) (k + 2) T.a_check_form T.d_check_form ["parts"] (spCheckG K T.C_BadForm) := by
  refine T.F_check_form.okX sc_check_form (fun vs H Q E h => ?_) (fun cdv A outer s H vs Q E hr h => ?_)
  · obtain ⟨G, M, v, d, rfl, _⟩ := h
    rfl
  · obtain ⟨G, M, v, d, rfl, S, hv, ok, hn, q, rz⟩ := h
    refine ⟨_, (pss_cons (ps_set (i := 1) sc_check_form.nd rfl (.inl rfl) (pe_lst (pa_cons (pe_tup (pa_cons (xv 0) (pa_cons pe_int pa_nil))) pa_nil)))
      (pss_cons (ps_set (i := 2) sc_check_form.nd rfl (.inl rfl) pe_int)
      (pss_cons (xs_while (passes_of rfl) (xt_truK K (xv 1))
      (pss_cons (ps_asg (pe_bm0 PySem.F.plainAttrs_list PySem.F.slot_list_pop PySem.F.type_list_pop mt_pop (xv 1)) (pg_tupK K 2 (pgs_cons (pg_name (i := 3) sc_check_form.nd rfl (.inl rfl)) (pgs_cons (pg_name (i := 4) sc_check_form.nd rfl (.inl rfl)) pgs_nil))))
      (pss_cons (xs_if (pt_not (xt_truK K (pe_call G_is_part (hr.mono (by omega)) (by rfl) T.g_is_part T.F_is_part.kp T.b_is_part .nil pass0 (pa_cons (xv 3) pa_nil))))
      (pss_one (ps_raiseD (k := 0) rfl T.xcv_BadForm (T.x_BadForm P pf) (hr.mono (by omega)) (takes_of rfl rfl rfl rfl) (pa_cons (xv 3) pa_nil)))
      pss_nil)
      (xss_cut (xs_if (xt_cmp op_gtY (xv 4) (xv 2) (nomark _))
      (pss_one (ps_set (i := 2) sc_check_form.nd rfl (.inl rfl) (xv 4)))
      pss_nil)
      (pss_one (xs_if (PW.pt (xw_and (xt_cmp (op_neLK K hr.u190) (pe_ix (ix_k K) (xv 3) pe_int (fun _ _ => rfl)) pe_str (nomark _)) (pw_and1 (xt_cmp (op_neLK K hr.u190) (pe_ix (ix_k K) (xv 3) pe_int (fun _ _ => rfl)) pe_str (nomark _)))))
      (pss_one (ps_for (passes_of rfl) rfl (pi_range3 (by rfl) T.m_range (pa_cons (pe_op op_subY (pe_callB (cr_lenK K) (by rfl) T.m_len (by decide +kernel) (pa_cons (xv 3) pa_nil)) pe_int) (pa_cons pe_int (pa_cons (pe_un un_neg pe_int) pa_nil)))) (pg_name (i := 5) sc_check_form.nd rfl (.inl rfl))
      (pss_one (ps_expr (pe_bmK K PySem.F.plainAttrs_list PySem.F.slot_list_append PySem.F.type_list_append mt_append (xv 1) (pa_cons (pe_tup (pa_cons (pe_ix (ix_k K) (xv 3) (xv 5) (fun _ _ => rfl)) (pa_cons (pe_op op_addY (xv 4) pe_int) pa_nil))) pa_nil))))))
      pss_nil))))))
      (pss_one (xs_if (xt_cmp op_gtY (xv 2) (xe_globI (by rfl) T.v_MOST_LEVELS) (nomark _))
      (pss_one (ps_raiseD (k := 0) rfl T.xcv_BadForm (T.x_BadForm P pf) (hr.mono (by omega)) (takes_of rfl rfl rfl rfl) (pa_cons (xv 0) pa_nil)))
      pss_nil))))), ?_⟩
    refine ⟨sz, fun t nt => ⟨sz, fun L nL => ?_⟩⟩
    have S1 := S.newG (o := .tup [v, .int 1]) nt
    have s1 := S.grow (o := .tup [v, .int 1]) nt
    have S2 := S1.new (o := .lst [.ref t]) nL
    refine ⟨fun m σ H' => ∃ (y3 y4 y5 : Option V) (ds : Int) (G' : Hp) (ws : List V) (cs : List (PyData × Int)), σ = [some v, some (.ref L), some (.int ds), y3, y4, y5] ∧ Same G G' ∧ Sep G' ((L, .lst ws) :: M) H' ∧ Paired (WtD K G') ws cs ∧ 1 ≤ ds ∧ max ds (lvm cs) = (lev d : Nat) ∧ fbs (cs.reverse.map (·.1)) = fb d ∧ m = wszD cs ∧ m ≤ 40000,
      ⟨nds d, _, _, _, 1, _, [.ref t], [(d, 1)], rfl, s1, S2, .cons ⟨t, v, rfl, upd_same, dp_same s1 hv, ok, Int.le_refl _⟩ .nil, Int.le_refl _, ?_, ?_, by simp [wszD], hn⟩, fun m σ H' h => ?_⟩
    · have := lev_pos d
      simp only [lvm]
      omega
    · show fbs [d] = fb d
      simp only [fbs]
      cases fb d <;> rfl
    obtain ⟨y3, y4, y5, ds, G', ws, cs, rfl, s3, S3, hw, hds, hlv, hfb, rfl, hm⟩ := h
    refine ⟨!ws.isEmpty, .inl ⟨ws, SqL.of S3.hd, rfl⟩, fun e => ?_, fun e => ?_⟩
    · rcases nil_or_snoc ws with rfl | ⟨wp, x, rfl⟩
      · exact nomatch e
      obtain ⟨cp, c, rfl, hwp, t1, u, rfl, ht1, hu, oku, l1⟩ := prd_unsnoc hw
      obtain ⟨dc, lc⟩ := c
      replace hu : Dp K G' u dc := hu
      replace oku : Okd dc := oku
      replace l1 : 1 ≤ lc := l1
      have S4 := S3.set (o' := .lst wp)
      have esz : wszD (cp ++ [(dc, lc)]) = wszD cp + nds dc := by rw [wszD_app]; simp [wszD]
      have hcs := nds_pos dc
      have efb : fbs (dc :: cp.reverse.map (·.1)) = fb d := by
        rw [← hfb, List.reverse_append]
        rfl
      have elv : max ds (max (lvm cp) (lc - 1 + (lev dc : Nat))) = (lev d : Nat) := by
        rw [← hlv, lvm_app _ _ (fun c hc => by rw [List.mem_singleton.mp hc]; exact l1)]
        simp only [lvm]
        omega
      -- part, level = waiting.pop()
      refine ⟨.inl ⟨rfl, _, SqL.of S3.hd⟩, L, wp ++ [.ref t1], .ref t1, rfl, rfl, S3.hd, by simp, ?_⟩
      rw [List.dropLast_concat]
      refine ⟨t1, _, rfl, SqT.of (S4.st ht1), rfl, _, _, rfl, _, _, rfl, rfl, ?_⟩
      refine ⟨G', _, u, dc, rfl, S4, dp_same S4.1 hu, oku.wt, fun G5 H5 s5 S5 => ⟨fun e2 => ?_, fun e2 => ?_⟩⟩
      · have e3 : partOk dc = false := by simpa using e2
        have hdue : due d = some dc := by
          unfold due
          rw [← efb]
          simp only [fbs, fb_bad e3]
        exact ⟨u, rfl, oku.rp (dp_same S5.1 (dp_same s5 hu)), fun dd nd => (rz dc hdue u G5 (s3.trans s5) (dp_same s5 hu)).cell [_] |>.now S5 dd nd⟩
      have e3 : partOk dc = true := by simpa using e2
      obtain ⟨xh, r, rfl, hhd, his, hget⟩ := part_at e3
      obtain ⟨p, pus, rfl, hp0, hpus⟩ := id (dp_tup hu)
      obtain ⟨xv, vs, rfl, hxv, hvs⟩ := dpa_cons hpus
      obtain rfl := dp_str hxv
      have vl := dpa_len hvs
      have hp := same_t s5 hp0
      have hvs5 := dpa_same s5 hvs
      have hwp5 : Paired (WtD K G5) wp cp := prd_imp (fun _ _ => WtD.same s5) hwp
      refine ⟨fun σ H6 => ∃ ds' : Int, ds' = max ds lc ∧ σ = [some v, some (.ref L), some (.int ds'), some (.ref p), some (.int lc), y5] ∧ H6 = H5, ⟨fun e => ⟨lc, by have : ds < lc := of_decide_eq_true e; omega, rfl, rfl⟩, fun e => ⟨ds, by have : ¬ ds < lc := of_decide_eq_false e; omega, rfl, rfl⟩⟩, fun σ H6 h => ?_⟩
      obtain ⟨ds', hds', rfl, rfl⟩ := h
      have h1 : SqT K H6 p (.str xh :: vs) := S5.t hp
      have at0 : atI (V.str xh :: vs) 0 = some (.str xh) := atI_nat (j := 0) rfl
      have stop : (xh = "is" ∨ xh = "get") → ∃ m', m' < wszD (cp ++ [(.tuple (.str xh :: r), lc)]) ∧ ∃ (y3 y4 y5' : Option V) (ds : Int) (G' : Hp) (ws : List V) (cs : List (PyData × Int)), ([some v, some (.ref L), some (.int ds'), some (.ref p), some (.int lc), y5] : List (Option V)) = [some v, some (.ref L), some (.int ds), y3, y4, y5'] ∧
          Same G G' ∧ Sep G' ((L, .lst ws) :: M) H6 ∧ Paired (WtD K G') ws cs ∧ 1 ≤ ds ∧ max ds (lvm cs) = (lev d : Nat) ∧ fbs (cs.reverse.map (·.1)) = fb d ∧ m' = wszD cs ∧ m' ≤ 40000 := fun hx => by
        obtain ⟨f1, f2⟩ := fb_leaf e3 hx
        rw [f2] at elv
        refine ⟨wszD cp, by omega, _, _, _, ds', G5, wp, cp, rfl, s3.trans s5, S5, hwp5, by omega, by omega, ?_, rfl, by omega⟩
        rw [← efb]
        simp only [fbs, f1]
      refine ⟨_, _, .inr h1, at0, fun e4 => ?_, fun e4 => ?_⟩
      · have n1 : xh ≠ "is" := of_decide_eq_false (by simpa using e4)
        refine ⟨_, _, .inr h1, at0, fun e5 => ?_, fun e5 => ?_⟩
        · have n2 : xh ≠ "get" := of_decide_eq_false (by simpa using e5)
          obtain ⟨f1, f2⟩ := fb_node e3 ⟨n1, n2⟩
          have r0 : r ≠ [] := by
            have : headN xh ≠ 0 := by omega
            rcases headN_some this with rfl | rfl | rfl | rfl | rfl
            · exact absurd rfl n1
            · exact absurd rfl n2
            · intro e; rw [e] at hhd; exact absurd hhd (by decide +kernel)
            · intro e; rw [e] at hhd; exact absurd hhd (by decide +kernel)
            · intro e; rw [e] at hhd; exact absurd hhd (by decide +kernel)
          have r3 : r.length ≤ 3 := by
            have : headN xh ≤ 4 := by unfold headN; (repeat' split) <;> omega
            omega
          rw [f2] at elv
          have nd : nds (.tuple (.str xh :: r)) = ndss r + 1 := by simp only [nds]
          refine ⟨_, .inr h1, 1, rfl, (vs.length : Int), 0, -1, vs.length, ?_, ?_, for_rangeC (lo := (vs.length : Int)) (c := -1) (n := vs.length) (fun i σ H' => ∃ (y5 : Option V) (G' : Hp) (ns : List V) (ms : List (PyData × Int)), σ = [some v, some (.ref L), some (.int ds'), some (.ref p), some (.int lc), y5] ∧
            Same G5 G' ∧ Sep G' ((L, .lst (wp ++ ns)) :: M) H' ∧ Paired (WtD K G') ns ms ∧ ms = (r.reverse.map fun k => (k, lc + 1)).take i) ?_ (fun i σ H' hi h => ?_) (fun σ H' h => ?_)⟩
          · have e1 : (((V.str xh :: vs).length : Nat) : Int) - 1 = vs.length := by rw [List.length_cons]; omega
            show [V.int ((((V.str xh :: vs).length : Nat) : Int) - 1), V.int 0, V.int (-1)] = _
            rw [e1]
          · have z := RgC.neg (i := (vs.length : Int)) (j := 0) (by omega) (by omega) (by omega) (by omega)
            have e1 : ((vs.length : Int) - 0).toNat = vs.length := by omega
            rw [e1] at z
            exact z
          · exact ⟨_, G5, [], [], rfl, Same.refl _, by rw [List.append_nil]; exact S5, .nil, rfl⟩
          · obtain ⟨y5, G6, ns, ms, rfl, s6, S6, hn2, rfl⟩ := h
            have hj : vs.length - 1 - i < vs.length := by omega
            have hx : vs[vs.length - 1 - i]? = some vs[vs.length - 1 - i] := List.getElem?_eq_getElem hj
            obtain ⟨kc, hkc, hkk⟩ := dpa_get hvs5 hx
            have hat : atI (V.str xh :: vs) ((vs.length : Int) + (i : Nat) * (-1)) = some vs[vs.length - 1 - i] := by
              have e1 : (vs.length : Int) + (i : Nat) * (-1) = ((vs.length - i : Nat) : Int) := by omega
              rw [e1]
              refine atI_nat ?_
              have e2 : vs.length - i = (vs.length - 1 - i) + 1 := by omega
              rw [e2, List.getElem?_cons_succ]
              exact hx
            have hnl := prd_len hn2
            have hml : ((r.reverse.map fun k => (k, lc + 1)).take i).length ≤ 3 := by
              rw [List.length_take]
              omega
            have hwl := prd_len hwp5
            have hcl := wszD_len cp
            refine ⟨.inl ⟨rfl, _, SqL.of S6.hd⟩, _, _, .inr (S6.t (same_t s6 hp)), hat, sz, fun d nd => ?_⟩
            have S7 := S6.newG (o := .tup [vs[vs.length - 1 - i], .int (lc + 1)]) nd
            have s7 := S6.grow (o := .tup [vs[vs.length - 1 - i], .int (lc + 1)]) nd
            refine ⟨L, _, _, rfl, rfl, S7.hd, ?_, ?_⟩
            · rw [List.length_append]
              exact smallL (by omega)
            · refine ⟨_, _, ns ++ [.ref d], _, rfl, s6.trans s7, by rw [← List.append_assoc]; exact S7.set, (prd_imp (fun _ _ => WtD.same s7) hn2).snoc (b := (kc, lc + 1)) ⟨d, _, rfl, upd_same, dp_same s7 (dp_same s6 hkk), oku.kid (List.mem_cons_of_mem _ (List.mem_of_getElem? hkc)), ?_⟩, ?_⟩
              · show 1 ≤ lc + 1
                omega
              · refine (XL.take_snoc ?_).symm
                rw [List.getElem?_map, List.getElem?_reverse (by omega)]
                have e3 : r.length - 1 - i = vs.length - 1 - i := by omega
                rw [e3, hkc]
                rfl
          · obtain ⟨y5, G6, ns, ms, rfl, s6, S6, hn2, rfl⟩ := h
            have e1 : (r.reverse.map fun k => (k, lc + 1)).take vs.length = r.reverse.map fun k => (k, lc + 1) := List.take_of_length_le (by simp; omega)
            rw [e1] at hn2
            have e2 : wszD (cp ++ r.reverse.map fun k => (k, lc + 1)) = wszD cp + ndss r := by rw [wszD_app, ndss_rev]
            refine ⟨wszD (cp ++ r.reverse.map fun k => (k, lc + 1)), by omega, _, _, _, ds', G6, _, _, rfl, (s3.trans s5).trans s6, S6, prd_app (prd_imp (fun _ _ => WtD.same s6) hwp5) hn2, by omega, ?_, ?_, rfl, by omega⟩
            · rw [lvm_app _ _ (fun c hc => by
                obtain ⟨k, _, rfl⟩ := List.mem_map.mp hc
                show 1 ≤ lc + 1
                omega), lvm_rev r lc (by omega), if_neg r0]
              omega
            · rw [← efb, List.reverse_append, List.map_append, fbs_app]
              have e5 : ((r.reverse.map fun k => (k, lc + 1)).reverse.map (·.1) : List PyData) = r := by
                rw [← List.map_reverse, List.reverse_reverse, List.map_map]
                exact List.map_id r
              rw [e5]
              simp only [fbs, f1]
              cases fbs r <;> rfl
        · exact stop (.inr (of_decide_eq_true (by simpa using e5)))
      · exact ⟨ff, fun _ => stop (.inl (of_decide_eq_true (by simpa using e4)))⟩
    · have w0 : ws = [] := by
        cases ws with
        | nil => rfl
        | cons _ _ => exact nomatch e
      subst w0
      cases hw
      have e1 : fb d = none := by rw [← hfb]; rfl
      have e2 : ds = (lev d : Nat) := by
        simp only [lvm] at hlv
        omega
      refine ⟨fun e3 => ?_, fun e3 => ?_⟩
      · have z : (5 : Int) < ds := of_decide_eq_true e3
        have hdue : due d = some d := by
          unfold due
          rw [e1]
          exact if_neg (by omega)
        exact ⟨v, rfl, ok.rp (dp_same S3.1 (dp_same s3 hv)), fun dd nd => (rz d hdue v G' s3 (dp_same s3 hv)).cell [_] |>.now S3 dd nd⟩
      · have z : ¬ (5 : Int) < ds := of_decide_eq_false e3
        have hdue : due d = none := by
          unfold due
          rw [e1]
          exact if_pos (by omega)
        exact q hdue _ _ (s3.trans S3.frzS) S3.frz

end
end K25
set_option Elab.async false
set_option linter.all false
set_option maxRecDepth 100000
set_option maxHeartbeats 4000000
namespace K25
open PySem PySem.Spec PyProof.Rows L2 XL
/-! ### dicts by name -/
def dk (ns : List Str) (e : Str → Int) : List (Key × V) := ns.map fun x => (Sum.inr x, V.int (e x))
theorem dk_keys (ns : List Str) (e : Str → Int) : (dk ns e).map (fun kv => kV kv.1) = ns.map V.str := by
  unfold dk
  rw [List.map_map]
  rfl
theorem dk_len (ns : List Str) (e : Str → Int) : (dk ns e).length = ns.length := List.length_map _
theorem dk_val {e : Str → Int} {x : Str} : ∀ {ns : List Str}, x ∈ ns → valV (dk ns e) (Sum.inr x) = some (.int (e x))
  | y :: r, h => by
    unfold dk valV
    rw [List.map_cons, List.find?_cons]
    by_cases hy : y = x
    · subst hy
      simp
    · have h2 : x ∈ r := by
        rcases List.mem_cons.mp h with h | h
        · exact absurd h.symm hy
        · exact h
      have := dk_val (e := e) h2
      unfold dk valV at this
      simp only [Sum.inr.injEq, hy, decide_false]
      exact this
theorem dk_none {e : Str → Int} {x : Str} : ∀ {ns : List Str}, x ∉ ns → valV (dk ns e) (Sum.inr x) = none
  | [], _ => rfl
  | y :: r, h => by
    unfold dk valV
    rw [List.map_cons, List.find?_cons]
    have hy : ¬ y = x := fun hy => h (by rw [hy]; exact List.mem_cons_self)
    have := dk_none (e := e) (ns := r) (x := x) fun h2 => h (List.mem_cons_of_mem _ h2)
    unfold dk valV at this
    simp only [Sum.inr.injEq, hy, decide_false]
    exact this
theorem dk_put {ns : List Str} {e : Str → Int} {x : Str} {i : Nat} (nd : ns.Nodup) (hx : ns[i]? = some x) : putK (dk (ns.take i) e) (Sum.inr x) (.int (e x)) = dk (ns.take (i + 1)) e := by
  have nin : x ∉ ns.take i := fun h => by
    rw [(take_pre hx).1, List.nodup_append] at nd
    exact nd.2.2 _ h _ List.mem_cons_self rfl
  rw [putK_new _ (dk_none nin), take_snoc hx]
  simp [dk]
def ups (e : Str → Int) (y : Str) (v : Int) : Str → Int := fun x => if x = y then v else e x
theorem dk_set {ns : List Str} {e : Str → Int} {y : Str} {v : Int} (hy : y ∈ ns) : putK (dk ns e) (Sum.inr y) (.int v) = dk ns (ups e y v) := by
  unfold putK
  rw [valV_any, dk_val hy, Option.isSome_some, if_pos rfl]
  unfold dk
  rw [List.map_map]
  refine List.map_congr_left fun x hx => ?_
  simp only [Function.comp_apply, Sum.inr.injEq, ups]
  by_cases h : x = y
  · rw [if_pos h, if_pos h]
  · rw [if_neg h, if_neg h]
theorem dk_congr {ns : List Str} {e e' : Str → Int} (h : ∀ x ∈ ns, e x = e' x) : dk ns e = dk ns e' := by
  unfold dk
  exact List.map_congr_left fun x hx => by rw [h x hx]
/-! ### shapes of texts -/
def txD (x : Str) : PyData := .tuple [.str "text", .tuple [.str "get", .str x]]
def coD (nn : List Str) : PyData := .tuple [.str "col", .tuple (nn.map txD)]
/-- col(text(get x), ..) -/
structure ShAt (K : PySem.W.Frag) (G : Hp) (v : V) (nn : List Str) : Prop where
  dp : Dp K G v (coD nn)
theorem sh_at {K : PySem.W.Frag} {G : Hp} {v : V} {nn : List Str} (h : Dp K G v (coD nn)) : ∃ a b us, v = .ref a ∧ SqT K G a [.str "col", .ref b] ∧ SqT K G b us ∧ DpAll K G us (nn.map txD) := by
  obtain ⟨a, xs, rfl, h1, h2⟩ := dp_tup h
  obtain ⟨x1, r1, rfl, h3, h4⟩ := dpa_cons h2
  obtain ⟨x2, r2, rfl, h5, h6⟩ := dpa_cons h4
  cases h6
  rw [dp_str h3] at h1
  obtain ⟨b, us, rfl, h7, h8⟩ := dp_tup h5
  exact ⟨a, b, us, rfl, h1, h7, h8⟩
theorem tx_at {K : PySem.W.Frag} {G : Hp} {v : V} {x : Str} (h : Dp K G v (txD x)) : ∃ a b, v = .ref a ∧ SqT K G a [.str "text", .ref b] ∧ SqT K G b [.str "get", .str x] := by
  obtain ⟨a, xs, rfl, h1, h2⟩ := dp_tup h
  obtain ⟨x1, r1, rfl, h3, h4⟩ := dpa_cons h2
  obtain ⟨x2, r2, rfl, h5, h6⟩ := dpa_cons h4
  cases h6
  rw [dp_str h3] at h1
  obtain ⟨b, us, rfl, h7, h8⟩ := dp_tup h5
  obtain ⟨y1, s1, rfl, g3, g4⟩ := dpa_cons h8
  obtain ⟨y2, s2, rfl, g5, g6⟩ := dpa_cons g4
  cases g6
  rw [dp_str g3, dp_str g5] at h7
  exact ⟨a, b, rfl, h1, h7⟩

/-! ### forms by name -/
inductive Gm where
  | is (n : Int)
  | get (x : Str)
  | sum (a b : Gm)
  | same (a b : Gm)
  | pick (a b c : Gm)
def Gm.dep : Gm → Nat
  | .is _ => 1
  | .get _ => 1
  | .sum a b => max a.dep b.dep + 1
  | .same a b => max a.dep b.dep + 1
  | .pick a b c => max a.dep (max b.dep c.dep) + 1
def Gm.val (e : Str → Int) : Gm → Int
  | .is n => n
  | .get x => e x
  | .sum a b => (a.val e + b.val e) % 10
  | .same a b => if a.val e = b.val e then 1 else 0
  | .pick a b c => if a.val e = 0 then c.val e else b.val e
def Gm.ok (ns : List Str) : Gm → Prop
  | .is n => 0 ≤ n ∧ n ≤ 9
  | .get x => x ∈ ns
  | .sum a b => a.ok ns ∧ b.ok ns
  | .same a b => a.ok ns ∧ b.ok ns
  | .pick a b c => a.ok ns ∧ b.ok ns ∧ c.ok ns
theorem Gm.dep_pos (f : Gm) : 0 < f.dep := by cases f <;> simp [Gm.dep]
theorem Gm.val_congr {ns : List Str} {e e' : Str → Int} (h : ∀ x ∈ ns, e x = e' x) : ∀ f : Gm, f.ok ns → f.val e = f.val e'
  | .is n, _ => rfl
  | .get x, ok => h x ok
  | .sum a b, ok => by rw [Gm.val, Gm.val, Gm.val_congr h a ok.1, Gm.val_congr h b ok.2]
  | .same a b, ok => by rw [Gm.val, Gm.val, Gm.val_congr h a ok.1, Gm.val_congr h b ok.2]
  | .pick a b c, ok => by rw [Gm.val, Gm.val, Gm.val_congr h a ok.1, Gm.val_congr h b ok.2.1, Gm.val_congr h c ok.2.2]
theorem Gm.val_ok {ns : List Str} {e : Str → Int} (h : ∀ x ∈ ns, 0 ≤ e x ∧ e x ≤ 9) : ∀ f : Gm, f.ok ns → 0 ≤ f.val e ∧ f.val e ≤ 9
  | .is n, ok => ok
  | .get x, ok => h x ok
  | .sum a b, _ => by rw [Gm.val]; omega
  | .same a b, _ => by rw [Gm.val]; split <;> omega
  | .pick a b c, ok => by
    rw [Gm.val]
    split
    · exact Gm.val_ok h c ok.2.2
    · exact Gm.val_ok h b ok.2.1
inductive GmAt (K : PySem.W.Frag) (G : Hp) : V → Gm → Prop where
  | is {p : Addr} {n : Int} (h : SqT K G p [.str "is", .int n]) : GmAt K G (.ref p) (.is n)
  | get {p : Addr} {x : Str} (h : SqT K G p [.str "get", .str x]) : GmAt K G (.ref p) (.get x)
  | sum {p : Addr} {u v : V} {a b : Gm} (h : SqT K G p [.str "sum", u, v]) (h2 : GmAt K G u a) (h3 : GmAt K G v b) : GmAt K G (.ref p) (.sum a b)
  | same {p : Addr} {u v : V} {a b : Gm} (h : SqT K G p [.str "same", u, v]) (h2 : GmAt K G u a) (h3 : GmAt K G v b) : GmAt K G (.ref p) (.same a b)
  | pick {p : Addr} {u v w : V} {a b c : Gm} (h : SqT K G p [.str "pick", u, v, w]) (h2 : GmAt K G u a) (h3 : GmAt K G v b) (h4 : GmAt K G w c) : GmAt K G (.ref p) (.pick a b c)
theorem GmAt.same' {K : PySem.W.Frag} {G G' : Hp} (e : Same G G') {v : V} {f : Gm} (h : GmAt K G v f) : GmAt K G' v f := by
  induction h with
  | is h => exact .is (same_t e h)
  | get h => exact .get (same_t e h)
  | sum h _ _ h2 h3 => exact .sum (same_t e h) h2 h3
  | same h _ _ h2 h3 => exact .same (same_t e h) h2 h3
  | pick h _ _ _ h2 h3 h4 => exact .pick (same_t e h) h2 h3 h4
/-- a dict by name at an address -/
def DkAt (H : Hp) (d : Addr) (ns : List Str) (e : Str → Int) : Prop := H d = some (.dK (dk ns e))
theorem dk_get {H : Hp} {d : Addr} {ns : List Str} {e : Str → Int} {x : Str} (h : H d = some (.dK (dk ns e))) (hx : x ∈ ns) : DGet H d (.str x) (some (.int (e x))) := by
  rw [← dk_val hx]
  exact DGet.k (k := Sum.inr x) h

section
variable {P : Program} {w : World} {K : PySem.W.Frag} {mg : Str → Option Value} {base : Heap}
theorem fn_false39 {P : Program} {w : World} {K : PySem.W.Frag} {mg : Str → Option Value} {base : Heap} {CX : CXT} {k : Nat} {f : Addr} {fd : FuncData} {ps : List Str} {sp : Sp} (h : ∀ vs H Q E, sp vs H Q E → False) : FnOk P w K mg base CX k f fd ps sp :=
  ⟨fun vs H Q E q => (h vs H Q E q).elim, fun A outer s H args us vs Q E hr he hb hv q => (h vs H Q E q).elim⟩
def spForm (K : PySem.W.Frag) (d : Nat) : Sp := fun vs H Q _ => ∃ (G : Hp) (M : List (Addr × HO)) (b : Addr) (o : HO) (l : Addr) (ns : List Str) (n : Int), vs = [.ref b, .ref l, .int n] ∧ Sep G ((b, o) :: M) H ∧ Bag G o ∧ G l = some (.lst (ns.map V.str)) ∧ 0 < ns.length ∧ ns.length ≤ 100 ∧ 1 ≤ n ∧ n ≤ d ∧
  ∀ (v : V) (f : Gm) (o' : HO) (G' H' : Hp), Same G G' → GmAt K G' v f → f.ok ns → f.dep ≤ n → Bag G' o' → Sep G' ((b, o') :: M) H' → Q v H'
theorem ok_form (T : Top K mg w) {k : Nat} (G_pick : FnOk P w K mg base CX0 k T.a_pick T.d_pick ["_law_bag_here", "_law_many"] spPick) (G_choice : FnOk P w K mg base CX0 k T.a_choice T.d_choice ["_law_bag_here", "_law_things"] (spChoice K)) :
    ∀ d : Nat, FnOk P w K mg base CX0 (k + 1 + d) T.a_form T.d_form ["_law_bag_here", "_law_readable", "_law_levels"] (spForm K d)
  | 0 => fn_false39 fun vs H Q E h => by
    obtain ⟨G, M, b, o, l, xs, n, _, _, _, _, _, _, h1, h2, _⟩ := h
    omega
  | d + 1 => by
    have G_form := ok_form T G_pick G_choice d
    refine T.F_form.ok sc_form (fun vs H Q E h => ?_) (fun cdv A outer s H vs Q E hr h => ?_)
    · obtain ⟨G, M, b, o, l, xs, n, rfl, _⟩ := h
      rfl
    · obtain ⟨G, M, b, o, l, ns, n, rfl, S, B, hl, x0, x1, n1, n2, q⟩ := h
      have hr : Room (k + 1 + d) (A.deeper (envOfC (Str.ofString "_law_form") (defScope s_form) s.heap.objs.size T.a_form cdv)) := hr
      refine ⟨_, (pss_cons (ps_set (i := 3) sc_form.nd rfl (.inl rfl) (pe_call G_pick (hr.mono (by omega)) (by rfl) T.g_pick T.F_pick.kp T.b_pick .nil pass0 (pa_cons (xv 0) (pa_cons pe_int pa_nil))))
      (pss_cons (xs_if (PW.pt (xw_or (xt_cmp op_leY (xv 2) pe_int (nomark _)) (pw_or1 (xt_cmp op_ltY (xv 3) pe_int (nomark _)))))
      (pss_cons (xs_if (PW.pt (xw_or (pt_not (xt_truK K (xv 1))) (pw_or1 (PW.pt (xw_and (xt_cmp (op_eqLK K hr.u190) (xv 3) pe_int (nomark _)) (pw_and1 (xt_cmp (op_eqLK K hr.u190) (pe_call G_pick (hr.mono (by omega)) (by rfl) T.g_pick T.F_pick.kp T.b_pick .nil pass0 (pa_cons (xv 0) (pa_cons pe_int pa_nil))) pe_int (nomark _))))))))
      (pss_one (ps_ret (pe_tup (pa_cons pe_str (pa_cons (pe_call G_pick (hr.mono (by omega)) (by rfl) T.g_pick T.F_pick.kp T.b_pick .nil pass0 (pa_cons (xv 0) (pa_cons pe_int pa_nil))) pa_nil)))))
      pss_nil)
      (pss_one (ps_ret (pe_tup (pa_cons pe_str (pa_cons (pe_call G_choice (hr.mono (by omega)) (by rfl) T.g_choice T.F_choice.kp T.b_choice .nil pass0 (pa_cons (xv 0) (pa_cons (xv 1) pa_nil))) pa_nil))))))
      pss_nil)
      (pss_cons (ps_set (i := 4) sc_form.nd rfl (.inl rfl) (pe_call G_form (hr.mono (by omega)) (by rfl) T.g_form T.F_form.kp T.b_form .nil pass0 (pa_cons (xv 0) (pa_cons (xv 1) (pa_cons (pe_op op_subY (xv 2) pe_int) pa_nil)))))
      (pss_cons (ps_set (i := 5) sc_form.nd rfl (.inl rfl) (pe_call G_form (hr.mono (by omega)) (by rfl) T.g_form T.F_form.kp T.b_form .nil pass0 (pa_cons (xv 0) (pa_cons (xv 1) (pa_cons (pe_op op_subY (xv 2) pe_int) pa_nil)))))
      (pss_cons (xs_if (xt_cmp op_ltY (xv 3) pe_int (nomark _))
      (pss_one (ps_ret (pe_tup (pa_cons (pe_ix (ix_k K) (pe_lst (pa_cons pe_str (pa_cons pe_str (pa_cons pe_str pa_nil)))) (pe_op op_subY (xv 3) pe_int) (fun _ _ => rfl)) (pa_cons (xv 4) (pa_cons (xv 5) pa_nil))))))
      pss_nil)
      (pss_one (ps_ret (pe_tup (pa_cons pe_str (pa_cons (xv 4) (pa_cons (xv 5) (pa_cons (pe_call G_form (hr.mono (by omega)) (by rfl) T.g_form T.F_form.kp T.b_form .nil pass0 (pa_cons (xv 0) (pa_cons (xv 1) (pa_cons (pe_op op_subY (xv 2) pe_int) pa_nil)))) pa_nil)))))))))))), ?_⟩
      have nml : (ns.map V.str).length = ns.length := List.length_map _
      refine ⟨G, M, b, o, 8, rfl, S, B, by decide, by decide, fun w1 o1 H1 w0 w8 B1 S1 => ?_⟩
      have isQ : ∀ o2 H2, Bag G o2 → Sep G ((b, o2) :: M) H2 → ∀ r : Int, 0 ≤ r → r < 10 → ∀ t, H2 t = none → Q (.ref t) (upd H2 t (.tup [.str "is", .int r])) := fun o2 H2 B2 S2 r r0 r1 t nt =>
        q _ (.is r) o2 _ _ (S2.grow nt) (.is (SqT.of upd_same)) ⟨r0, by omega⟩ n1 (B2.same (S2.grow nt)) (S2.newG nt)
      refine ⟨fun e1 => ⟨fun _ => ?_, tt⟩, fun e1 => ⟨fun e2 => ?_, fun e2 => ?_⟩⟩
      rotate_left 2
      · have n2' : ¬ n ≤ 1 := of_decide_eq_false e1
        have w3 : ¬ w1 < 3 := of_decide_eq_false e2
        refine ⟨G, M, b, o1, l, ns, n - 1, rfl, S1, B1, hl, x0, x1, by omega, by omega, fun v1 f1 o2 G2 H2 s2 hf1 ok1 d1 B2 S2 => ?_⟩
        refine ⟨G2, M, b, o2, l, ns, n - 1, rfl, S2, B2, s2 _ _ hl, x0, x1, by omega, by omega, fun v2 f2 o3 G3 H3 s3 hf2 ok2 d2 B3 S3 => ⟨fun e3 => ?_, fun e3 => ?_⟩⟩
        · have w6 : w1 < 6 := of_decide_eq_true e3
          refine ⟨sz, fun t0 nt0 => ?_⟩
          have S4 := S3.newG (o := .lst [.str "sum", .str "sum", .str "same"]) nt0
          have s4 := S3.grow (o := .lst [.str "sum", .str "sum", .str "same"]) nt0
          obtain rfl | rfl | rfl : w1 = 3 ∨ w1 = 4 ∨ w1 = 5 := by omega
          · refine ⟨_, _, .inl (SqL.of upd_same), rfl, sz, fun t nt => ?_⟩
            have s5 := s4.trans (S4.grow (o := .tup [.str "sum", v1, v2]) nt)
            exact q _ (.sum f1 f2) o3 _ _ (s2.trans (s3.trans s5)) (.sum (SqT.of upd_same) (hf1.same' (s3.trans s5)) (hf2.same' s5)) ⟨ok1, ok2⟩ (by simp only [Gm.dep]; omega) (B3.same s5) (S4.newG nt)
          · refine ⟨_, _, .inl (SqL.of upd_same), rfl, sz, fun t nt => ?_⟩
            have s5 := s4.trans (S4.grow (o := .tup [.str "sum", v1, v2]) nt)
            exact q _ (.sum f1 f2) o3 _ _ (s2.trans (s3.trans s5)) (.sum (SqT.of upd_same) (hf1.same' (s3.trans s5)) (hf2.same' s5)) ⟨ok1, ok2⟩ (by simp only [Gm.dep]; omega) (B3.same s5) (S4.newG nt)
          · refine ⟨_, _, .inl (SqL.of upd_same), rfl, sz, fun t nt => ?_⟩
            have s5 := s4.trans (S4.grow (o := .tup [.str "same", v1, v2]) nt)
            exact q _ (.same f1 f2) o3 _ _ (s2.trans (s3.trans s5)) (.same (SqT.of upd_same) (hf1.same' (s3.trans s5)) (hf2.same' s5)) ⟨ok1, ok2⟩ (by simp only [Gm.dep]; omega) (B3.same s5) (S4.newG nt)
        · refine ⟨G3, M, b, o3, l, ns, n - 1, rfl, S3, B3, (s2.trans s3) _ _ hl, x0, x1, by omega, by omega, fun v3 f3 o4 G4 H4 s4 hf3 ok3 d3 B4 S4 => ⟨sz, fun t nt => ?_⟩⟩
          have s5 := S4.grow (o := .tup [.str "pick", v1, v2, v3]) nt
          exact q _ (.pick f1 f2 f3) o4 _ _ (s2.trans (s3.trans (s4.trans s5))) (.pick (SqT.of upd_same) (hf1.same' (s3.trans (s4.trans s5))) (hf2.same' (s4.trans s5)) (hf3.same' s5)) ⟨ok1, ok2, ok3⟩ (by simp only [Gm.dep]; omega) (B4.same s5) (S4.newG nt)
      all_goals
        have getQ : ∀ o2 H2, Bag G o2 → Sep G ((b, o2) :: M) H2 → ∀ v, v ∈ ns.map V.str → ∀ t, H2 t = none → Q (.ref t) (upd H2 t (.tup [.str "get", v])) := fun o2 H2 B2 S2 v hv t nt => by
          obtain ⟨z, hz, rfl⟩ := List.mem_map.mp hv
          exact q _ (.get z) o2 _ _ (S2.grow nt) (.get (SqT.of upd_same)) hz n1 (B2.same (S2.grow nt)) (S2.newG nt)
        have ne : (!!(ns.map V.str).isEmpty) = false := by
          cases ns with
          | nil => simp at x0
          | cons _ _ => rfl
        refine ⟨!(ns.map V.str).isEmpty, .inl ⟨_, SqL.of (S1.st hl), rfl⟩, fun e => absurd e (by rw [ne]; decide), fun _ => ⟨fun _ => ?_, fun _ => ⟨ff, fun _ => ?_⟩⟩⟩
        · refine ⟨G, M, b, o1, 2, rfl, S1, B1, by decide, by decide, fun r2 o2 H2 _ _ B2 S2 => ⟨fun _ => ?_, fun _ => ?_⟩⟩
          · exact ⟨G, M, b, o2, 10, rfl, S2, B2, by decide, by decide, fun r3 o3 H3 r30 r31 B3 S3 => ⟨sz, fun t nt => isQ o3 H3 B3 S3 r3 r30 r31 t nt⟩⟩
          · exact ⟨G, M, b, o2, l, _, rfl, S2, B2, SqL.of hl, by omega, by omega, fun v o3 H3 hv B3 S3 => ⟨sz, fun t nt => getQ o3 H3 B3 S3 v hv t nt⟩⟩
        · exact ⟨G, M, b, o1, l, _, rfl, S1, B1, SqL.of hl, by omega, by omega, fun v o3 H3 hv B3 S3 => ⟨sz, fun t nt => getQ o3 H3 B3 S3 v hv t nt⟩⟩

end
end K25
set_option Elab.async false
set_option linter.all false
set_option maxRecDepth 100000
set_option maxHeartbeats 4000000
namespace K25
open PySem PySem.Spec PyProof.Rows L2 XL
section
variable {P : Program} {w : World} {K : PySem.W.Frag} {mg : Str → Option Value} {base : Heap}
/-! ### the names in a form by names -/
def addN (a b : List Str) : List Str := a ++ b.filter fun x => !decide (x ∈ a)
theorem addN_nil (b : List Str) : addN [] b = b := by
  unfold addN
  rw [List.nil_append, List.filter_eq_self]
  intro x _
  simp
theorem addN_nd {a b : List Str} (ha : a.Nodup) (hb : b.Nodup) : (addN a b).Nodup := by
  unfold addN
  rw [List.nodup_append]
  refine ⟨ha, hb.filter _, fun x hx y hy e => ?_⟩
  subst e
  have := (List.mem_filter.mp hy).2
  simp [hx] at this
theorem addN_mem {a b : List Str} {x : Str} (h : x ∈ addN a b) : x ∈ a ∨ x ∈ b := (List.mem_append.mp h).imp id fun h => (List.mem_filter.mp h).1
def Gm.nms : Gm → List Str
  | .is _ => []
  | .get x => [x]
  | .sum a b => addN (addN [] a.nms) b.nms
  | .same a b => addN (addN [] a.nms) b.nms
  | .pick a b c => addN (addN (addN [] a.nms) b.nms) c.nms
theorem Gm.nms_nd : ∀ f : Gm, f.nms.Nodup
  | .is _ => List.nodup_nil
  | .get x => by simp [Gm.nms]
  | .sum a b => addN_nd (addN_nd List.nodup_nil a.nms_nd) b.nms_nd
  | .same a b => addN_nd (addN_nd List.nodup_nil a.nms_nd) b.nms_nd
  | .pick a b c => addN_nd (addN_nd (addN_nd List.nodup_nil a.nms_nd) b.nms_nd) c.nms_nd
theorem Gm.nms_ok {ns : List Str} : ∀ {f : Gm}, f.ok ns → ∀ x ∈ f.nms, x ∈ ns
  | .is _, _, x, h => nomatch h
  | .get y, ok, x, h => by rw [List.mem_singleton.mp h]; exact ok
  | .sum a b, ok, x, h => by
    rcases addN_mem h with h | h
    · rw [addN_nil] at h
      exact Gm.nms_ok ok.1 x h
    · exact Gm.nms_ok ok.2 x h
  | .same a b, ok, x, h => by
    rcases addN_mem h with h | h
    · rw [addN_nil] at h
      exact Gm.nms_ok ok.1 x h
    · exact Gm.nms_ok ok.2 x h
  | .pick a b c, ok, x, h => by
    rcases addN_mem h with h | h
    · rcases addN_mem h with h | h
      · rw [addN_nil] at h
        exact Gm.nms_ok ok.1 x h
      · exact Gm.nms_ok ok.2.1 x h
    · exact Gm.nms_ok ok.2.2 x h
def Gm.kids : Gm → List Gm
  | .is _ => []
  | .get _ => []
  | .sum a b => [a, b]
  | .same a b => [a, b]
  | .pick a b c => [a, b, c]
def nmF (l : List (List Str)) : List Str := l.foldl addN []
theorem nmF_snoc (l : List (List Str)) (b : List Str) : nmF (l ++ [b]) = addN (nmF l) b := by
  unfold nmF
  rw [List.foldl_append]
  rfl
theorem nmF_nd : ∀ {l : List Gm}, (nmF (l.map Gm.nms)).Nodup := fun {l} => by
  have : ∀ (l : List Gm) (a : List Str), a.Nodup → ((l.map Gm.nms).foldl addN a).Nodup := fun l => by
    induction l with
    | nil => intro a h; exact h
    | cons x r ih => intro a h; exact ih _ (addN_nd h x.nms_nd)
  exact this l [] List.nodup_nil
theorem Gm.nms_kids {f : Gm} (h : f.kids ≠ []) : f.nms = nmF (f.kids.map Gm.nms) := by
  cases f with
  | is n => exact absurd rfl h
  | get x => exact absurd rfl h
  | sum a b => rfl
  | same a b => rfl
  | pick a b c => rfl
theorem GmAt.node {K : PySem.W.Frag} {G : Hp} {v : V} {f : Gm} (h : GmAt K G v f) : (∃ p n, v = .ref p ∧ SqT K G p [.str "is", .int n] ∧ f = .is n) ∨ (∃ p x, v = .ref p ∧ SqT K G p [.str "get", .str x] ∧ f = .get x) ∨
    ∃ (p : Addr) (u : Str) (vs : List V), v = .ref p ∧ SqT K G p (.str u :: vs) ∧ Paired (GmAt K G) vs f.kids ∧ u ≠ "is" ∧ u ≠ "get" ∧ f.kids ≠ [] ∧ f.kids.length ≤ 3 ∧ ∀ c ∈ f.kids, c.dep < f.dep := by
  cases h with
  | is h => exact .inl ⟨_, _, rfl, h, rfl⟩
  | get h => exact .inr (.inl ⟨_, _, rfl, h, rfl⟩)
  | sum h h1 h2 =>
    refine .inr (.inr ⟨_, _, _, rfl, h, .cons h1 (.cons h2 .nil), by decide +kernel, by decide +kernel, by simp [Gm.kids], by simp [Gm.kids], fun c hc => ?_⟩)
    simp only [Gm.kids, List.mem_cons, List.not_mem_nil, or_false] at hc
    rcases hc with rfl | rfl <;> simp only [Gm.dep] <;> omega
  | same h h1 h2 =>
    refine .inr (.inr ⟨_, _, _, rfl, h, .cons h1 (.cons h2 .nil), by decide +kernel, by decide +kernel, by simp [Gm.kids], by simp [Gm.kids], fun c hc => ?_⟩)
    simp only [Gm.kids, List.mem_cons, List.not_mem_nil, or_false] at hc
    rcases hc with rfl | rfl <;> simp only [Gm.dep] <;> omega
  | pick h h1 h2 h3 =>
    refine .inr (.inr ⟨_, _, _, rfl, h, .cons h1 (.cons h2 (.cons h3 .nil)), by decide +kernel, by decide +kernel, by simp [Gm.kids], by simp [Gm.kids], fun c hc => ?_⟩)
    simp only [Gm.kids, List.mem_cons, List.not_mem_nil, or_false] at hc
    rcases hc with rfl | rfl | rfl <;> simp only [Gm.dep] <;> omega
theorem Gm.kids_ok {ns : List Str} {f : Gm} (h : f.ok ns) : ∀ c ∈ f.kids, c.ok ns := fun c hc => by
  cases f with
  | is n => exact nomatch hc
  | get x => exact nomatch hc
  | sum a b =>
    simp only [Gm.kids, List.mem_cons, List.not_mem_nil, or_false] at hc
    rcases hc with rfl | rfl
    · exact h.1
    · exact h.2
  | same a b =>
    simp only [Gm.kids, List.mem_cons, List.not_mem_nil, or_false] at hc
    rcases hc with rfl | rfl
    · exact h.1
    · exact h.2
  | pick a b c =>
    simp only [Gm.kids, List.mem_cons, List.not_mem_nil, or_false] at hc
    rcases hc with rfl | rfl | rfl
    · exact h.1
    · exact h.2.1
    · exact h.2.2
theorem nodup_sub {l : List Str} {ns : List Str} (nd : l.Nodup) (h : ∀ x ∈ l, x ∈ ns) : l.length ≤ ns.length := by
  induction l generalizing ns with
  | nil => simp
  | cons x r ih =>
    rw [List.nodup_cons] at nd
    have hx := h x List.mem_cons_self
    have := ih (ns := ns.erase x) nd.2 fun y hy => (List.mem_erase_of_ne (fun e => nd.1 (by rw [← e]; exact hy))).mpr (h y (List.mem_cons_of_mem _ hy))
    rw [List.length_erase_of_mem hx] at this
    have h0 := List.length_pos_of_mem hx
    rw [List.length_cons]
    omega
theorem cutT1 (x : V) (vs : List V) : cutV (x :: vs) (some 1) none = vs := by
  unfold cutV
  rw [show HT.sIx (x :: vs).length 0 (some 1) = min 1 (x :: vs).length from HT.sIx_nat _ 0 1, HT.sIx_none]
  rw [show min 1 (x :: vs).length = 1 by rw [List.length_cons]; omega]
  show (List.take ((x :: vs).length - 1) vs) = vs
  rw [List.length_cons, Nat.add_sub_cancel, List.take_length]
theorem inS {x : Str} (xs : List Str) : inV (.str x) (xs.map V.str) = decide (x ∈ xs) := by
  unfold inV
  induction xs with
  | nil => rfl
  | cons y r ih =>
    rw [List.map_cons, List.any_cons, ih]
    show ((y == x) || decide (x ∈ r)) = decide (x ∈ y :: r)
    by_cases e : x = y
    · subst e; simp
    · have e2 : ¬ y = x := fun q => e q.symm
      simp [e, e2]
theorem flS (xs : List Str) : (xs.map V.str).all flatV = true := by
  rw [List.all_eq_true]
  intro x hx
  obtain ⟨n, _, rfl⟩ := List.mem_map.mp hx
  rfl
def spNamesG (K : PySem.W.Frag) (d : Nat) : Sp := fun vs H Q _ => ∃ (G : Hp) (M : List (Addr × HO)) (v : V) (f : Gm) (ns : List Str), vs = [v] ∧ Sep G M H ∧ GmAt K G v f ∧ f.ok ns ∧ ns.length ≤ 100 ∧ f.dep ≤ d ∧
  ∀ (p : Addr) (G' H' : Hp), Same G G' → Sep G' M H' → G' p = some (.tup (f.nms.map V.str)) → Q (.ref p) H'
theorem ok_names_ofG (T : Top K mg w) : ∀ d : Nat, FnOk P w K mg base CX0 (d + 1) T.a_names_of T.d_names_of ["parts"] (spNamesG K d)
  | 0 => fn_false39 fun vs H Q E h => by
    obtain ⟨G, M, v, f, ns, _, _, _, _, _, hd, _⟩ := h
    have := f.dep_pos
    omega
  | d + 1 => by
    have G_names_of := ok_names_ofG T d
    refine T.F_names_of.ok sc_names_of (fun vs H Q E h => ?_) (fun cdv A outer s H vs Q E hr h => ?_)
    · obtain ⟨G, M, v, f, ns, rfl, _⟩ := h
      rfl
    · obtain ⟨G, M, v, f, ns, rfl, S, hf, ok, nsl, hd, q⟩ := h
      refine ⟨_, (pss_cons (xs_if (xt_cmp (op_eqLK K hr.u190) (pe_ix (ix_k K) (xv 0) pe_int (fun _ _ => rfl)) pe_str (nomark _))
      (pss_one (ps_ret (pe_tup pa_nil)))
      pss_nil)
      (pss_cons (xs_if (xt_cmp (op_eqLK K hr.u190) (pe_ix (ix_k K) (xv 0) pe_int (fun _ _ => rfl)) pe_str (nomark _))
      (pss_one (ps_ret (pe_tup (pa_cons (pe_ix (ix_k K) (xv 0) pe_int (fun _ _ => rfl)) pa_nil))))
      pss_nil)
      (pss_cons (ps_set (i := 1) sc_names_of.nd rfl (.inl rfl) (pe_lst pa_nil))
      (pss_cons (ps_for PassesOwn.never rfl (pi_tupK K (pe_slice sl_tup (xv 0) (po_some pe_int) po_none)) (pg_name (i := 2) sc_names_of.nd rfl (.inl rfl))
      (pss_one (ps_for PassesOwn.never rfl (pi_tupK K (pe_call G_names_of (hr.mono (by omega)) (by rfl) T.g_names_of T.F_names_of.kp T.b_names_of .nil pass0 (pa_cons (xv 2) pa_nil))) (pg_name (i := 3) sc_names_of.nd rfl (.inl rfl))
      (pss_one (xs_if (xt_cmp (notin_seqK K) (xv 3) (xv 1) (by rfl))
      (pss_one (ps_expr (pe_bmK K PySem.F.plainAttrs_list PySem.F.slot_list_append PySem.F.type_list_append mt_append (xv 1) (pa_cons (xv 3) pa_nil))))
      pss_nil)))))
      (pss_one (ps_ret (pe_callTy (call_tupleK K) (by rfl) T.m_tuple (by decide +kernel) (pa_cons (xv 1) pa_nil)))))))), ?_⟩
      rcases hf.node with ⟨p, n, rfl, hp, rfl⟩ | ⟨p, x, rfl, hp, rfl⟩ | ⟨p, u, vs, rfl, hp, hk, u1, u2, kne, kl, kd⟩
      · have h1 := S.t hp
        exact ⟨_, _, .inr h1, rfl, fun _ => ⟨sz, fun t nt => q t _ _ (S.grow nt) (S.newG nt) upd_same⟩, we⟩
      · have h1 := S.t hp
        exact ⟨_, _, .inr h1, rfl, fun e => wd e, fun _ => ⟨_, _, .inr h1, rfl, fun _ => ⟨_, _, .inr h1, rfl, sz, fun t nt => q t _ _ (S.grow nt) (S.newG nt) upd_same⟩, we⟩⟩
      · have h1 := S.t hp
        have at0 : atI (V.str u :: vs) 0 = some (.str u) := atI_nat (j := 0) rfl
        refine ⟨_, .str u, .inr h1, at0, fun e => absurd (of_decide_eq_true e) u1, fun _ => ⟨_, .str u, .inr h1, at0, fun e => absurd (of_decide_eq_true e) u2, fun _ => ?_⟩⟩
        refine ⟨sz, fun L nL => ?_⟩
        have S1 := S.new (o := .lst []) nL
        refine ⟨1, rfl, p, _, rfl, S1.t hp, ?_, fun t nt => ?_⟩
        · rintro ⟨z, _⟩
          rw [show HT.sIx (V.str u :: vs).length 0 (some 1) = min 1 (V.str u :: vs).length from HT.sIx_nat _ 0 1, List.length_cons] at z
          omega
        · rw [cutT1] at *
          have S2 := S1.newG (o := .tup vs) nt
          have s2 := S1.grow (o := .tup vs) nt
          have kvl := prd_len hk
          refine ⟨t, rfl, ⟨vs, SqT.of (S2.st upd_same)⟩, for_tup (xs := vs) (fun i σ H' => ∃ (y2 y3 : Option V) (G' : Hp), σ = [some (.ref p), some (.ref L), y2, y3] ∧ Same (upd G t (.tup vs)) G' ∧ Sep G' ((L, .lst ((nmF ((f.kids.take i).map Gm.nms)).map V.str)) :: M) H')
            ⟨_, _, _, rfl, Same.refl _, S2⟩ (fun i σ H' _ h => ?_) (fun i x σ H' hx h => ?_) (fun σ H' h => ?_)⟩
          · obtain ⟨_, _, G', _, s3, S3⟩ := h
            exact SqT.of (S3.st (s3 _ _ upd_same))
          · obtain ⟨y2, y3, G', rfl, s3, S3⟩ := h
            obtain ⟨c, hc', hc⟩ := prd_get hk hx
            have cm := List.mem_of_getElem? hc'
            have okc := Gm.kids_ok ok c cm
            have dc := kd c cm
            refine ⟨G', _, _, c, ns, rfl, S3, (hc.same' s2).same' s3, okc, nsl, by omega, fun r G2 H2 s4 S4 hr => ?_⟩
            generalize hfo : nmF ((f.kids.take i).map Gm.nms) = fo at S4
            have fnd : fo.Nodup := by rw [← hfo]; exact nmF_nd
            have fin : ∀ x ∈ fo, x ∈ ns := fun x hx => by
              have : ∀ (l : List Gm) (a : List Str), (∀ c ∈ l, c.ok ns) → (∀ x ∈ a, x ∈ ns) → ∀ x ∈ (l.map Gm.nms).foldl addN a, x ∈ ns := fun l => by
                induction l with
                | nil => intro a _ h; exact h
                | cons c r ih =>
                  intro a h1 h2
                  refine ih _ (fun c hc => h1 c (List.mem_cons_of_mem _ hc)) fun x hx => ?_
                  rcases addN_mem hx with h | h
                  · exact h2 x h
                  · exact Gm.nms_ok (h1 c List.mem_cons_self) x h
              refine this (f.kids.take i) [] (fun c hc => Gm.kids_ok ok c (List.mem_of_mem_take hc)) (fun _ h => nomatch h) x ?_
              rw [← hfo] at hx
              exact hx
            have nnd := c.nms_nd
            refine ⟨r, rfl, ⟨_, SqT.of (S4.st hr)⟩, for_tup (xs := c.nms.map V.str) (fun j σ H' => ∃ (y3 : Option V), σ = [some (.ref p), some (.ref L), some x, y3] ∧ Sep G2 ((L, .lst ((fo ++ (c.nms.take j).filter fun x => !decide (x ∈ fo)).map V.str)) :: M) H')
              ⟨_, rfl, by simpa using S4⟩ (fun j σ H' _ h => ?_) (fun j y σ H' hy h => ?_) (fun σ H' h => ?_)⟩
            · obtain ⟨_, _, S5⟩ := h
              exact SqT.of (S5.st hr)
            · obtain ⟨y3, rfl, S5⟩ := h
              rw [List.getElem?_map] at hy
              obtain ⟨z, hz, rfl⟩ := Option.map_eq_some_iff.mp hy
              have znt : z ∉ c.nms.take j := fun hm => by
                have nd := nnd
                rw [(take_pre hz).1, List.nodup_append] at nd
                exact nd.2.2 z hm z List.mem_cons_self rfl
              have lenb : (fo ++ (c.nms.take j).filter fun x => !decide (x ∈ fo)).length ≤ 200 := by
                have h1 := nodup_sub fnd fin
                have h2 := nodup_sub nnd (Gm.nms_ok okc)
                have h3 := List.length_filter_le (fun x => !decide (x ∈ fo)) (c.nms.take j)
                rw [List.length_take] at h3
                rw [List.length_append]
                omega
              have mem : z ∈ fo ++ (c.nms.take j).filter (fun x => !decide (x ∈ fo)) ↔ z ∈ fo := by
                rw [List.mem_append]
                exact ⟨fun h => h.elim id fun h => absurd (List.mem_filter.mp h).1 znt, .inl⟩
              refine ⟨L, _, rfl, .inl (SqL.of S5.hd), rfl, flS _, ?_⟩
              rw [inS]
              refine ⟨fun e => ?_, fun e => ?_⟩
              · have hn : z ∉ fo := fun h => by
                  rw [decide_eq_true (mem.mpr h)] at e
                  exact nomatch e
                refine ⟨.inl ⟨rfl, _, SqL.of S5.hd⟩, L, _, _, rfl, rfl, S5.hd, by rw [List.length_map]; exact smallL (by omega), ?_⟩
                refine ⟨_, rfl, ?_⟩
                rw [take_snoc hz, List.filter_append, show ([z].filter fun x => !decide (x ∈ fo)) = [z] by simp [hn], ← List.append_assoc, List.map_append (l₂ := [z])]
                exact S5.set
              · have hn : z ∈ fo := mem.mp (Decidable.of_not_not fun h => by
                  rw [decide_eq_false h] at e
                  exact nomatch e)
                refine ⟨_, rfl, ?_⟩
                rw [take_snoc hz, List.filter_append, show ([z].filter fun x => !decide (x ∈ fo)) = [] by simp [hn], List.append_nil]
                exact S5
            · obtain ⟨y3, rfl, S5⟩ := h
              rw [List.length_map, List.take_length] at S5
              refine ⟨_, _, G2, rfl, s3.trans s4, ?_⟩
              rw [take_snoc hc', List.map_append, show nmF ((f.kids.take i).map Gm.nms ++ [c].map Gm.nms) = addN fo c.nms by rw [← hfo]; exact nmF_snoc _ _]
              exact S5
          · obtain ⟨y2, y3, G', rfl, s3, S3⟩ := h
            rw [kvl, List.take_length, ← Gm.nms_kids kne] at S3
            refine ⟨L, _, rfl, .inl ⟨SqL.of S3.hd, fun t2 nt2 => ?_⟩⟩
            obtain ⟨G4, s4, S4, ht2⟩ := Sep.mk (o := .tup (f.nms.map V.str)) S3 nt2
            exact q t2 G4 _ (s2.trans (s3.trans s4)) S4.drop ht2

end
end K25
set_option Elab.async false
set_option linter.all false
set_option maxRecDepth 100000
set_option maxHeartbeats 4000000
namespace K25
open PySem PySem.Spec PyProof.Rows L2 XL
section
variable {P : Program} {w : World} {K : PySem.W.Frag} {mg : Str → Option Value} {base : Heap}
/-! ### Key, from anything -/
def own (z : Str) : Bool := decide (z = "item" ∨ z = "at")
def spKInitG (K : PySem.W.Frag) (C CB CN : Addr) : Sp := fun vs H Q E => ∃ (G : Hp) (M : List (Addr × HO)) (x dx : Addr) (v : V) (d : PyData), vs = [.ref x, v] ∧ Sep G ((x, .ins C dx []) :: M) H ∧ Dp K G v d ∧ Okd d ∧ nds d ≤ 40000 ∧
  (∀ p, due d = some p → ∀ u G1, Same G G1 → Dp K G1 u p → Rz G1 M CB [("part", u)] E) ∧
  (due d = none → ∃ (f : Gm) (ns : List Str), GmAt K G v f ∧ f.ok ns ∧ ns.length ≤ 100 ∧ f.dep ≤ 5 ∧ (∀ z ∈ ns, Lt 1 8 z) ∧
    (∀ z, (f.nms.find? fun z => !own z) = some z → Rz G M CN [("name", .str z)] E) ∧
    ((f.nms.find? fun z => !own z) = none → ∀ G' H', Same G G' → Sep G' ((x, .ins C dx [("form", v)]) :: M) H' → Q .non H'))
theorem LS_128 : ∀ c ∈ LS.cps.toList, c < 256 := by decide +kernel
theorem name_repr {z : Str} (h : Lt 1 8 z) : (reprText z).length ≤ 100000 := by
  have h1 := PySem.StrLaws.reprText_len z fun c hc => Nat.lt_trans (LS_128 c (h.ch c hc)) (by decide)
  have h2 := h.hi
  omega
theorem find_takeG {α : Type} {p : α → Bool} {l : List α} {i : Nat} {x : α} (hx : l[i]? = some x) (hn : ∀ y ∈ l.take i, p y = false) : (p x = true → l.find? p = some x) ∧ (p x = false → ∀ y ∈ l.take (i + 1), p y = false) := by
  refine ⟨fun e => ?_, fun e y hy => ?_⟩
  · rw [(take_pre hx).1, List.find?_append]
    rw [List.find?_eq_none.mpr fun y hy => by rw [hn y hy]; decide]
    simp [e]
  · rw [take_snoc hx] at hy
    rcases List.mem_append.mp hy with h | h
    · exact hn y h
    · rw [List.mem_singleton.mp h]
      exact e
theorem ok_Key_initG (T : Top K mg w) (pf : PySem.XExc.PF P T.x_file) {k : Nat} (G_check_form : FnOk P w K mg base (L2.CX P w) (k + 1) T.a_check_form T.d_check_form ["parts"] (spCheckG K T.C_BadForm)) (G_names_of : FnOk P w K mg base CX0 (k + 1) T.a_names_of T.d_names_of ["parts"] (spNamesG K 5)) :
    FnOk P w K mg base (L2.CX P w) (k + 2) T.a_Key_init T.d_Key_init ["self", "form"] (spKInitG K T.C_Key T.C_BadForm T.C_NoName) := by
  refine T.F_Key_init.okX sc_Key_init (fun vs H Q E h => ?_) (fun cdv A outer s H vs Q E hr h => ?_)
  · obtain ⟨G, M, x, dx, v, d, rfl, _⟩ := h
    rfl
  · obtain ⟨G, M, x, dx, v, d, rfl, S, hv, ok, hn, rb, q⟩ := h
    refine ⟨_, (pss_cons (ps_expr (pe_call G_check_form (hr.mono (by omega)) (by rfl) T.g_check_form T.F_check_form.kp T.b_check_form .nil (passO (takes_of rfl rfl rfl rfl)) (pa_cons (xv 1) pa_nil)))
      (pss_cons (ps_for (passes_of rfl) rfl (pi_tupK K (pe_call G_names_of (hr.mono (by omega)) (by rfl) T.g_names_of T.F_names_of.kp T.b_names_of .nil pass0 (pa_cons (xv 1) pa_nil))) (pg_name (i := 2) sc_Key_init.nd rfl (.inl rfl))
      (pss_one (xs_if (PW.pt (xw_and (xt_cmp (op_neLK K hr.u190) (xv 2) pe_str (nomark _)) (pw_and1 (xt_cmp (op_neLK K hr.u190) (xv 2) pe_str (nomark _)))))
      (pss_one (ps_raiseX (k := 0) rfl (T.x_NoName P pf) (hr.mono (by omega)) (takes_of rfl rfl rfl rfl) (pa_cons (xv 2) pa_nil)))
      pss_nil)))
      (pss_one (ps_fld (xv 0) (xv 1) rfl)))), ?_⟩
    refine ⟨G, _, v, d, rfl, S, hv, ok, hn, fun hd G1 H1 s1 S1 => ?_, fun p hp u G1 s1 hu => (rb p hp u G1 s1 hu).cell [_]⟩
    obtain ⟨f, ns, hf, fo, nl, fd, nlt, qn, q1⟩ := q hd
    refine ⟨G1, _, v, f, ns, rfl, S1, hf.same' s1, fo, nl, fd, fun r G2 H2 s2 S2 hr' => ?_⟩
    have s12 := s1.trans s2
    refine ⟨r, rfl, ⟨_, SqT.of (S2.st hr')⟩, for_tup (xs := f.nms.map V.str) (fun i σ H' => ∃ y2, σ = [some (.ref x), some v, y2] ∧ (∀ z ∈ f.nms.take i, (!own z) = false) ∧ Sep G2 ((x, .ins T.C_Key dx []) :: M) H') ⟨_, rfl, (fun z h => by simp at h), S2⟩ (fun i σ H' _ h => ?_) (fun i y σ H' hy h => ?_) (fun σ H' h => ?_)⟩
    · obtain ⟨_, _, _, S3⟩ := h
      exact SqT.of (S3.st hr')
    · obtain ⟨y2, rfl, hz, S3⟩ := h
      rw [List.getElem?_map] at hy
      obtain ⟨z, hz2, rfl⟩ := Option.map_eq_some_iff.mp hy
      obtain ⟨f1, f2⟩ := find_takeG (p := fun z => !own z) hz2 hz
      have zn := nlt z (Gm.nms_ok fo z (List.mem_of_getElem? hz2))
      refine ⟨fun e => ⟨fun e2 => ?_, fun e2 => ?_⟩, fun e => ?_⟩
      · have n1 : z ≠ "item" := of_decide_eq_false (by simpa using e)
        have n2 : z ≠ "at" := of_decide_eq_false (by simpa using e2)
        have ez : (!own z) = true := by
          unfold own
          rw [decide_eq_false (by rw [not_or]; exact ⟨n1, n2⟩)]
          rfl
        exact ⟨_, rfl, .inl ⟨z, rfl, name_repr zn⟩, fun dd nd => ((qn z (f1 ez)).same s12).cell [_] |>.now S3 dd nd⟩
      · have ez : z = "at" := of_decide_eq_true (by simpa using e2)
        exact ⟨_, rfl, f2 (by unfold own; rw [decide_eq_true (.inr ez)]; rfl), S3⟩
      · have ez : z = "item" := of_decide_eq_true (by simpa using e)
        exact ⟨ff, fun _ => ⟨_, rfl, f2 (by unfold own; rw [decide_eq_true (.inl ez)]; rfl), S3⟩⟩
    · obtain ⟨y2, rfl, hz, S3⟩ := h
      rw [List.length_map, List.take_length] at hz
      have hz2 : (f.nms.find? fun z => !own z) = none := List.find?_eq_none.mpr fun z hm e => by
        rw [hz z hm] at e
        exact nomatch e
      exact ⟨x, T.C_Key, dx, [], rfl, S3.hd, T.cl_Key, T.na_Key_form, by decide, q1 hz2 _ _ s12 S3.set⟩

end
end K25
set_option Elab.async false
set_option linter.all false
set_option maxRecDepth 100000
set_option maxHeartbeats 4000000
namespace K25
open PySem PySem.Spec PyProof.Rows L2 XL
section
variable {P : Program} {w : World} {K : PySem.W.Frag} {mg : Str → Option Value} {base : Heap}
/-! ### forms by name as data -/
def Gm.dat : Gm → PyData
  | .is n => .tuple [.str "is", .int n]
  | .get x => .tuple [.str "get", .str x]
  | .sum a b => .tuple [.str "sum", a.dat, b.dat]
  | .same a b => .tuple [.str "same", a.dat, b.dat]
  | .pick a b c => .tuple [.str "pick", a.dat, b.dat, c.dat]
theorem gm_dp {K : PySem.W.Frag} {G : Hp} {v : V} {f : Gm} (h : GmAt K G v f) : Dp K G v f.dat := by
  induction h with
  | is h => exact .tup h (.cons (.str _) (.cons (.int _) .nil))
  | get h => exact .tup h (.cons (.str _) (.cons (.str _) .nil))
  | sum h _ _ h2 h3 => exact .tup h (.cons (.str _) (.cons h2 (.cons h3 .nil)))
  | same h _ _ h2 h3 => exact .tup h (.cons (.str _) (.cons h2 (.cons h3 .nil)))
  | pick h _ _ _ h2 h3 h4 => exact .tup h (.cons (.str _) (.cons h2 (.cons h3 (.cons h4 .nil))))
structure NmL (ns : List Str) : Prop where
  lt : ∀ z ∈ ns, Lt 1 8 z
theorem name_ok {z : Str} (h : Lt 1 8 z) : nameS z = true := by
  unfold nameS
  rw [decide_eq_true h.lo, decide_eq_true h.hi, Bool.true_and, Bool.true_and, List.all_eq_true]
  exact fun c hc => decide_eq_true (h.ch c hc)
theorem dat_fb {ns : List Str} (hn : NmL ns) : ∀ f : Gm, f.ok ns → fb f.dat = none ∧ lev f.dat = f.dep
  | .is n, ok => by
    have e : partOk (.tuple [.str "is", .int n]) = true := by
      have e1 : headN "is" = 2 := by decide +kernel
      simp only [partOk, e1, List.headD, numOk, decide_eq_true (show 0 ≤ n ∧ n ≤ 9 from ok)]
      simp
    exact fb_leaf e (.inl rfl)
  | .get x, ok => by
    have e : partOk (.tuple [.str "get", .str x]) = true := by
      have e1 : headN "get" = 2 := by decide +kernel
      have e2 : ¬ (("get" : Str) = "is") := by decide +kernel
      simp only [partOk, e1, List.headD, nameOk, if_neg e2, name_ok (hn.lt x ok)]
      simp
    exact fb_leaf e (.inr rfl)
  | .sum a b, ok => by
    have e : partOk (.tuple [.str "sum", a.dat, b.dat]) = true := by
      have e1 : headN "sum" = 3 := by decide +kernel
      have e2 : ¬ (("sum" : Str) = "is") := by decide +kernel
      have e3 : ¬ (("sum" : Str) = "get") := by decide +kernel
      simp only [partOk, e1, if_neg e2, if_neg e3]
      simp
    obtain ⟨a1, a2⟩ := dat_fb hn a ok.1
    obtain ⟨b1, b2⟩ := dat_fb hn b ok.2
    obtain ⟨f1, f2⟩ := fb_node e ⟨by decide +kernel, by decide +kernel⟩
    refine ⟨f1.trans (by simp only [fbs, a1, b1]), f2.trans ?_⟩
    simp only [levs, a2, b2, Gm.dep]
    omega
  | .same a b, ok => by
    have e : partOk (.tuple [.str "same", a.dat, b.dat]) = true := by
      have e1 : headN "same" = 3 := by decide +kernel
      have e2 : ¬ (("same" : Str) = "is") := by decide +kernel
      have e3 : ¬ (("same" : Str) = "get") := by decide +kernel
      simp only [partOk, e1, if_neg e2, if_neg e3]
      simp
    obtain ⟨a1, a2⟩ := dat_fb hn a ok.1
    obtain ⟨b1, b2⟩ := dat_fb hn b ok.2
    obtain ⟨f1, f2⟩ := fb_node e ⟨by decide +kernel, by decide +kernel⟩
    refine ⟨f1.trans (by simp only [fbs, a1, b1]), f2.trans ?_⟩
    simp only [levs, a2, b2, Gm.dep]
    omega
  | .pick a b c, ok => by
    have e : partOk (.tuple [.str "pick", a.dat, b.dat, c.dat]) = true := by
      have e1 : headN "pick" = 4 := by decide +kernel
      have e2 : ¬ (("pick" : Str) = "is") := by decide +kernel
      have e3 : ¬ (("pick" : Str) = "get") := by decide +kernel
      simp only [partOk, e1, if_neg e2, if_neg e3]
      simp
    obtain ⟨a1, a2⟩ := dat_fb hn a ok.1
    obtain ⟨b1, b2⟩ := dat_fb hn b ok.2.1
    obtain ⟨c1, c2⟩ := dat_fb hn c ok.2.2
    obtain ⟨f1, f2⟩ := fb_node e ⟨by decide +kernel, by decide +kernel⟩
    refine ⟨f1.trans (by simp only [fbs, a1, b1, c1]), f2.trans ?_⟩
    simp only [levs, a2, b2, c2, Gm.dep]
    omega
/-- data with bounded size, its repr known -/
structure Fk (w dp : Nat) (d : PyData) : Prop where
  ft : Fit w dp d
  ok : okR d = true
theorem Fk.mono {w dp w' dp' : Nat} {d : PyData} (h : Fk w dp d) (h1 : w ≤ w') (h2 : dp ≤ dp') : Fk w' dp' d := ⟨h.ft.mono h1 h2, h.ok⟩
theorem tb_leaf {d : PyData} (h : d.leavesShort 8 = true) (e : tbR d = d.shown.length + 7) : tbR d ≤ 24 * d.weight + 20 := by
  have := PyData.shown_le 8 (by decide) d h
  omega
mutual
theorem tb_le : ∀ d : PyData, d.leavesShort 8 = true → tbR d ≤ 24 * d.weight + 20
  | .none, h => tb_leaf h (by simp only [tbR])
  | .bool _, h => tb_leaf h (by simp only [tbR])
  | .int _, h => tb_leaf h (by simp only [tbR])
  | .str _, h => tb_leaf h (by simp only [tbR])
  | .list _, h => tb_leaf h (by simp only [tbR])
  | .dict _, h => tb_leaf h (by simp only [tbR])
  | .tuple xs, h => by
    simp only [PyData.leavesShort] at h
    have := tbs_le xs h
    simp only [tbR, PyData.weight]
    omega
theorem tbs_le : ∀ xs : List PyData, PyData.leavesShortAll 8 xs = true → tbRs xs ≤ 24 * PyData.weightAll xs
  | [], _ => by simp only [tbRs]; omega
  | x :: r, h => by
    simp only [PyData.leavesShortAll, Bool.and_eq_true] at h
    have h1 := tb_le x h.1
    have h2 := tbs_le r h.2
    simp only [tbRs, PyData.weightAll]
    omega
end
mutual
theorem nds_le : ∀ d : PyData, nds d ≤ d.weight + 1
  | .none => by simp only [nds]; omega
  | .bool _ => by simp only [nds]; omega
  | .int _ => by simp only [nds]; omega
  | .str _ => by simp only [nds]; omega
  | .list _ => by simp only [nds]; omega
  | .dict _ => by simp only [nds]; omega
  | .tuple [] => by simp only [nds]; omega
  | .tuple (h :: r) => by
    have := ndss_le r
    simp only [nds, PyData.weight, PyData.weightAll]
    omega
theorem ndss_le : ∀ xs : List PyData, ndss xs ≤ PyData.weightAll xs
  | [] => by simp only [ndss]; omega
  | x :: r => by
    have h1 := nds_le x
    have h2 := ndss_le r
    simp only [ndss, PyData.weightAll]
    omega
end
theorem Fk.okd {w dp : Nat} {d : PyData} (h : Fk w dp d) (h1 : w ≤ 4000) (h2 : dp ≤ 64) : Okd d ∧ nds d ≤ 40000 := by
  have h3 := tb_le d h.ft.ls
  have h4 := h.ft.wt
  have h5 := nds_le d
  exact ⟨⟨h.ok, h.ft.sh, by omega, Nat.le_trans h.ft.dp h2, by omega⟩, by omega⟩
theorem okRs_all : ∀ {xs : List PyData}, (∀ x ∈ xs, okR x = true) → okRs xs = true
  | [], _ => by simp only [okRs]
  | x :: r, h => by simp only [okRs, h x List.mem_cons_self, okRs_all fun y hy => h y (List.mem_cons_of_mem _ hy), Bool.and_self]
theorem Fk.tup {w dp : Nat} {ds : List PyData} (hw : PyData.weightAll ds ≤ w) (h : ∀ d ∈ ds, ∃ w', Fk w' dp d) : Fk w (dp + 1) (.tuple ds) := by
  refine ⟨Fit.tup hw fun d hd => (h d hd).imp fun w' h => h.ft, ?_⟩
  simp only [okR]
  exact okRs_all fun x hx => (h x hx).choose_spec.ok
theorem Fk.name {z : Str} (h : Lt 1 8 z) : Fk 8 0 (.str z) := ⟨Fit.name h, by simp only [okR]⟩
theorem Fk.digit {n : Int} (h0 : 0 ≤ n) (h1 : n ≤ 9) : Fk 4 0 (.int n) := ⟨Fit.digit h0 h1, by simp only [okR]⟩
theorem Fk.lit {z : Str} (h : (z.cps.toList.all fun c => decide (c < 1114112)) = true) (l : z.length ≤ 20) : Fk z.length 0 (.str z) := ⟨Fit.str (fun c hc => of_decide_eq_true (List.all_eq_true.mp h c hc)) (Nat.le_refl _), by simp only [okR]⟩
theorem dat_fk {ns : List Str} (hn : NmL ns) : ∀ f : Gm, f.ok ns → ∃ w', Fk w' f.dep f.dat ∧ 3 * (w' + 4) ≤ 17 * 3 ^ f.dep
  | .is n, ok => ⟨13, Fk.tup (dp := 0) (by simp only [PyData.weightAll]; have := (Fk.digit ok.1 ok.2).ft.wt; have e : PyData.weight (.str "is") = 2 := (by simp only [PyData.weight]; decide +kernel); omega) (fun d hd => by
      simp only [List.mem_cons, List.not_mem_nil, or_false] at hd
      rcases hd with rfl | rfl
      · exact ⟨_, Fk.lit (by decide +kernel) (by decide +kernel)⟩
      · exact ⟨_, Fk.digit ok.1 ok.2⟩), by simp only [Gm.dep]; omega⟩
  | .get x, ok => ⟨13, Fk.tup (dp := 0) (by simp only [PyData.weightAll]; have := (Fk.name (hn.lt x ok)).ft.wt; have e : PyData.weight (.str "get") = 3 := (by simp only [PyData.weight]; decide +kernel); omega) (fun d hd => by
      simp only [List.mem_cons, List.not_mem_nil, or_false] at hd
      rcases hd with rfl | rfl
      · exact ⟨_, Fk.lit (by decide +kernel) (by decide +kernel)⟩
      · exact ⟨_, Fk.name (hn.lt x ok)⟩), by simp only [Gm.dep]; omega⟩
  | .sum a b, ok => by
    obtain ⟨wa, fa, la⟩ := dat_fk hn a ok.1
    obtain ⟨wb, fb, lb⟩ := dat_fk hn b ok.2
    have e : PyData.weight (.str "sum") = 3 := by simp only [PyData.weight]; decide +kernel
    refine ⟨wa + wb + 6, Fk.tup (dp := max a.dep b.dep) (by simp only [PyData.weightAll]; have := fa.ft.wt; have := fb.ft.wt; omega) (fun d hd => by
      simp only [List.mem_cons, List.not_mem_nil, or_false] at hd
      rcases hd with rfl | rfl | rfl
      · exact ⟨_, (Fk.lit (by decide +kernel) (by decide +kernel)).mono (Nat.le_refl _) (Nat.zero_le _)⟩
      · exact ⟨_, fa.mono (Nat.le_refl _) (Nat.le_max_left _ _)⟩
      · exact ⟨_, fb.mono (Nat.le_refl _) (Nat.le_max_right _ _)⟩), ?_⟩
    have h1 : 3 ^ a.dep ≤ 3 ^ max a.dep b.dep := Nat.pow_le_pow_right (by decide) (Nat.le_max_left _ _)
    have h2 : 3 ^ b.dep ≤ 3 ^ max a.dep b.dep := Nat.pow_le_pow_right (by decide) (Nat.le_max_right _ _)
    have h3 : 3 ≤ 3 ^ max a.dep b.dep := by
      have := Nat.pow_le_pow_right (n := 3) (by decide) (show 1 ≤ max a.dep b.dep by have := a.dep_pos; omega)
      omega
    simp only [Gm.dep, Nat.pow_succ]
    omega
  | .same a b, ok => by
    obtain ⟨wa, fa, la⟩ := dat_fk hn a ok.1
    obtain ⟨wb, fb, lb⟩ := dat_fk hn b ok.2
    have e : PyData.weight (.str "same") = 4 := by simp only [PyData.weight]; decide +kernel
    refine ⟨wa + wb + 7, Fk.tup (dp := max a.dep b.dep) (by simp only [PyData.weightAll]; have := fa.ft.wt; have := fb.ft.wt; omega) (fun d hd => by
      simp only [List.mem_cons, List.not_mem_nil, or_false] at hd
      rcases hd with rfl | rfl | rfl
      · exact ⟨_, (Fk.lit (by decide +kernel) (by decide +kernel)).mono (Nat.le_refl _) (Nat.zero_le _)⟩
      · exact ⟨_, fa.mono (Nat.le_refl _) (Nat.le_max_left _ _)⟩
      · exact ⟨_, fb.mono (Nat.le_refl _) (Nat.le_max_right _ _)⟩), ?_⟩
    have h1 : 3 ^ a.dep ≤ 3 ^ max a.dep b.dep := Nat.pow_le_pow_right (by decide) (Nat.le_max_left _ _)
    have h2 : 3 ^ b.dep ≤ 3 ^ max a.dep b.dep := Nat.pow_le_pow_right (by decide) (Nat.le_max_right _ _)
    have h3 : 3 ≤ 3 ^ max a.dep b.dep := by
      have := Nat.pow_le_pow_right (n := 3) (by decide) (show 1 ≤ max a.dep b.dep by have := a.dep_pos; omega)
      omega
    simp only [Gm.dep, Nat.pow_succ]
    omega
  | .pick a b c, ok => by
    obtain ⟨wa, fa, la⟩ := dat_fk hn a ok.1
    obtain ⟨wb, fb, lb⟩ := dat_fk hn b ok.2.1
    obtain ⟨wc, fc, lc⟩ := dat_fk hn c ok.2.2
    have e : PyData.weight (.str "pick") = 4 := by simp only [PyData.weight]; decide +kernel
    refine ⟨wa + wb + wc + 8, Fk.tup (dp := max a.dep (max b.dep c.dep)) (by simp only [PyData.weightAll]; have := fa.ft.wt; have := fb.ft.wt; have := fc.ft.wt; omega) (fun d hd => by
      simp only [List.mem_cons, List.not_mem_nil, or_false] at hd
      rcases hd with rfl | rfl | rfl | rfl
      · exact ⟨_, (Fk.lit (by decide +kernel) (by decide +kernel)).mono (Nat.le_refl _) (Nat.zero_le _)⟩
      · exact ⟨_, fa.mono (Nat.le_refl _) (by omega)⟩
      · exact ⟨_, fb.mono (Nat.le_refl _) (by omega)⟩
      · exact ⟨_, fc.mono (Nat.le_refl _) (by omega)⟩), ?_⟩
    have h1 : 3 ^ a.dep ≤ 3 ^ max a.dep (max b.dep c.dep) := Nat.pow_le_pow_right (by decide) (by omega)
    have h2 : 3 ^ b.dep ≤ 3 ^ max a.dep (max b.dep c.dep) := Nat.pow_le_pow_right (by decide) (by omega)
    have h2' : 3 ^ c.dep ≤ 3 ^ max a.dep (max b.dep c.dep) := Nat.pow_le_pow_right (by decide) (by omega)
    simp only [Gm.dep, Nat.pow_succ]
    omega

end
end K25
set_option Elab.async false
set_option linter.all false
set_option maxRecDepth 100000
set_option maxHeartbeats 4000000
namespace K25
open PySem PySem.Spec PyProof.Rows L2 XL
section
variable {P : Program} {w : World} {K : PySem.W.Frag} {mg : Str → Option Value} {base : Heap}
/-! ### odd parts -/
def odds (g : PyData) : List PyData := [.none, .int 3, .str "item", .tuple [], .tuple [.str "is"], .tuple [.str "is", .int 10], .tuple [.str "is", .int (-1)], .tuple [.str "is", .bool true], .tuple [.str "is", .none], .tuple [.str "is", .str "a"], .tuple [.str "is", .int 1, .int 2], .tuple [.str "get"], .tuple [.str "get", .str ""], .tuple [.str "get", .str "Item"], .tuple [.str "get", .str "abcdefghi"], .tuple [.str "get", .int 7], .tuple [.str "get", .none], .tuple [.str "get", .str "at1"], .tuple [.str "get", .str "at", .str "at"], .tuple [.str "get", .str "a b"], .tuple [.str "sum", g], .tuple [.str "sum", g, g, g], .tuple [.str "same", g], .tuple [.str "same", g, g, g], .tuple [.str "pick", g, g], .tuple [.str "add", g, g], .tuple [.int 7], .tuple [.none, g], .list [.str "is", .int 3], .list [.str "get", .str "item"]]
theorem odd_0 (g : PyData) : partOk (.none) = false := by first | rfl | (simp only [partOk]; decide +kernel) | (simp only [partOk, numOk, nameOk, List.headD]; decide +kernel)
theorem odd_1 (g : PyData) : partOk (.int 3) = false := by first | rfl | (simp only [partOk]; decide +kernel) | (simp only [partOk, numOk, nameOk, List.headD]; decide +kernel)
theorem odd_2 (g : PyData) : partOk (.str "item") = false := by first | rfl | (simp only [partOk]; decide +kernel) | (simp only [partOk, numOk, nameOk, List.headD]; decide +kernel)
theorem odd_3 (g : PyData) : partOk (.tuple []) = false := by first | rfl | (simp only [partOk]; decide +kernel) | (simp only [partOk, numOk, nameOk, List.headD]; decide +kernel)
theorem odd_4 (g : PyData) : partOk (.tuple [.str "is"]) = false := by first | rfl | (simp only [partOk]; decide +kernel) | (simp only [partOk, numOk, nameOk, List.headD]; decide +kernel)
theorem odd_5 (g : PyData) : partOk (.tuple [.str "is", .int 10]) = false := by first | rfl | (simp only [partOk]; decide +kernel) | (simp only [partOk, numOk, nameOk, List.headD]; decide +kernel)
theorem odd_6 (g : PyData) : partOk (.tuple [.str "is", .int (-1)]) = false := by first | rfl | (simp only [partOk]; decide +kernel) | (simp only [partOk, numOk, nameOk, List.headD]; decide +kernel)
theorem odd_7 (g : PyData) : partOk (.tuple [.str "is", .bool true]) = false := by first | rfl | (simp only [partOk]; decide +kernel) | (simp only [partOk, numOk, nameOk, List.headD]; decide +kernel)
theorem odd_8 (g : PyData) : partOk (.tuple [.str "is", .none]) = false := by first | rfl | (simp only [partOk]; decide +kernel) | (simp only [partOk, numOk, nameOk, List.headD]; decide +kernel)
theorem odd_9 (g : PyData) : partOk (.tuple [.str "is", .str "a"]) = false := by first | rfl | (simp only [partOk]; decide +kernel) | (simp only [partOk, numOk, nameOk, List.headD]; decide +kernel)
theorem odd_10 (g : PyData) : partOk (.tuple [.str "is", .int 1, .int 2]) = false := by first | rfl | (simp only [partOk]; decide +kernel) | (simp only [partOk, numOk, nameOk, List.headD]; decide +kernel)
theorem odd_11 (g : PyData) : partOk (.tuple [.str "get"]) = false := by first | rfl | (simp only [partOk]; decide +kernel) | (simp only [partOk, numOk, nameOk, List.headD]; decide +kernel)
theorem odd_12 (g : PyData) : partOk (.tuple [.str "get", .str ""]) = false := by first | rfl | (simp only [partOk]; decide +kernel) | (simp only [partOk, numOk, nameOk, List.headD]; decide +kernel)
theorem odd_13 (g : PyData) : partOk (.tuple [.str "get", .str "Item"]) = false := by first | rfl | (simp only [partOk]; decide +kernel) | (simp only [partOk, numOk, nameOk, List.headD]; decide +kernel)
theorem odd_14 (g : PyData) : partOk (.tuple [.str "get", .str "abcdefghi"]) = false := by first | rfl | (simp only [partOk]; decide +kernel) | (simp only [partOk, numOk, nameOk, List.headD]; decide +kernel)
theorem odd_15 (g : PyData) : partOk (.tuple [.str "get", .int 7]) = false := by first | rfl | (simp only [partOk]; decide +kernel) | (simp only [partOk, numOk, nameOk, List.headD]; decide +kernel)
theorem odd_16 (g : PyData) : partOk (.tuple [.str "get", .none]) = false := by first | rfl | (simp only [partOk]; decide +kernel) | (simp only [partOk, numOk, nameOk, List.headD]; decide +kernel)
theorem odd_17 (g : PyData) : partOk (.tuple [.str "get", .str "at1"]) = false := by first | rfl | (simp only [partOk]; decide +kernel) | (simp only [partOk, numOk, nameOk, List.headD]; decide +kernel)
theorem odd_18 (g : PyData) : partOk (.tuple [.str "get", .str "at", .str "at"]) = false := by first | rfl | (simp only [partOk]; decide +kernel) | (simp only [partOk, numOk, nameOk, List.headD]; decide +kernel)
theorem odd_19 (g : PyData) : partOk (.tuple [.str "get", .str "a b"]) = false := by first | rfl | (simp only [partOk]; decide +kernel) | (simp only [partOk, numOk, nameOk, List.headD]; decide +kernel)
theorem odd_20 (g : PyData) : partOk (.tuple [.str "sum", g]) = false := by first | rfl | (simp only [partOk]; decide +kernel) | (simp only [partOk, numOk, nameOk, List.headD]; decide +kernel)
theorem odd_21 (g : PyData) : partOk (.tuple [.str "sum", g, g, g]) = false := by first | rfl | (simp only [partOk]; decide +kernel) | (simp only [partOk, numOk, nameOk, List.headD]; decide +kernel)
theorem odd_22 (g : PyData) : partOk (.tuple [.str "same", g]) = false := by first | rfl | (simp only [partOk]; decide +kernel) | (simp only [partOk, numOk, nameOk, List.headD]; decide +kernel)
theorem odd_23 (g : PyData) : partOk (.tuple [.str "same", g, g, g]) = false := by first | rfl | (simp only [partOk]; decide +kernel) | (simp only [partOk, numOk, nameOk, List.headD]; decide +kernel)
theorem odd_24 (g : PyData) : partOk (.tuple [.str "pick", g, g]) = false := by first | rfl | (simp only [partOk]; decide +kernel) | (simp only [partOk, numOk, nameOk, List.headD]; decide +kernel)
theorem odd_25 (g : PyData) : partOk (.tuple [.str "add", g, g]) = false := by first | rfl | (simp only [partOk]; decide +kernel) | (simp only [partOk, numOk, nameOk, List.headD]; decide +kernel)
theorem odd_26 (g : PyData) : partOk (.tuple [.int 7]) = false := by first | rfl | (simp only [partOk]; decide +kernel) | (simp only [partOk, numOk, nameOk, List.headD]; decide +kernel)
theorem odd_27 (g : PyData) : partOk (.tuple [.none, g]) = false := by first | rfl | (simp only [partOk]; decide +kernel) | (simp only [partOk, numOk, nameOk, List.headD]; decide +kernel)
theorem odd_28 (g : PyData) : partOk (.list [.str "is", .int 3]) = false := by first | rfl | (simp only [partOk]; decide +kernel) | (simp only [partOk, numOk, nameOk, List.headD]; decide +kernel)
theorem odd_29 (g : PyData) : partOk (.list [.str "get", .str "item"]) = false := by first | rfl | (simp only [partOk]; decide +kernel) | (simp only [partOk, numOk, nameOk, List.headD]; decide +kernel)
theorem odds_bad (g : PyData) : ∀ d ∈ odds g, partOk d = false := by
  intro d hd
  simp only [odds, List.mem_cons, List.not_mem_nil, or_false] at hd
  rcases hd with rfl | rfl | rfl | rfl | rfl | rfl | rfl | rfl | rfl | rfl | rfl | rfl | rfl | rfl | rfl | rfl | rfl | rfl | rfl | rfl | rfl | rfl | rfl | rfl | rfl | rfl | rfl | rfl | rfl | rfl
  · exact odd_0 g
  · exact odd_1 g
  · exact odd_2 g
  · exact odd_3 g
  · exact odd_4 g
  · exact odd_5 g
  · exact odd_6 g
  · exact odd_7 g
  · exact odd_8 g
  · exact odd_9 g
  · exact odd_10 g
  · exact odd_11 g
  · exact odd_12 g
  · exact odd_13 g
  · exact odd_14 g
  · exact odd_15 g
  · exact odd_16 g
  · exact odd_17 g
  · exact odd_18 g
  · exact odd_19 g
  · exact odd_20 g
  · exact odd_21 g
  · exact odd_22 g
  · exact odd_23 g
  · exact odd_24 g
  · exact odd_25 g
  · exact odd_26 g
  · exact odd_27 g
  · exact odd_28 g
  · exact odd_29 g
def spOdd (K : PySem.W.Frag) : Sp := fun vs H Q _ => ∃ (G : Hp) (M : List (Addr × HO)) (b : Addr) (o : HO) (v : V) (g : PyData), vs = [.ref b, v] ∧ Sep G ((b, o) :: M) H ∧ Bag G o ∧ Dp K G v g ∧
  ∀ (u : V) (d : PyData) (o' : HO) (G' H' : Hp), Same G G' → Dp K G' u d → d ∈ odds g → Bag G' o' → Sep G' ((b, o') :: M) H' → Q u H'
theorem ok_odd_part (T : Top K mg w) {k : Nat} (G_choice : FnOk P w K mg base CX0 k T.a_choice T.d_choice ["_law_bag_here", "_law_things"] (spChoice K)) : FnOk P w K mg base CX0 (k + 1) T.a_odd_part T.d_odd_part ["_law_bag_here", "_law_good"] (spOdd K) := by
  refine T.F_odd_part.ok sc_odd_part (fun vs H Q E h => ?_) (fun cdv A outer s H vs Q E hr h => ?_)
  · obtain ⟨G, M, b, o, v, g, rfl, _⟩ := h
    rfl
  · obtain ⟨G, M, b, o, v, g, rfl, S, B, hv, q⟩ := h
    refine ⟨_, (pss_cons (ps_set (i := 2) sc_odd_part.nd rfl (.inl rfl) (pe_lst (pa_cons pe_non (pa_cons pe_int (pa_cons pe_str (pa_cons (pe_tup pa_nil) (pa_cons (pe_tup (pa_cons pe_str pa_nil)) (pa_cons (pe_tup (pa_cons pe_str (pa_cons pe_int pa_nil))) (pa_cons (pe_tup (pa_cons pe_str (pa_cons (pe_un un_neg pe_int) pa_nil))) (pa_cons (pe_tup (pa_cons pe_str (pa_cons pe_bl pa_nil))) (pa_cons (pe_tup (pa_cons pe_str (pa_cons pe_non pa_nil))) (pa_cons (pe_tup (pa_cons pe_str (pa_cons pe_str pa_nil))) (pa_cons (pe_tup (pa_cons pe_str (pa_cons pe_int (pa_cons pe_int pa_nil)))) pa_nil)))))))))))))
      (pss_cons (ps_set (i := 2) sc_odd_part.nd rfl (.inl rfl) (pe_op op_addY (xv 2) (pe_lst (pa_cons (pe_tup (pa_cons pe_str pa_nil)) (pa_cons (pe_tup (pa_cons pe_str (pa_cons pe_str pa_nil))) (pa_cons (pe_tup (pa_cons pe_str (pa_cons pe_str pa_nil))) (pa_cons (pe_tup (pa_cons pe_str (pa_cons pe_str pa_nil))) (pa_cons (pe_tup (pa_cons pe_str (pa_cons pe_int pa_nil))) (pa_cons (pe_tup (pa_cons pe_str (pa_cons pe_non pa_nil))) pa_nil)))))))))
      (pss_cons (ps_set (i := 2) sc_odd_part.nd rfl (.inl rfl) (pe_op op_addY (xv 2) (pe_lst (pa_cons (pe_tup (pa_cons pe_str (pa_cons pe_str pa_nil))) (pa_cons (pe_tup (pa_cons pe_str (pa_cons pe_str (pa_cons pe_str pa_nil)))) (pa_cons (pe_tup (pa_cons pe_str (pa_cons pe_str pa_nil))) (pa_cons (pe_tup (pa_cons pe_str (pa_cons (xv 1) pa_nil))) (pa_cons (pe_tup (pa_cons pe_str (pa_cons (xv 1) (pa_cons (xv 1) (pa_cons (xv 1) pa_nil))))) pa_nil))))))))
      (pss_cons (ps_set (i := 2) sc_odd_part.nd rfl (.inl rfl) (pe_op op_addY (xv 2) (pe_lst (pa_cons (pe_tup (pa_cons pe_str (pa_cons (xv 1) pa_nil))) (pa_cons (pe_tup (pa_cons pe_str (pa_cons (xv 1) (pa_cons (xv 1) (pa_cons (xv 1) pa_nil))))) pa_nil)))))
      (pss_cons (ps_set (i := 2) sc_odd_part.nd rfl (.inl rfl) (pe_op op_addY (xv 2) (pe_lst (pa_cons (pe_tup (pa_cons pe_str (pa_cons (xv 1) (pa_cons (xv 1) pa_nil)))) (pa_cons (pe_tup (pa_cons pe_str (pa_cons (xv 1) (pa_cons (xv 1) pa_nil)))) (pa_cons (pe_tup (pa_cons pe_int pa_nil)) (pa_cons (pe_tup (pa_cons pe_non (pa_cons (xv 1) pa_nil))) (pa_cons (pe_lst (pa_cons pe_str (pa_cons pe_int pa_nil))) (pa_cons (pe_lst (pa_cons pe_str (pa_cons pe_str pa_nil))) pa_nil)))))))))
      (pss_one (ps_ret (pe_call G_choice (hr.mono (by omega)) (by rfl) T.g_choice T.F_choice.kp T.b_choice .nil pass0 (pa_cons (xv 0) (pa_cons (xv 2) pa_nil)))))))))), ?_⟩
    have S0 := S
    have s0 := Same.refl G
    have D0 : DpAll K G [] [] := .nil
    refine ⟨sz, fun t1 nt1 => ?_⟩
    obtain ⟨G1, r1, S1, h1⟩ := Sep.mk (o := .tup []) S0 nt1
    have s1 := s0.trans r1
    have d1 : Dp K G1 (.ref t1) (.tuple []) := .tup (SqT.of h1) .nil
    refine ⟨sz, fun t2 nt2 => ?_⟩
    obtain ⟨G2, r2, S2, h2⟩ := Sep.mk (o := .tup [.str "is"]) S1 nt2
    have s2 := s1.trans r2
    have d2 : Dp K G2 (.ref t2) (.tuple [.str "is"]) := .tup (SqT.of h2) (.cons (.str _) .nil)
    refine ⟨sz, fun t3 nt3 => ?_⟩
    obtain ⟨G3, r3, S3, h3⟩ := Sep.mk (o := .tup [.str "is", .int 10]) S2 nt3
    have s3 := s2.trans r3
    have d3 : Dp K G3 (.ref t3) (.tuple [.str "is", .int 10]) := .tup (SqT.of h3) (.cons (.str _) (.cons (.int _) .nil))
    refine ⟨1, rfl, sz, fun t4 nt4 => ?_⟩
    obtain ⟨G4, r4, S4, h4⟩ := Sep.mk (o := .tup [.str "is", .int (-1)]) S3 nt4
    have s4 := s3.trans r4
    have d4 : Dp K G4 (.ref t4) (.tuple [.str "is", .int (-1)]) := .tup (SqT.of h4) (.cons (.str _) (.cons (.int _) .nil))
    refine ⟨sz, fun t5 nt5 => ?_⟩
    obtain ⟨G5, r5, S5, h5⟩ := Sep.mk (o := .tup [.str "is", .bl true]) S4 nt5
    have s5 := s4.trans r5
    have d5 : Dp K G5 (.ref t5) (.tuple [.str "is", .bool true]) := .tup (SqT.of h5) (.cons (.str _) (.cons (.bl _) .nil))
    refine ⟨sz, fun t6 nt6 => ?_⟩
    obtain ⟨G6, r6, S6, h6⟩ := Sep.mk (o := .tup [.str "is", .non]) S5 nt6
    have s6 := s5.trans r6
    have d6 : Dp K G6 (.ref t6) (.tuple [.str "is", .none]) := .tup (SqT.of h6) (.cons (.str _) (.cons (.non) .nil))
    refine ⟨sz, fun t7 nt7 => ?_⟩
    obtain ⟨G7, r7, S7, h7⟩ := Sep.mk (o := .tup [.str "is", .str "a"]) S6 nt7
    have s7 := s6.trans r7
    have d7 : Dp K G7 (.ref t7) (.tuple [.str "is", .str "a"]) := .tup (SqT.of h7) (.cons (.str _) (.cons (.str _) .nil))
    refine ⟨sz, fun t8 nt8 => ?_⟩
    obtain ⟨G8, r8, S8, h8⟩ := Sep.mk (o := .tup [.str "is", .int 1, .int 2]) S7 nt8
    have s8 := s7.trans r8
    have d8 : Dp K G8 (.ref t8) (.tuple [.str "is", .int 1, .int 2]) := .tup (SqT.of h8) (.cons (.str _) (.cons (.int _) (.cons (.int _) .nil)))
    refine ⟨sz, fun t9 nt9 => ?_⟩
    obtain ⟨G9, r9, S9, h9⟩ := Sep.mk (o := .lst [.non, .int 3, .str "item", .ref t1, .ref t2, .ref t3, .ref t4, .ref t5, .ref t6, .ref t7, .ref t8]) S8 nt9
    have s9 := s8.trans r9
    have E1 : DpAll K G9 [.non, .int 3, .str "item", .ref t1, .ref t2, .ref t3, .ref t4, .ref t5, .ref t6, .ref t7, .ref t8] [.none, .int 3, .str "item", .tuple [], .tuple [.str "is"], .tuple [.str "is", .int 10], .tuple [.str "is", .int (-1)], .tuple [.str "is", .bool true], .tuple [.str "is", .none], .tuple [.str "is", .str "a"], .tuple [.str "is", .int 1, .int 2]] := (.cons (.non) (.cons (.int _) (.cons (.str _) (.cons (dp_same (r2.trans (r3.trans (r4.trans (r5.trans (r6.trans (r7.trans (r8.trans r9))))))) d1) (.cons (dp_same (r3.trans (r4.trans (r5.trans (r6.trans (r7.trans (r8.trans r9)))))) d2) (.cons (dp_same (r4.trans (r5.trans (r6.trans (r7.trans (r8.trans r9))))) d3) (.cons (dp_same (r5.trans (r6.trans (r7.trans (r8.trans r9)))) d4) (.cons (dp_same (r6.trans (r7.trans (r8.trans r9))) d5) (.cons (dp_same (r7.trans (r8.trans r9)) d6) (.cons (dp_same (r8.trans r9) d7) (.cons (dp_same r9 d8) .nil)))))))))))
    have D1 := E1
    refine ⟨sz, fun t10 nt10 => ?_⟩
    obtain ⟨G10, r10, S10, h10⟩ := Sep.mk (o := .tup [.str "get"]) S9 nt10
    have s10 := s9.trans r10
    have d10 : Dp K G10 (.ref t10) (.tuple [.str "get"]) := .tup (SqT.of h10) (.cons (.str _) .nil)
    refine ⟨sz, fun t11 nt11 => ?_⟩
    obtain ⟨G11, r11, S11, h11⟩ := Sep.mk (o := .tup [.str "get", .str ""]) S10 nt11
    have s11 := s10.trans r11
    have d11 : Dp K G11 (.ref t11) (.tuple [.str "get", .str ""]) := .tup (SqT.of h11) (.cons (.str _) (.cons (.str _) .nil))
    refine ⟨sz, fun t12 nt12 => ?_⟩
    obtain ⟨G12, r12, S12, h12⟩ := Sep.mk (o := .tup [.str "get", .str "Item"]) S11 nt12
    have s12 := s11.trans r12
    have d12 : Dp K G12 (.ref t12) (.tuple [.str "get", .str "Item"]) := .tup (SqT.of h12) (.cons (.str _) (.cons (.str _) .nil))
    refine ⟨sz, fun t13 nt13 => ?_⟩
    obtain ⟨G13, r13, S13, h13⟩ := Sep.mk (o := .tup [.str "get", .str "abcdefghi"]) S12 nt13
    have s13 := s12.trans r13
    have d13 : Dp K G13 (.ref t13) (.tuple [.str "get", .str "abcdefghi"]) := .tup (SqT.of h13) (.cons (.str _) (.cons (.str _) .nil))
    refine ⟨sz, fun t14 nt14 => ?_⟩
    obtain ⟨G14, r14, S14, h14⟩ := Sep.mk (o := .tup [.str "get", .int 7]) S13 nt14
    have s14 := s13.trans r14
    have d14 : Dp K G14 (.ref t14) (.tuple [.str "get", .int 7]) := .tup (SqT.of h14) (.cons (.str _) (.cons (.int _) .nil))
    refine ⟨sz, fun t15 nt15 => ?_⟩
    obtain ⟨G15, r15, S15, h15⟩ := Sep.mk (o := .tup [.str "get", .non]) S14 nt15
    have s15 := s14.trans r15
    have d15 : Dp K G15 (.ref t15) (.tuple [.str "get", .none]) := .tup (SqT.of h15) (.cons (.str _) (.cons (.non) .nil))
    refine ⟨sz, fun t16 nt16 => ?_⟩
    obtain ⟨G16, r16, S16, h16⟩ := Sep.mk (o := .lst [.ref t10, .ref t11, .ref t12, .ref t13, .ref t14, .ref t15]) S15 nt16
    have s16 := s15.trans r16
    have E2 : DpAll K G16 [.ref t10, .ref t11, .ref t12, .ref t13, .ref t14, .ref t15] [.tuple [.str "get"], .tuple [.str "get", .str ""], .tuple [.str "get", .str "Item"], .tuple [.str "get", .str "abcdefghi"], .tuple [.str "get", .int 7], .tuple [.str "get", .none]] := (.cons (dp_same (r11.trans (r12.trans (r13.trans (r14.trans (r15.trans r16))))) d10) (.cons (dp_same (r12.trans (r13.trans (r14.trans (r15.trans r16)))) d11) (.cons (dp_same (r13.trans (r14.trans (r15.trans r16))) d12) (.cons (dp_same (r14.trans (r15.trans r16)) d13) (.cons (dp_same (r15.trans r16) d14) (.cons (dp_same r16 d15) .nil))))))
    refine ⟨_, _, _, _, rfl, rfl, (S16.st ((r10.trans (r11.trans (r12.trans (r13.trans (r14.trans (r15.trans r16)))))) _ _ h9)), (S16.st h16), by simp only [List.length_cons, List.length_nil]; exact small (by decide), fun t17 nt17 => ?_⟩
    obtain ⟨G17, r17, S17, h17⟩ := Sep.mk (o := .lst [.non, .int 3, .str "item", .ref t1, .ref t2, .ref t3, .ref t4, .ref t5, .ref t6, .ref t7, .ref t8, .ref t10, .ref t11, .ref t12, .ref t13, .ref t14, .ref t15]) S16 nt17
    have s17 := s16.trans r17
    have D2 := dpa_app (dpa_same (r10.trans (r11.trans (r12.trans (r13.trans (r14.trans (r15.trans (r16.trans r17))))))) D1) (dpa_same r17 E2)
    refine ⟨sz, fun t18 nt18 => ?_⟩
    obtain ⟨G18, r18, S18, h18⟩ := Sep.mk (o := .tup [.str "get", .str "at1"]) S17 nt18
    have s18 := s17.trans r18
    have d18 : Dp K G18 (.ref t18) (.tuple [.str "get", .str "at1"]) := .tup (SqT.of h18) (.cons (.str _) (.cons (.str _) .nil))
    refine ⟨sz, fun t19 nt19 => ?_⟩
    obtain ⟨G19, r19, S19, h19⟩ := Sep.mk (o := .tup [.str "get", .str "at", .str "at"]) S18 nt19
    have s19 := s18.trans r19
    have d19 : Dp K G19 (.ref t19) (.tuple [.str "get", .str "at", .str "at"]) := .tup (SqT.of h19) (.cons (.str _) (.cons (.str _) (.cons (.str _) .nil)))
    refine ⟨sz, fun t20 nt20 => ?_⟩
    obtain ⟨G20, r20, S20, h20⟩ := Sep.mk (o := .tup [.str "get", .str "a b"]) S19 nt20
    have s20 := s19.trans r20
    have d20 : Dp K G20 (.ref t20) (.tuple [.str "get", .str "a b"]) := .tup (SqT.of h20) (.cons (.str _) (.cons (.str _) .nil))
    refine ⟨sz, fun t21 nt21 => ?_⟩
    obtain ⟨G21, r21, S21, h21⟩ := Sep.mk (o := .tup [.str "sum", v]) S20 nt21
    have s21 := s20.trans r21
    have d21 : Dp K G21 (.ref t21) (.tuple [.str "sum", g]) := .tup (SqT.of h21) (.cons (.str _) (.cons (dp_same s21 hv) .nil))
    refine ⟨sz, fun t22 nt22 => ?_⟩
    obtain ⟨G22, r22, S22, h22⟩ := Sep.mk (o := .tup [.str "sum", v, v, v]) S21 nt22
    have s22 := s21.trans r22
    have d22 : Dp K G22 (.ref t22) (.tuple [.str "sum", g, g, g]) := .tup (SqT.of h22) (.cons (.str _) (.cons (dp_same s22 hv) (.cons (dp_same s22 hv) (.cons (dp_same s22 hv) .nil))))
    refine ⟨sz, fun t23 nt23 => ?_⟩
    obtain ⟨G23, r23, S23, h23⟩ := Sep.mk (o := .lst [.ref t18, .ref t19, .ref t20, .ref t21, .ref t22]) S22 nt23
    have s23 := s22.trans r23
    have E3 : DpAll K G23 [.ref t18, .ref t19, .ref t20, .ref t21, .ref t22] [.tuple [.str "get", .str "at1"], .tuple [.str "get", .str "at", .str "at"], .tuple [.str "get", .str "a b"], .tuple [.str "sum", g], .tuple [.str "sum", g, g, g]] := (.cons (dp_same (r19.trans (r20.trans (r21.trans (r22.trans r23)))) d18) (.cons (dp_same (r20.trans (r21.trans (r22.trans r23))) d19) (.cons (dp_same (r21.trans (r22.trans r23)) d20) (.cons (dp_same (r22.trans r23) d21) (.cons (dp_same r23 d22) .nil)))))
    refine ⟨_, _, _, _, rfl, rfl, (S23.st ((r18.trans (r19.trans (r20.trans (r21.trans (r22.trans r23))))) _ _ h17)), (S23.st h23), by simp only [List.length_cons, List.length_nil]; exact small (by decide), fun t24 nt24 => ?_⟩
    obtain ⟨G24, r24, S24, h24⟩ := Sep.mk (o := .lst [.non, .int 3, .str "item", .ref t1, .ref t2, .ref t3, .ref t4, .ref t5, .ref t6, .ref t7, .ref t8, .ref t10, .ref t11, .ref t12, .ref t13, .ref t14, .ref t15, .ref t18, .ref t19, .ref t20, .ref t21, .ref t22]) S23 nt24
    have s24 := s23.trans r24
    have D3 := dpa_app (dpa_same (r18.trans (r19.trans (r20.trans (r21.trans (r22.trans (r23.trans r24)))))) D2) (dpa_same r24 E3)
    refine ⟨sz, fun t25 nt25 => ?_⟩
    obtain ⟨G25, r25, S25, h25⟩ := Sep.mk (o := .tup [.str "same", v]) S24 nt25
    have s25 := s24.trans r25
    have d25 : Dp K G25 (.ref t25) (.tuple [.str "same", g]) := .tup (SqT.of h25) (.cons (.str _) (.cons (dp_same s25 hv) .nil))
    refine ⟨sz, fun t26 nt26 => ?_⟩
    obtain ⟨G26, r26, S26, h26⟩ := Sep.mk (o := .tup [.str "same", v, v, v]) S25 nt26
    have s26 := s25.trans r26
    have d26 : Dp K G26 (.ref t26) (.tuple [.str "same", g, g, g]) := .tup (SqT.of h26) (.cons (.str _) (.cons (dp_same s26 hv) (.cons (dp_same s26 hv) (.cons (dp_same s26 hv) .nil))))
    refine ⟨sz, fun t27 nt27 => ?_⟩
    obtain ⟨G27, r27, S27, h27⟩ := Sep.mk (o := .lst [.ref t25, .ref t26]) S26 nt27
    have s27 := s26.trans r27
    have E4 : DpAll K G27 [.ref t25, .ref t26] [.tuple [.str "same", g], .tuple [.str "same", g, g, g]] := (.cons (dp_same (r26.trans r27) d25) (.cons (dp_same r27 d26) .nil))
    refine ⟨_, _, _, _, rfl, rfl, (S27.st ((r25.trans (r26.trans r27)) _ _ h24)), (S27.st h27), by simp only [List.length_cons, List.length_nil]; exact small (by decide), fun t28 nt28 => ?_⟩
    obtain ⟨G28, r28, S28, h28⟩ := Sep.mk (o := .lst [.non, .int 3, .str "item", .ref t1, .ref t2, .ref t3, .ref t4, .ref t5, .ref t6, .ref t7, .ref t8, .ref t10, .ref t11, .ref t12, .ref t13, .ref t14, .ref t15, .ref t18, .ref t19, .ref t20, .ref t21, .ref t22, .ref t25, .ref t26]) S27 nt28
    have s28 := s27.trans r28
    have D4 := dpa_app (dpa_same (r25.trans (r26.trans (r27.trans r28))) D3) (dpa_same r28 E4)
    refine ⟨sz, fun t29 nt29 => ?_⟩
    obtain ⟨G29, r29, S29, h29⟩ := Sep.mk (o := .tup [.str "pick", v, v]) S28 nt29
    have s29 := s28.trans r29
    have d29 : Dp K G29 (.ref t29) (.tuple [.str "pick", g, g]) := .tup (SqT.of h29) (.cons (.str _) (.cons (dp_same s29 hv) (.cons (dp_same s29 hv) .nil)))
    refine ⟨sz, fun t30 nt30 => ?_⟩
    obtain ⟨G30, r30, S30, h30⟩ := Sep.mk (o := .tup [.str "add", v, v]) S29 nt30
    have s30 := s29.trans r30
    have d30 : Dp K G30 (.ref t30) (.tuple [.str "add", g, g]) := .tup (SqT.of h30) (.cons (.str _) (.cons (dp_same s30 hv) (.cons (dp_same s30 hv) .nil)))
    refine ⟨sz, fun t31 nt31 => ?_⟩
    obtain ⟨G31, r31, S31, h31⟩ := Sep.mk (o := .tup [.int 7]) S30 nt31
    have s31 := s30.trans r31
    have d31 : Dp K G31 (.ref t31) (.tuple [.int 7]) := .tup (SqT.of h31) (.cons (.int _) .nil)
    refine ⟨sz, fun t32 nt32 => ?_⟩
    obtain ⟨G32, r32, S32, h32⟩ := Sep.mk (o := .tup [.non, v]) S31 nt32
    have s32 := s31.trans r32
    have d32 : Dp K G32 (.ref t32) (.tuple [.none, g]) := .tup (SqT.of h32) (.cons (.non) (.cons (dp_same s32 hv) .nil))
    refine ⟨sz, fun t33 nt33 => ?_⟩
    obtain ⟨G33, r33, S33, h33⟩ := Sep.mk (o := .lst [.str "is", .int 3]) S32 nt33
    have s33 := s32.trans r33
    have d33 : Dp K G33 (.ref t33) (.list [.str "is", .int 3]) := .lst (SqL.of h33) (.cons (.str _) (.cons (.int _) .nil))
    refine ⟨sz, fun t34 nt34 => ?_⟩
    obtain ⟨G34, r34, S34, h34⟩ := Sep.mk (o := .lst [.str "get", .str "item"]) S33 nt34
    have s34 := s33.trans r34
    have d34 : Dp K G34 (.ref t34) (.list [.str "get", .str "item"]) := .lst (SqL.of h34) (.cons (.str _) (.cons (.str _) .nil))
    refine ⟨sz, fun t35 nt35 => ?_⟩
    obtain ⟨G35, r35, S35, h35⟩ := Sep.mk (o := .lst [.ref t29, .ref t30, .ref t31, .ref t32, .ref t33, .ref t34]) S34 nt35
    have s35 := s34.trans r35
    have E5 : DpAll K G35 [.ref t29, .ref t30, .ref t31, .ref t32, .ref t33, .ref t34] [.tuple [.str "pick", g, g], .tuple [.str "add", g, g], .tuple [.int 7], .tuple [.none, g], .list [.str "is", .int 3], .list [.str "get", .str "item"]] := (.cons (dp_same (r30.trans (r31.trans (r32.trans (r33.trans (r34.trans r35))))) d29) (.cons (dp_same (r31.trans (r32.trans (r33.trans (r34.trans r35)))) d30) (.cons (dp_same (r32.trans (r33.trans (r34.trans r35))) d31) (.cons (dp_same (r33.trans (r34.trans r35)) d32) (.cons (dp_same (r34.trans r35) d33) (.cons (dp_same r35 d34) .nil))))))
    refine ⟨_, _, _, _, rfl, rfl, (S35.st ((r29.trans (r30.trans (r31.trans (r32.trans (r33.trans (r34.trans r35)))))) _ _ h28)), (S35.st h35), by simp only [List.length_cons, List.length_nil]; exact small (by decide), fun t36 nt36 => ?_⟩
    obtain ⟨G36, r36, S36, h36⟩ := Sep.mk (o := .lst [.non, .int 3, .str "item", .ref t1, .ref t2, .ref t3, .ref t4, .ref t5, .ref t6, .ref t7, .ref t8, .ref t10, .ref t11, .ref t12, .ref t13, .ref t14, .ref t15, .ref t18, .ref t19, .ref t20, .ref t21, .ref t22, .ref t25, .ref t26, .ref t29, .ref t30, .ref t31, .ref t32, .ref t33, .ref t34]) S35 nt36
    have s36 := s35.trans r36
    have D5 := dpa_app (dpa_same (r29.trans (r30.trans (r31.trans (r32.trans (r33.trans (r34.trans (r35.trans r36))))))) D4) (dpa_same r36 E5)
    refine ⟨G36, M, b, o, t36, _, rfl, S36, B.same s36, SqL.of h36, by simp only [List.length_cons]; omega, by simp only [List.length_cons, List.length_nil]; decide, fun u o2 H2 hu B2 S2 => ?_⟩
    obtain ⟨i, hi⟩ := List.getElem?_of_mem hu
    obtain ⟨d, hd, hud⟩ := dpa_get D5 hi
    exact q u d o2 G36 H2 s36 hud (List.mem_of_getElem? hd) B2 S2

end
end K25
set_option Elab.async false
set_option linter.all false
set_option maxRecDepth 100000
set_option maxHeartbeats 4000000
namespace K25
open PySem PySem.Spec PyProof.Rows L2 XL
section
variable {P : Program} {w : World} {K : PySem.W.Frag} {mg : Str → Option Value} {base : Heap}
/-! ### the law reads, spoils and stacks forms -/
def Gm.hd : Gm → Str
  | .is _ => "is"
  | .get _ => "get"
  | .sum _ _ => "sum"
  | .same _ _ => "same"
  | .pick _ _ _ => "pick"
theorem Gm.node_dat {f : Gm} (h : f.kids ≠ []) : f.dat = .tuple (.str f.hd :: f.kids.map Gm.dat) ∧ headN f.hd = f.kids.length + 1 ∧ f.hd ≠ "is" ∧ f.hd ≠ "get" ∧ f.kids.length ≤ 3 ∧ f.hd.length ≤ 4 ∧ (f.hd.cps.toList.all fun c => decide (c < 1114112)) = true := by
  cases f with
  | is n => exact absurd rfl h
  | get x => exact absurd rfl h
  | sum a b => exact ⟨rfl, by show headN "sum" = 3; decide +kernel, by show ("sum" : Str) ≠ "is"; decide +kernel, by show ("sum" : Str) ≠ "get"; decide +kernel, by simp [Gm.kids], by show ("sum" : Str).length ≤ 4; decide +kernel, by show (("sum" : Str).cps.toList.all fun c => decide (c < 1114112)) = true; decide +kernel⟩
  | same a b => exact ⟨rfl, by show headN "same" = 3; decide +kernel, by show ("same" : Str) ≠ "is"; decide +kernel, by show ("same" : Str) ≠ "get"; decide +kernel, by simp [Gm.kids], by show ("same" : Str).length ≤ 4; decide +kernel, by show (("same" : Str).cps.toList.all fun c => decide (c < 1114112)) = true; decide +kernel⟩
  | pick a b c => exact ⟨rfl, by show headN "pick" = 4; decide +kernel, by show ("pick" : Str) ≠ "is"; decide +kernel, by show ("pick" : Str) ≠ "get"; decide +kernel, by simp [Gm.kids], by show ("pick" : Str).length ≤ 4; decide +kernel, by show (("pick" : Str).cps.toList.all fun c => decide (c < 1114112)) = true; decide +kernel⟩
theorem GmAt.nodeH {K : PySem.W.Frag} {G : Hp} {v : V} {f : Gm} (h : GmAt K G v f) : (∃ p x, v = .ref p ∧ SqT K G p [.str f.hd, x] ∧ (f.hd = "is" ∨ f.hd = "get") ∧ f.kids = []) ∨
    ∃ (p : Addr) (vs : List V), v = .ref p ∧ SqT K G p (.str f.hd :: vs) ∧ Paired (GmAt K G) vs f.kids ∧ f.kids ≠ [] ∧ ∀ c ∈ f.kids, c.dep < f.dep := by
  cases h with
  | is h => exact .inl ⟨_, _, rfl, h, .inl rfl, rfl⟩
  | get h => exact .inl ⟨_, _, rfl, h, .inr rfl, rfl⟩
  | sum h h1 h2 =>
    refine .inr ⟨_, _, rfl, h, .cons h1 (.cons h2 .nil), by simp [Gm.kids], fun c hc => ?_⟩
    simp only [Gm.kids, List.mem_cons, List.not_mem_nil, or_false] at hc
    rcases hc with rfl | rfl <;> simp only [Gm.dep] <;> omega
  | same h h1 h2 =>
    refine .inr ⟨_, _, rfl, h, .cons h1 (.cons h2 .nil), by simp [Gm.kids], fun c hc => ?_⟩
    simp only [Gm.kids, List.mem_cons, List.not_mem_nil, or_false] at hc
    rcases hc with rfl | rfl <;> simp only [Gm.dep] <;> omega
  | pick h h1 h2 h3 =>
    refine .inr ⟨_, _, rfl, h, .cons h1 (.cons h2 (.cons h3 .nil)), by simp [Gm.kids], fun c hc => ?_⟩
    simp only [Gm.kids, List.mem_cons, List.not_mem_nil, or_false] at hc
    rcases hc with rfl | rfl | rfl <;> simp only [Gm.dep] <;> omega
def Wd (n : Nat) : Nat := 17 * 3 ^ (n - 1) - 4
theorem Wd_succ (n : Nat) (h : 1 ≤ n) : 5 + 3 * (Wd n + 1) ≤ Wd (n + 1) := by
  obtain ⟨m, rfl⟩ : ∃ m, n = m + 1 := ⟨n - 1, by omega⟩
  unfold Wd
  rw [Nat.add_sub_cancel, Nat.add_sub_cancel, Nat.pow_succ]
  have : 1 ≤ 3 ^ m := Nat.one_le_pow _ _ (by decide)
  omega
theorem Wd_mono {m n : Nat} (h : m ≤ n) : Wd m ≤ Wd n := by
  unfold Wd
  have : 3 ^ (m - 1) ≤ 3 ^ (n - 1) := Nat.pow_le_pow_right (by decide) (by omega)
  omega
theorem dat_fkW {ns : List Str} (hn : NmL ns) {f : Gm} (ok : f.ok ns) : Fk (Wd f.dep) f.dep f.dat := by
  obtain ⟨w', h, l⟩ := dat_fk hn f ok
  refine h.mono ?_ (Nat.le_refl _)
  have p := f.dep_pos
  obtain ⟨m, hm⟩ : ∃ m, f.dep = m + 1 := ⟨f.dep - 1, by omega⟩
  rw [hm] at l ⊢
  unfold Wd
  rw [Nat.add_sub_cancel]
  rw [Nat.pow_succ] at l
  omega
theorem wt_app : ∀ a b : List PyData, PyData.weightAll (a ++ b) = PyData.weightAll a + PyData.weightAll b
  | [], b => by simp [PyData.weightAll]
  | x :: r, b => by
    rw [List.cons_append]
    simp only [PyData.weightAll, wt_app r b]
    omega
theorem wt_set {ds : List PyData} {k : Nat} {e : PyData} {W we : Nat} (hk : k < ds.length) (h : ∀ d ∈ ds, d.weight ≤ W) (he : e.weight ≤ W + we) : PyData.weightAll (ds.take k ++ e :: ds.drop (k + 1)) ≤ ds.length * (W + 1) + we := by
  rw [wt_app]
  simp only [PyData.weightAll]
  have h1 := weightAll_le (n := W) (xs := ds.take k) fun d hd => h d (List.mem_of_mem_take hd)
  have h2 := weightAll_le (n := W) (xs := ds.drop (k + 1)) fun d hd => h d (List.mem_of_mem_drop hd)
  rw [List.length_take, Nat.min_eq_left (by omega)] at h1
  rw [List.length_drop] at h2
  obtain ⟨m, hm⟩ : ∃ m, ds.length = k + 1 + m := ⟨ds.length - (k + 1), by omega⟩
  rw [hm] at h2 ⊢
  rw [Nat.add_sub_cancel_left] at h2
  rw [Nat.add_mul, Nat.add_mul, Nat.one_mul]
  omega
def spRead (K : PySem.W.Frag) (d : Nat) : Sp := fun vs H Q _ => ∃ (G : Hp) (M : List (Addr × HO)) (v : V) (f : Gm) (ns : List Str), vs = [v] ∧ Sep G M H ∧ GmAt K G v f ∧ f.ok ns ∧ ns.length ≤ 100 ∧ f.dep ≤ d ∧
  ∀ (p : Addr) (G' H' : Hp), Same G G' → Sep G' M H' → G' p = some (.lst (f.nms.map V.str)) → Q (.ref p) H'
theorem nmF_in {ns : List Str} : ∀ (l : List Gm) (a : List Str), (∀ c ∈ l, c.ok ns) → (∀ x ∈ a, x ∈ ns) → ∀ x ∈ (l.map Gm.nms).foldl addN a, x ∈ ns
  | [], a, _, h => h
  | c :: r, a, h1, h2 => by
    refine nmF_in r (addN a c.nms) (fun c hc => h1 c (List.mem_cons_of_mem _ hc)) fun x hx => ?_
    rcases addN_mem hx with h | h
    · exact h2 x h
    · exact Gm.nms_ok (h1 c List.mem_cons_self) x h
theorem ok_read (T : Top K mg w) : ∀ d : Nat, FnOk P w K mg base CX0 (d + 1) T.a_read T.d_read ["_law_form_here"] (spRead K d)
  | 0 => fn_false39 fun vs H Q E h => by
    obtain ⟨G, M, v, f, ns, _, _, _, _, _, hd, _⟩ := h
    have := f.dep_pos
    omega
  | d + 1 => by
    have G_read := ok_read T d
    refine T.F_read.ok sc_read (fun vs H Q E h => ?_) (fun cdv A outer s H vs Q E hr h => ?_)
    · obtain ⟨G, M, v, f, ns, rfl, _⟩ := h
      rfl
    · obtain ⟨G, M, v, f, ns, rfl, S, hf, ok, nsl, hd, q⟩ := h
      refine ⟨_, (pss_cons (xs_if (PW.pt (xw_or (xt_cmp (op_eqLK K hr.u190) (pe_ix (ix_k K) (xv 0) pe_int (fun _ _ => rfl)) pe_str (nomark _)) (pw_or1 (xt_cmp (op_eqLK K hr.u190) (pe_ix (ix_k K) (xv 0) pe_int (fun _ _ => rfl)) pe_str (nomark _)))))
      (pss_one (ps_ret (xe_if (xt_cmp (op_eqLK K hr.u190) (pe_ix (ix_k K) (xv 0) pe_int (fun _ _ => rfl)) pe_str (nomark _)) (pe_lst pa_nil) (pe_lst (pa_cons (pe_ix (ix_k K) (xv 0) pe_int (fun _ _ => rfl)) pa_nil)))))
      pss_nil)
      (pss_cons (ps_set (i := 1) sc_read.nd rfl (.inr rfl) (pe_lst pa_nil))
      (pss_cons (ps_for PassesOwn.never rfl (pi_tupK K (pe_slice sl_tup (xv 0) (po_some pe_int) po_none)) (pg_name (i := 2) sc_read.nd rfl (.inl rfl))
      (pss_one (ps_expr (pe_bmK K PySem.F.plainAttrs_list PySem.F.slot_list_extend PySem.F.type_list_extend mt_extend (xv 1) (pa_cons (pe_lc (own := [("_law_told", 3)]) (by rfl) sc_read.nd (pi_listK K (pe_call G_read (hr.mono (by omega)) (by rfl) T.g_read T.F_read.kp T.b_read .nil pass0 (pa_cons (xv 2) pa_nil))) (blkOk_by (N := ["_law_form_here", "_law_out", "_law_part", "_law_told"]) (sc := defScope s_read) (by decide +kernel)) (fun _ _ _ _ _ => (pg_name (i := 3) sc_read.nd rfl (.inl rfl))) (fun _ _ _ _ _ => (pts_one (xt_cmp (notin_seqK K) (xv 3) (xv 1) (by rfl)))) (fun _ _ _ _ _ => (xv 3))) pa_nil)))))
      (pss_one (ps_ret (xv 1)))))), ?_⟩
      rcases hf.node with ⟨p, n, rfl, hp, rfl⟩ | ⟨p, x, rfl, hp, rfl⟩ | ⟨p, u, vs, rfl, hp, hk, u1, u2, kne, kl, kd⟩
      · have h1 := S.t hp
        refine ⟨_, _, .inr h1, rfl, fun _ => ⟨fun _ => ⟨_, _, .inr h1, rfl, ?_⟩, tt⟩, we⟩
        exact ⟨fun _ => ⟨sz, fun t nt => q t _ _ (S.grow nt) (S.newG nt) upd_same⟩, we⟩
      · have h1 := S.t hp
        refine ⟨_, _, .inr h1, rfl, fun e => wd e, fun _ => ⟨_, _, .inr h1, rfl, fun _ => ⟨_, _, .inr h1, rfl, ?_⟩, we⟩⟩
        exact ⟨fun e => wd e, fun e => ⟨_, _, .inr h1, rfl, sz, fun t nt => q t _ _ (S.grow nt) (S.newG nt) upd_same⟩⟩
      · have h1 := S.t hp
        have at0 : atI (V.str u :: vs) 0 = some (.str u) := atI_nat (j := 0) rfl
        refine ⟨_, .str u, .inr h1, at0, fun e => absurd (of_decide_eq_true e) u1, fun _ => ⟨_, .str u, .inr h1, at0, fun e => absurd (of_decide_eq_true e) u2, fun _ => ?_⟩⟩
        refine ⟨sz, fun L nL => ?_⟩
        have S1 := S.new (o := .lst []) nL
        refine ⟨1, rfl, p, _, rfl, S1.t hp, ?_, fun t nt => ?_⟩
        · rintro ⟨z, _⟩
          rw [show HT.sIx (V.str u :: vs).length 0 (some 1) = min 1 (V.str u :: vs).length from HT.sIx_nat _ 0 1, List.length_cons] at z
          omega
        · rw [cutT1] at *
          have S2 := S1.newG (o := .tup vs) nt
          have s2 := S1.grow (o := .tup vs) nt
          have kvl := prd_len hk
          refine ⟨t, rfl, ⟨vs, SqT.of (S2.st upd_same)⟩, for_tup (xs := vs) (fun i σ H' => ∃ (y2 : Option V) (G' : Hp), σ = [some (.ref p), some (.ref L), y2, none] ∧ Same (upd G t (.tup vs)) G' ∧ Sep G' ((L, .lst ((nmF ((f.kids.take i).map Gm.nms)).map V.str)) :: M) H')
            ⟨_, _, rfl, Same.refl _, S2⟩ (fun i σ H' _ h => ?_) (fun i x σ H' hx h => ?_) (fun σ H' h => ?_)⟩
          · obtain ⟨_, G', _, s3, S3⟩ := h
            exact SqT.of (S3.st (s3 _ _ upd_same))
          · obtain ⟨y2, G', rfl, s3, S3⟩ := h
            obtain ⟨c, hc', hc⟩ := prd_get hk hx
            have cm := List.mem_of_getElem? hc'
            have okc := Gm.kids_ok ok c cm
            have dc := kd c cm
            generalize hfo : nmF ((f.kids.take i).map Gm.nms) = fo at S3
            have fnd : fo.Nodup := by rw [← hfo]; exact nmF_nd
            have fin : ∀ x ∈ fo, x ∈ ns := fun x hx => by
              rw [← hfo] at hx
              exact nmF_in (f.kids.take i) [] (fun c hc => Gm.kids_ok ok c (List.mem_of_mem_take hc)) (fun _ h => nomatch h) x hx
            have nnd := c.nms_nd
            have l1 := nodup_sub fnd fin
            have l2 := nodup_sub nnd (Gm.nms_ok okc)
            refine ⟨.inl ⟨rfl, _, SqL.of S3.hd⟩, G', _, _, c, ns, rfl, S3, (hc.same' s2).same' s3, okc, nsl, by omega, fun r G2 H2 s4 S4 hr => ?_⟩
            refine ⟨r, rfl, ⟨_, SqL.of (S4.st hr)⟩, fun D nD => lc_list (xs := c.nms.map V.str) (fun j H' => Sep G2 ((D, .lst (((c.nms.take j).filter fun x => !decide (x ∈ fo)).map V.str)) :: (L, .lst (fo.map V.str)) :: M) H') (S4.new nD) (fun j H' _ p => SqL.of (p.st hr)) (fun j y H' hy p => ⟨rfl, ?_⟩) (fun H' p => ?_)⟩
            · rw [List.getElem?_map] at hy
              obtain ⟨z, hz, rfl⟩ := Option.map_eq_some_iff.mp hy
              refine ⟨L, _, rfl, .inl (SqL.of p.sw.hd), rfl, flS _, ?_⟩
              rw [inS]
              refine tst (fun e => ?_) (fun e => ?_)
              · have e : (!decide (z ∈ fo)) = true := e
                have h3 := List.length_filter_le (fun x => !decide (x ∈ fo)) (c.nms.take j)
                rw [List.length_take] at h3
                refine ⟨_, p.hd, by rw [List.length_map]; exact smallL (by omega), ?_⟩
                rw [take_snoc hz, List.filter_append, List.map_append, show ([z].filter fun x => !decide (x ∈ fo)) = [z] by simp only [List.filter]; rw [e]]
                exact p.set
              · have e : (!decide (z ∈ fo)) = false := e
                rw [take_snoc hz, List.filter_append, show ([z].filter fun x => !decide (x ∈ fo)) = [] by simp only [List.filter]; rw [e], List.append_nil]
                exact p
            · rw [List.length_map, List.take_length] at p
              obtain ⟨G3, s5, S5, hD⟩ := Sep.keep p
              have h3 := List.length_filter_le (fun x => !decide (x ∈ fo)) c.nms
              refine ⟨L, D, _, _, rfl, rfl, S5.hd, S5.st hD, small (by rw [List.length_map, List.length_map]; omega), _, G3, rfl, s3.trans (s4.trans s5), ?_⟩
              rw [take_snoc hc', List.map_append, show nmF ((f.kids.take i).map Gm.nms ++ [c].map Gm.nms) = addN fo c.nms by rw [← hfo]; exact nmF_snoc _ _, addN, List.map_append]
              exact S5.set
          · obtain ⟨y2, G', rfl, s3, S3⟩ := h
            rw [kvl, List.take_length, ← Gm.nms_kids kne] at S3
            obtain ⟨G4, s4, S4, hL⟩ := Sep.keep S3
            exact q L G4 _ (s2.trans (s3.trans s4)) S4 hL
/-- a part exchanged for an odd one -/
def spSpoilt (K : PySem.W.Frag) (d : Nat) : Sp := fun vs H Q _ => ∃ (G : Hp) (M : List (Addr × HO)) (b : Addr) (o : HO) (v u : V) (f : Gm) (ns : List Str) (e : PyData) (we de : Nat), vs = [.ref b, v, u] ∧ Sep G ((b, o) :: M) H ∧ Bag G o ∧ GmAt K G v f ∧ f.ok ns ∧ NmL ns ∧ f.dep ≤ d ∧ Dp K G u e ∧ partOk e = false ∧ Fk we de e ∧
  ∀ (v' : V) (e' : PyData) (o' : HO) (G' H' : Hp), Same G G' → Dp K G' v' e' → fb e' = some e → Fk (Wd f.dep + we) (f.dep + de) e' → Bag G' o' → Sep G' ((b, o') :: M) H' → Q v' H'
theorem fbs_none : ∀ {l : List PyData}, (∀ d ∈ l, fb d = none) → fbs l = none
  | [], _ => by simp only [fbs]
  | x :: r, h => by simp only [fbs, h x List.mem_cons_self, fbs_none fun d hd => h d (List.mem_cons_of_mem _ hd)]
theorem cutV_from (xs : List V) (k : Nat) (h : k ≤ xs.length) : cutV xs (some (k : Int)) none = xs.drop k := by
  unfold cutV
  rw [HT.sIx_none, HT.sIx_nat, Nat.min_eq_left h]
  refine List.take_of_length_le ?_
  rw [List.length_drop]
  exact Nat.le_refl _
theorem cutV_til (xs : List V) (k : Nat) (h : k ≤ xs.length) : cutV xs none (some (k : Int)) = xs.take k := by
  unfold cutV
  rw [HT.sIx_none, HT.sIx_nat, Nat.min_eq_left h, List.drop_zero, Nat.sub_zero]
theorem prd_dpa {K : PySem.W.Frag} {G : Hp} : ∀ {vs : List V} {ks : List Gm}, Paired (GmAt K G) vs ks → DpAll K G vs (ks.map Gm.dat)
  | _, _, .nil => .nil
  | _, _, .cons h t => .cons (gm_dp h) (prd_dpa t)
theorem ok_spoilt (T : Top K mg w) {k : Nat} (G_pick : FnOk P w K mg base CX0 k T.a_pick T.d_pick ["_law_bag_here", "_law_many"] spPick) : ∀ d : Nat, FnOk P w K mg base CX0 (k + 1 + d) T.a_spoilt T.d_spoilt ["_law_bag_here", "_law_form_here", "_law_odd"] (spSpoilt K d)
  | 0 => fn_false39 fun vs H Q E h => by
    obtain ⟨G, M, b, o, v, u, f, ns, e, we, de, _, _, _, _, _, _, hd, _⟩ := h
    have := f.dep_pos
    omega
  | d + 1 => by
    have G_spoilt := ok_spoilt T G_pick d
    refine T.F_spoilt.ok sc_spoilt (fun vs H Q E h => ?_) (fun cdv A outer s H vs Q E hr h => ?_)
    · obtain ⟨G, M, b, o, v, u, f, ns, e, we, de, rfl, _⟩ := h
      rfl
    · obtain ⟨G, M, b, o, v, u, f, ns, e, we, de, rfl, S, B, hf, ok, hn, hd, hu, he, fe, q⟩ := h
      have hr : Room (k + 1 + d) (A.deeper (envOfC (Str.ofString "_law_spoilt") (defScope s_spoilt) s.heap.objs.size T.a_spoilt cdv)) := hr
      refine ⟨_, (pss_cons (xs_if (PW.pt (xw_or (xt_cmp (op_eqLK K hr.u190) (pe_ix (ix_k K) (xv 1) pe_int (fun _ _ => rfl)) pe_str (nomark _)) (xw_or (xt_cmp (op_eqLK K hr.u190) (pe_ix (ix_k K) (xv 1) pe_int (fun _ _ => rfl)) pe_str (nomark _)) (pw_or1 (xt_cmp (op_eqLK K hr.u190) (pe_call G_pick (hr.mono (by omega)) (by rfl) T.g_pick T.F_pick.kp T.b_pick .nil pass0 (pa_cons (xv 0) (pa_cons pe_int pa_nil))) pe_int (nomark _))))))
      (pss_one (ps_ret (xv 2)))
      pss_nil)
      (pss_cons (ps_set (i := 3) sc_spoilt.nd rfl (.inl rfl) (pe_op op_addY pe_int (pe_call G_pick (hr.mono (by omega)) (by rfl) T.g_pick T.F_pick.kp T.b_pick .nil pass0 (pa_cons (xv 0) (pa_cons (pe_op op_subY (pe_callB (cr_lenK K) (by rfl) T.m_len (by decide +kernel) (pa_cons (xv 1) pa_nil)) pe_int) pa_nil)))))
      (pss_one (ps_ret (pe_op (op_catAK K) (pe_op (op_catAK K) (pe_slice (sl_tupAK K) (xv 1) po_none (po_some (xv 3))) (pe_tup (pa_cons (pe_call G_spoilt (hr.mono (by omega)) (by rfl) T.g_spoilt T.F_spoilt.kp T.b_spoilt .nil pass0 (pa_cons (xv 0) (pa_cons (pe_ix (ix_k K) (xv 1) (xv 3) (fun _ _ => rfl)) (pa_cons (xv 2) pa_nil)))) pa_nil))) (pe_slice (sl_tupAK K) (xv 1) (po_some (pe_op op_addY (xv 3) pe_int)) po_none)))))), ?_⟩
      have now : ∀ o' H', Bag G o' → Sep G ((b, o') :: M) H' → Q u H' := fun o' H' B' S' => q u e o' G H' (Same.refl _) hu (fb_bad he) (fe.mono (by omega) (by omega)) B' S'
      rcases hf.nodeH with ⟨p, x, rfl, hp, hx, _⟩ | ⟨p, vs, rfl, hp, hk, kne, kd⟩
      · have h1 := S.t hp
        have at0 : atI [V.str f.hd, x] 0 = some (.str f.hd) := atI_nat (j := 0) rfl
        rcases hx with hx | hx
        · exact ⟨_, _, .inr h1, at0, fun _ => ⟨fun _ => now o H B S, tt⟩, fun e => absurd hx (of_decide_eq_false e)⟩
        · refine ⟨_, _, .inr h1, at0, fun e => ?_, fun _ => ⟨_, _, .inr h1, at0, fun _ => ⟨fun _ => now o H B S, tt⟩, fun e => absurd hx (of_decide_eq_false e)⟩⟩
          exact ⟨fun _ => now o H B S, tt⟩
      · have h1 := S.t hp
        obtain ⟨ed, hh, n1, n2, k3, hl4, hch⟩ := Gm.node_dat kne
        have vkl := prd_len hk
        have at0 : atI (V.str f.hd :: vs) 0 = some (.str f.hd) := atI_nat (j := 0) rfl
        have k0 : 0 < f.kids.length := List.length_pos_iff.mpr kne
        refine ⟨_, _, .inr h1, at0, fun e => absurd (of_decide_eq_true e) n1, fun _ => ⟨_, _, .inr h1, at0, fun e => absurd (of_decide_eq_true e) n2, fun _ => ?_⟩⟩
        refine ⟨G, M, b, o, 3, rfl, S, B, by decide, by decide, fun r1 o1 H1 _ _ B1 S1 => ⟨fun _ => now o1 H1 B1 S1, fun _ => ?_⟩⟩
        refine ⟨_, .inr (S1.t hp), G, M, b, o1, (vs.length : Nat), ?_, S1, B1, by omega, by omega, fun r2 o2 H2 r20 r21 B2 S2 => ?_⟩
        · rw [List.length_cons, show (((vs.length + 1 : Nat) : Int) - 1) = ((vs.length : Nat) : Int) by omega]
          rfl
        obtain ⟨j, rfl⟩ := Int.eq_ofNat_of_zero_le r20
        have jl : j < vs.length := by omega
        have e1 : (1 : Int) + ((j : Nat) : Int) = ((j + 1 : Nat) : Int) := by omega
        obtain ⟨c, hc', hc⟩ := prd_get hk (List.getElem?_eq_getElem jl)
        have cm := List.mem_of_getElem? hc'
        have okc := Gm.kids_ok ok c cm
        have dc := kd c cm
        have hat : atI (V.str f.hd :: vs) (1 + ((j : Nat) : Int)) = some vs[j] := by
          rw [e1]
          exact atI_nat (by rw [List.getElem?_cons_succ]; exact List.getElem?_eq_getElem jl)
        refine ⟨_, rfl, cutA_ok S2 hp fun c1 G3 H3 s3 hc1 S3 => ?_⟩
        rw [e1, cutV_til _ _ (by rw [List.length_cons]; omega)] at hc1
        refine ⟨_, _, .inr (S3.t (same_t s3 hp)), hat, G3, M, b, o2, vs[j], u, c, ns, e, we, de, rfl, S3, B2.same s3, hc.same' s3, okc, hn, by omega, dp_same s3 hu, he, fe, fun v' e' o4 G4 H4 s4 hv' hfb hfk B4 S4 => ?_⟩
        have s34 := s3.trans s4
        refine ⟨sz, fun t nt => ?_⟩
        obtain ⟨G5, s5, S5, ht⟩ := Sep.mk (o := .tup [v']) S4 nt
        refine cat_ok S5 (same_t (s4.trans s5) hc1) (SqT.of ht) (small (by rw [List.length_take, List.length_cons]; simp only [List.length_cons, List.length_nil]; omega)) fun c6 G6 H6 s6 hc6 S6 => ?_
        have s36 := s34.trans (s5.trans s6)
        refine ⟨_, rfl, ?_⟩
        unfold tNoPart
        refine cutA_ok S6 (same_t s36 hp) fun c7 G7 H7 s7 hc7 S7 => ?_
        have e2 : (1 : Int) + ((j : Nat) : Int) + 1 = ((j + 2 : Nat) : Int) := by omega
        rw [e2, cutV_from _ _ (by rw [List.length_cons]; omega)] at hc7
        refine cat_ok S7 (same_t s7 hc6) hc7 (small (by rw [List.length_append, List.length_take, List.length_drop, List.length_cons]; simp only [List.length_cons, List.length_nil]; omega)) fun c8 G8 H8 s8 hc8 S8 => ?_
        have s48 := s5.trans (s6.trans (s7.trans s8))
        have s08 := s34.trans s48
        -- as data
        have ev : (V.str f.hd :: vs).take (j + 1) ++ [v'] ++ (V.str f.hd :: vs).drop (j + 2) = .str f.hd :: (vs.take j ++ v' :: vs.drop (j + 1)) := by simp
        rw [ev] at hc8
        generalize hds : f.kids.map Gm.dat = ds at ed
        have dl : ds.length = f.kids.length := by rw [← hds, List.length_map]
        have hdd : DpAll K G8 (vs.take j ++ v' :: vs.drop (j + 1)) (ds.take j ++ e' :: ds.drop (j + 1)) := by
          have h0 : DpAll K G8 vs ds := by rw [← hds]; exact dpa_same s08 (prd_dpa hk)
          exact dpa_app (dpa_take j h0) (.cons (dp_same s48 hv') (dpa_drop (j + 1) h0))
        have hD : Dp K G8 (.ref c8) (.tuple (.str f.hd :: (ds.take j ++ e' :: ds.drop (j + 1)))) := .tup hc8 (.cons (.str _) hdd)
        have good : ∀ d ∈ ds, fb d = none ∧ d.weight ≤ Wd (f.dep - 1) ∧ Fk (Wd (f.dep - 1)) (f.dep - 1) d := fun d hd => by
          rw [← hds] at hd
          obtain ⟨x, hx, rfl⟩ := List.mem_map.mp hd
          have h1 := dat_fkW hn (Gm.kids_ok ok x hx)
          have h2 := kd x hx
          have h3 := h1.mono (Wd_mono (show x.dep ≤ f.dep - 1 by omega)) (show x.dep ≤ f.dep - 1 by omega)
          exact ⟨(dat_fb hn x (Gm.kids_ok ok x hx)).1, h3.ft.wt, h3⟩
        have ll : (ds.take j ++ e' :: ds.drop (j + 1)).length = ds.length := by
          rw [List.length_append, List.length_take, List.length_cons, List.length_drop]
          omega
        have hpo : partOk (.tuple (.str f.hd :: (ds.take j ++ e' :: ds.drop (j + 1)))) = true := by
          simp only [partOk, ll, dl, hh, if_neg n1, if_neg n2]
          simp
        have hfb2 : fb (.tuple (.str f.hd :: (ds.take j ++ e' :: ds.drop (j + 1)))) = some e := by
          rw [(fb_node hpo ⟨n1, n2⟩).1, fbs_app, fbs_none fun d hd => (good d (List.mem_of_mem_take hd)).1]
          simp only [fbs, hfb]
          rfl
        have hck : Fk (Wd (f.dep - 1) + we) (f.dep - 1 + de) e' := hfk.mono (by have := Wd_mono (show c.dep ≤ f.dep - 1 by omega); omega) (by omega)
        have hfk2 : Fk (Wd f.dep + we) (f.dep + de) (.tuple (.str f.hd :: (ds.take j ++ e' :: ds.drop (j + 1)))) := by
          have h9 := wt_set (k := j) (e := e') (W := Wd (f.dep - 1)) (we := we) (by omega) (fun d hd => (good d hd).2.1) hck.ft.wt
          have h10 := Wd_succ (f.dep - 1) (by have := c.dep_pos; omega)
          rw [show f.dep - 1 + 1 = f.dep by omega] at h10
          have h11 : ds.length * (Wd (f.dep - 1) + 1) ≤ 3 * (Wd (f.dep - 1) + 1) := Nat.mul_le_mul_right _ (by omega)
          have h12 : PyData.weight (.str f.hd) = f.hd.length := by simp only [PyData.weight]; rfl
          have h13 := Fk.tup (w := Wd f.dep + we) (dp := f.dep - 1 + de) (ds := .str f.hd :: (ds.take j ++ e' :: ds.drop (j + 1))) (by simp only [PyData.weightAll] at h9 ⊢; omega) fun d hd => by
            rcases List.mem_cons.mp hd with rfl | hd
            · exact ⟨_, (Fk.lit hch (by omega)).mono (Nat.le_refl _) (Nat.zero_le _)⟩
            · rcases List.mem_append.mp hd with hd | hd
              · exact ⟨_, (good d (List.mem_of_mem_take hd)).2.2.mono (Nat.le_refl _) (Nat.le_add_right _ _)⟩
              · rcases List.mem_cons.mp hd with rfl | hd
                · exact ⟨_, hck⟩
                · exact ⟨_, (good d (List.mem_of_mem_drop hd)).2.2.mono (Nat.le_refl _) (Nat.le_add_right _ _)⟩
          exact h13.mono (Nat.le_refl _) (by have := c.dep_pos; omega)
        exact q _ _ o4 G8 H8 s08 hD hfb2 hfk2 (B4.same s48) S8

end
end K25
set_option Elab.async false
set_option linter.all false
set_option maxRecDepth 100000
set_option maxHeartbeats 4000000
namespace K25
open PySem PySem.Spec PyProof.Rows L2 XL
section
variable {P : Program} {w : World} {K : PySem.W.Frag} {mg : Str → Option Value} {base : Heap}
/-! ### forms of just so many levels -/
def spTower (K : PySem.W.Frag) : Sp := fun vs H Q _ => ∃ (G : Hp) (M : List (Addr × HO)) (b : Addr) (o : HO) (l : Addr) (ns : List Str) (n : Nat), vs = [.ref b, .int (n : Nat), .ref l] ∧ Sep G ((b, o) :: M) H ∧ Bag G o ∧ G l = some (.lst (ns.map V.str)) ∧ 0 < ns.length ∧ ns.length ≤ 100 ∧ NmL ns ∧ 1 ≤ n ∧ n ≤ 10 ∧
  ∀ (v : V) (f : Gm) (o' : HO) (G' H' : Hp), Same G G' → GmAt K G' v f → f.ok ns → f.dep = n → Fk (34 * n) n f.dat → Bag G' o' → Sep G' ((b, o') :: M) H' → Q v H'
theorem get_fk {ns : List Str} (hn : NmL ns) {x : Str} (hx : x ∈ ns) : Fk 13 1 (Gm.dat (.get x)) := dat_fkW hn (f := .get x) hx
theorem two_fk {h : Str} {a b : PyData} {w n : Nat} (hh : (h.cps.toList.all fun c => decide (c < 1114112)) = true) (hl : h.length ≤ 4) (fa : Fk w n a) (fb : Fk 13 1 b) (n1 : 1 ≤ n) : Fk (w + 34) (n + 1) (.tuple [.str h, a, b]) ∧ Fk (w + 34) (n + 1) (.tuple [.str h, b, a]) := by
  have e : PyData.weight (.str h) = h.length := by simp only [PyData.weight]; rfl
  have h1 := fa.ft.wt
  have h2 := fb.ft.wt
  refine ⟨Fk.tup (by simp only [PyData.weightAll]; omega) fun d hd => ?_, Fk.tup (by simp only [PyData.weightAll]; omega) fun d hd => ?_⟩
  · simp only [List.mem_cons, List.not_mem_nil, or_false] at hd
    rcases hd with rfl | rfl | rfl
    · exact ⟨_, (Fk.lit hh (by omega)).mono (Nat.le_refl _) (Nat.zero_le _)⟩
    · exact ⟨_, fa⟩
    · exact ⟨_, fb.mono (Nat.le_refl _) n1⟩
  · simp only [List.mem_cons, List.not_mem_nil, or_false] at hd
    rcases hd with rfl | rfl | rfl
    · exact ⟨_, (Fk.lit hh (by omega)).mono (Nat.le_refl _) (Nat.zero_le _)⟩
    · exact ⟨_, fb.mono (Nat.le_refl _) n1⟩
    · exact ⟨_, fa⟩
theorem three_fk {h : Str} {a b c x y : PyData} {w n : Nat} (hh : (h.cps.toList.all fun c => decide (c < 1114112)) = true) (hl : h.length ≤ 4) (fx : Fk w n x) (fy : Fk 13 1 y) (n1 : 1 ≤ n) (h3 : (a = x ∧ b = y ∧ c = y) ∨ (a = y ∧ b = x ∧ c = y) ∨ (a = y ∧ b = y ∧ c = x)) : Fk (w + 34) (n + 1) (.tuple [.str h, a, b, c]) := by
  have e : PyData.weight (.str h) = h.length := by simp only [PyData.weight]; rfl
  have h1 := fx.ft.wt
  have h2 := fy.ft.wt
  refine Fk.tup ?_ fun d hd => ?_
  · simp only [PyData.weightAll]
    rcases h3 with ⟨rfl, rfl, rfl⟩ | ⟨rfl, rfl, rfl⟩ | ⟨rfl, rfl, rfl⟩ <;> omega
  · have : d = .str h ∨ d = x ∨ d = y := by
      simp only [List.mem_cons, List.not_mem_nil, or_false] at hd
      rcases h3 with ⟨rfl, rfl, rfl⟩ | ⟨rfl, rfl, rfl⟩ | ⟨rfl, rfl, rfl⟩ <;> rcases hd with h | h | h | h <;> simp [h]
    rcases this with rfl | rfl | rfl
    · exact ⟨_, (Fk.lit hh (by omega)).mono (Nat.le_refl _) (Nat.zero_le _)⟩
    · exact ⟨_, fx⟩
    · exact ⟨_, fy.mono (Nat.le_refl _) n1⟩
theorem ok_tower (T : Top K mg w) {k : Nat} (G_choice : FnOk P w K mg base CX0 k T.a_choice T.d_choice ["_law_bag_here", "_law_things"] (spChoice K)) : FnOk P w K mg base CX0 (k + 1) T.a_tower T.d_tower ["_law_bag_here", "_law_levels", "_law_readable"] (spTower K) := by
  refine T.F_tower.ok sc_tower (fun vs H Q E h => ?_) (fun cdv A outer s H vs Q E hr h => ?_)
  · obtain ⟨G, M, b, o, l, ns, n, rfl, _⟩ := h
    rfl
  · obtain ⟨G, M, b, o, l, ns, n, rfl, S, B, hl, x0, x1, hn, n1, n10, q⟩ := h
    refine ⟨_, (pss_cons (ps_set (i := 3) sc_tower.nd rfl (.inl rfl) (pe_tup (pa_cons pe_str (pa_cons (pe_call G_choice (hr.mono (by omega)) (by rfl) T.g_choice T.F_choice.kp T.b_choice .nil pass0 (pa_cons (xv 0) (pa_cons (xv 2) pa_nil))) pa_nil))))
      (pss_cons (ps_for PassesOwn.never rfl (pi_range1 (by rfl) T.m_range (pa_cons (pe_op op_subY (xv 1) pe_int) pa_nil)) (pg_name (i := 4) sc_tower.nd rfl (.inl rfl))
      (pss_cons (ps_set (i := 5) sc_tower.nd rfl (.inl rfl) (pe_tup (pa_cons pe_str (pa_cons (pe_call G_choice (hr.mono (by omega)) (by rfl) T.g_choice T.F_choice.kp T.b_choice .nil pass0 (pa_cons (xv 0) (pa_cons (xv 2) pa_nil))) pa_nil))))
      (pss_cons (ps_set (i := 6) sc_tower.nd rfl (.inl rfl) (pe_lst (pa_cons (pe_tup (pa_cons pe_str (pa_cons (xv 3) (pa_cons (xv 5) pa_nil)))) (pa_cons (pe_tup (pa_cons pe_str (pa_cons (xv 5) (pa_cons (xv 3) pa_nil)))) (pa_cons (pe_tup (pa_cons pe_str (pa_cons (xv 5) (pa_cons (xv 3) pa_nil)))) (pa_cons (pe_tup (pa_cons pe_str (pa_cons (xv 3) (pa_cons (xv 5) (pa_cons (xv 5) pa_nil))))) pa_nil))))))
      (pss_one (ps_set (i := 3) sc_tower.nd rfl (.inl rfl) (pe_call G_choice (hr.mono (by omega)) (by rfl) T.g_choice T.F_choice.kp T.b_choice .nil pass0 (pa_cons (xv 0) (pa_cons (pe_op op_addY (xv 6) (pe_lst (pa_cons (pe_tup (pa_cons pe_str (pa_cons (xv 5) (pa_cons (xv 3) (pa_cons (xv 5) pa_nil))))) (pa_cons (pe_tup (pa_cons pe_str (pa_cons (xv 5) (pa_cons (xv 5) (pa_cons (xv 3) pa_nil))))) pa_nil)))) pa_nil))))))))
      (pss_one (ps_ret (xv 3))))), ?_⟩
    have nml : (ns.map V.str).length = ns.length := List.length_map _
    refine ⟨G, M, b, o, l, _, rfl, S, B, SqL.of hl, by omega, by omega, fun v1 o1 H1 hv1 B1 S1 => ⟨sz, fun t1 nt1 => ?_⟩⟩
    obtain ⟨z1, hz1, rfl⟩ := List.mem_map.mp hv1
    obtain ⟨G1, s1, S2, h1⟩ := Sep.mk (o := .tup [.str "get", .str z1]) S1 nt1
    refine ⟨_, rfl, by omega, by omega, for_range (lo := 0) (n := (((n : Nat) : Int) - 1).toNat) (fun i σ H' => ∃ (v : V) (f : Gm) (y4 y5 y6 : Option V) (o' : HO) (G' : Hp), σ = [some (.ref b), some (.int (n : Nat)), some (.ref l), some v, y4, y5, y6] ∧ Same G1 G' ∧ GmAt K G' v f ∧ f.ok ns ∧ f.dep = i + 1 ∧ Fk (34 * (i + 1)) (i + 1) f.dat ∧ Bag G' o' ∧ Sep G' ((b, o') :: M) H')
      ⟨_, .get z1, _, _, _, o1, G1, rfl, Same.refl _, .get (SqT.of h1), hz1, rfl, (get_fk hn hz1).mono (by omega) (by omega), B1.same s1, S2⟩ (fun i σ H' hi h => ?_) (fun σ H' h => ?_)⟩
    · obtain ⟨v, f, y4, y5, y6, o2, G2, rfl, s2, hf, fo, fd, ffk, B2, S3⟩ := h
      have s02 := s1.trans s2
      refine ⟨G2, M, b, o2, l, _, rfl, S3, B2, SqL.of (s02 _ _ hl), by omega, by omega, fun v3 o3 H3 hv3 B3 S4 => ⟨sz, fun t2 nt2 => ?_⟩⟩
      obtain ⟨z, hz, rfl⟩ := List.mem_map.mp hv3
      obtain ⟨G3, s3, S5, h3⟩ := Sep.mk (o := .tup [.str "get", .str z]) S4 nt2
      have gf := get_fk hn hz
      refine ⟨sz, fun a1 na1 => ?_⟩
      obtain ⟨G4, s4, S6, k1⟩ := Sep.mk (o := .tup [.str "sum", v, .ref t2]) S5 na1
      refine ⟨sz, fun a2 na2 => ?_⟩
      obtain ⟨G5, s5, S7, k2⟩ := Sep.mk (o := .tup [.str "sum", .ref t2, v]) S6 na2
      refine ⟨sz, fun a3 na3 => ?_⟩
      obtain ⟨G6, s6, S8, k3⟩ := Sep.mk (o := .tup [.str "same", .ref t2, v]) S7 na3
      refine ⟨sz, fun a4 na4 => ?_⟩
      obtain ⟨G7, s7, S9, k4⟩ := Sep.mk (o := .tup [.str "pick", v, .ref t2, .ref t2]) S8 na4
      refine ⟨sz, fun L nL => ?_⟩
      obtain ⟨G8, s8, S10, hL⟩ := Sep.mk (o := .lst [.ref a1, .ref a2, .ref a3, .ref a4]) S9 nL
      refine ⟨sz, fun a5 na5 => ?_⟩
      obtain ⟨G9, s9, S11, k5⟩ := Sep.mk (o := .tup [.str "pick", .ref t2, v, .ref t2]) S10 na5
      refine ⟨sz, fun a6 na6 => ?_⟩
      obtain ⟨G10, s10, S12, k6⟩ := Sep.mk (o := .tup [.str "pick", .ref t2, .ref t2, v]) S11 na6
      refine ⟨sz, fun L2 nL2 => ?_⟩
      obtain ⟨G11, s11, S13, hL2⟩ := Sep.mk (o := .lst [.ref a5, .ref a6]) S12 nL2
      refine ⟨_, _, _, _, rfl, rfl, S13.st ((s9.trans (s10.trans s11)) _ _ hL), S13.st hL2, by simp only [List.length_cons, List.length_nil]; exact small (by decide), fun L3 nL3 => ?_⟩
      obtain ⟨G12, s12, S14, hL3⟩ := Sep.mk (o := .lst [.ref a1, .ref a2, .ref a3, .ref a4, .ref a5, .ref a6]) S13 nL3
      have c11 := s11.trans s12
      have c10 := s10.trans c11
      have c9 := s9.trans c10
      have c8 := s8.trans c9
      have c7 := s7.trans c8
      have c6 := s6.trans c7
      have c5 := s5.trans c6
      have c4 := s4.trans c5
      have c3 := s3.trans c4
      have ht : GmAt K G12 (.ref t2) (.get z) := .get (SqT.of (c4 _ _ h3))
      have hf12 := hf.same' c3
      refine ⟨G12, M, b, o3, L3, _, rfl, S14, B3.same c3, SqL.of hL3, by simp only [List.length_cons]; omega, by simp only [List.length_cons, List.length_nil]; decide, fun v5 o5 H5 hv5 B5 S15 => ?_⟩
      have fin : ∀ (g : Gm), GmAt K G12 v5 g → g.ok ns → g.dep = i + 2 → Fk (34 * (i + 1) + 34) (i + 1 + 1) g.dat → ∃ (v : V) (f : Gm) (y4 y5 y6 : Option V) (o' : HO) (G' : Hp), ([some (.ref b), some (.int (n : Nat)), some (.ref l), some v5, some (.int (0 + (i : Nat))), some (.ref t2), some (.ref L)] : List (Option V)) = [some (.ref b), some (.int (n : Nat)), some (.ref l), some v, y4, y5, y6] ∧ Same G1 G' ∧ GmAt K G' v f ∧ f.ok ns ∧ f.dep = i + 1 + 1 ∧ Fk (34 * (i + 1 + 1)) (i + 1 + 1) f.dat ∧ Bag G' o' ∧ Sep G' ((b, o') :: M) H5 :=
        fun g hg go gd gk => ⟨v5, g, _, _, _, o5, G12, rfl, s2.trans c3, hg, go, gd, gk.mono (by omega) (Nat.le_refl _), B5, S15⟩
      have dz : Gm.dep (.get z) = 1 := rfl
      have go : Gm.ok ns (.get z) := hz
      simp only [List.mem_cons, List.not_mem_nil, or_false] at hv5
      rcases hv5 with rfl | rfl | rfl | rfl | rfl | rfl
      · exact fin (.sum f (.get z)) (.sum (SqT.of (c5 _ _ k1)) hf12 ht) ⟨fo, go⟩ (by simp only [Gm.dep]; omega) (two_fk (by decide +kernel) (by decide +kernel) ffk gf (by omega)).1
      · exact fin (.sum (.get z) f) (.sum (SqT.of (c6 _ _ k2)) ht hf12) ⟨go, fo⟩ (by simp only [Gm.dep]; omega) (two_fk (by decide +kernel) (by decide +kernel) ffk gf (by omega)).2
      · exact fin (.same (.get z) f) (.same (SqT.of (c7 _ _ k3)) ht hf12) ⟨go, fo⟩ (by simp only [Gm.dep]; omega) (two_fk (by decide +kernel) (by decide +kernel) ffk gf (by omega)).2
      · exact fin (.pick f (.get z) (.get z)) (.pick (SqT.of (c8 _ _ k4)) hf12 ht ht) ⟨fo, go, go⟩ (by simp only [Gm.dep]; omega) (three_fk (by decide +kernel) (by decide +kernel) ffk gf (by omega) (.inl ⟨rfl, rfl, rfl⟩))
      · exact fin (.pick (.get z) f (.get z)) (.pick (SqT.of (c10 _ _ k5)) ht hf12 ht) ⟨go, fo, go⟩ (by simp only [Gm.dep]; omega) (three_fk (by decide +kernel) (by decide +kernel) ffk gf (by omega) (.inr (.inl ⟨rfl, rfl, rfl⟩)))
      · exact fin (.pick (.get z) (.get z) f) (.pick (SqT.of (c11 _ _ k6)) ht ht hf12) ⟨go, go, fo⟩ (by simp only [Gm.dep]; omega) (three_fk (by decide +kernel) (by decide +kernel) ffk gf (by omega) (.inr (.inr ⟨rfl, rfl, rfl⟩)))
    · obtain ⟨v, f, y4, y5, y6, o2, G2, rfl, s2, hf, fo, fd, ffk, B2, S3⟩ := h
      have e : (((n : Nat) : Int) - 1).toNat + 1 = n := by omega
      rw [e] at fd ffk
      exact q v f o2 G2 _ (s1.trans s2) hf fo fd ffk B2 S3

end
end K25
set_option Elab.async false
set_option linter.all false
set_option maxRecDepth 100000
set_option maxHeartbeats 4000000
namespace K25
open PySem PySem.Spec PyProof.Rows L2 XL
section
variable {P : Program} {w : World} {K : PySem.W.Frag} {mg : Str → Option Value} {base : Heap}
/-! ### what a Key tells of a form -/
def toldK (d : PyData) (z : Option Str) : Str × Str := match due d with
  | some p => ("BadForm", p.shown)
  | none => match z with
    | some z => ("NoName", (PyData.str z).shown)
    | none => ("good", d.shown)
structure FormG (K : PySem.W.Frag) (G : Hp) (v : V) (d : PyData) (z : Option Str) : Prop where
  dp : Dp K G v d
  fk : Fk 4000 60 d
  nm : due d = none → ∃ (f : Gm) (ns : List Str), GmAt K G v f ∧ f.ok ns ∧ NmL ns ∧ ns.length ≤ 100 ∧ f.dep ≤ 5 ∧ z = f.nms.find? fun z => !own z
theorem FormG.same {K : PySem.W.Frag} {G G' : Hp} {v : V} {d : PyData} {z : Option Str} (e : Same G G') (h : FormG K G v d z) : FormG K G' v d z :=
  ⟨dp_same e h.dp, h.fk, fun hd => let ⟨f, ns, h1, h2⟩ := h.nm hd; ⟨f, ns, h1.same' e, h2⟩⟩
mutual
theorem fb_fk {w dp : Nat} : ∀ (d : PyData) (p : PyData), fb d = some p → Fk w dp d → Fk w dp p
  | .none, p, h, k => by simp only [fb, Option.some.injEq] at h; subst h; exact k
  | .bool _, p, h, k => by simp only [fb, Option.some.injEq] at h; subst h; exact k
  | .int _, p, h, k => by simp only [fb, Option.some.injEq] at h; subst h; exact k
  | .str _, p, h, k => by simp only [fb, Option.some.injEq] at h; subst h; exact k
  | .list _, p, h, k => by simp only [fb, Option.some.injEq] at h; subst h; exact k
  | .dict _, p, h, k => by simp only [fb, Option.some.injEq] at h; subst h; exact k
  | .tuple [], p, h, k => by simp only [fb, Option.some.injEq] at h; subst h; exact k
  | .tuple (x :: r), p, h, k => by
    simp only [fb] at h
    split at h
    · split at h
      · exact nomatch h
      · refine fbs_fk r p h fun d hd => ?_
        have hm := List.mem_cons_of_mem x hd
        have c1 := k.ft.cl
        have c2 := k.ft.sh
        have c3 := k.ft.ls
        have c4 := k.ft.dp
        have c5 := k.ft.wt
        have c6 := k.ok
        simp only [PyData.canLay0] at c1
        simp only [PyData.showable] at c2
        simp only [PyData.leavesShort] at c3
        simp only [PyData.depth] at c4
        simp only [PyData.weight] at c5
        simp only [okR] at c6
        obtain ⟨a1, a2, _, a4, a5⟩ := okd_all hm c6 c2
        exact ⟨⟨lay_mem hm c1, a2, short_mem hm c3, by omega, by omega⟩, a1⟩
    · simp only [Option.some.injEq] at h
      subst h
      exact k
theorem fbs_fk {w dp : Nat} : ∀ (r : List PyData) (p : PyData), fbs r = some p → (∀ d ∈ r, Fk w dp d) → Fk w dp p
  | [], p, h, _ => by simp only [fbs] at h; exact nomatch h
  | x :: r, p, h, k => by
    simp only [fbs] at h
    split at h
    · rename_i q hq
      simp only [Option.some.injEq] at h
      subst h
      exact fb_fk x q hq (k x List.mem_cons_self)
    · exact fbs_fk r p h fun d hd => k d (List.mem_cons_of_mem _ hd)
theorem lay_mem : ∀ {l : List PyData} {d : PyData}, d ∈ l → PyData.canLayAll0 l = true → d.canLay0 = true
  | x :: r, d, h, h1 => by
    simp only [PyData.canLayAll0, Bool.and_eq_true] at h1
    rcases List.mem_cons.mp h with rfl | h
    · exact h1.1
    · exact lay_mem h h1.2
theorem short_mem : ∀ {l : List PyData} {d : PyData}, d ∈ l → PyData.leavesShortAll 8 l = true → d.leavesShort 8 = true
  | x :: r, d, h, h1 => by
    simp only [PyData.leavesShortAll, Bool.and_eq_true] at h1
    rcases List.mem_cons.mp h with rfl | h
    · exact h1.1
    · exact short_mem h h1.2
end
theorem due_fk {d p : PyData} (h : due d = some p) (k : Fk 4000 60 d) : Fk 4000 60 p := by
  unfold due at h
  split at h
  · rename_i q hq
    cases h
    exact fb_fk d _ hq k
  · split at h
    · exact nomatch h
    · cases h
      exact k
theorem kit_two {K : PySem.W.Frag} {t a b : Value} (h1 : PySem.W.kitOne K t a = some false) (h2 : PySem.W.kitOne K t b = some false) : PySem.W.kitAny K t [a, b] = some false := by
  simp only [PySem.W.kitAny, h1, h2]
theorem rep_ok {K : PySem.W.Frag} {H : Hp} {Q : VK} {v : V} {d : PyData} (hv : Dp K H v d) (k : Fk 4000 60 d) (q : Q (.str d.shown) H) : rRepr K [v] H Q := by
  have s := k.ft.shw (by decide) (by decide)
  exact ⟨v, d, rfl, hv, s.sh, s.nd, s.dp, s.ln, q⟩
def spKeyTold (K : PySem.W.Frag) : Sp := fun vs H Q _ => ∃ (G : Hp) (M : List (Addr × HO)) (v : V) (d : PyData) (z : Option Str), vs = [v] ∧ Sep G M H ∧ FormG K G v d z ∧
  ∀ (t : Addr) (G' H' : Hp), Same G G' → SqT K G' t [.str (toldK d z).1, .str (toldK d z).2] → Sep G' M H' → Q (.ref t) H'
theorem ok_key_told (T : Top K mg w) (pf : PySem.XExc.PF P T.x_file) {k : Nat} (G_Key_init : FnOk P w K mg base (L2.CX P w) k T.a_Key_init T.d_Key_init ["self", "form"] (spKInitG K T.C_Key T.C_BadForm T.C_NoName)) (G_Key_parts : FnOk P w K mg base CX0 k T.a_Key_parts T.d_Key_parts ["self"] (spKParts T.C_Key)) :
    FnG P w K mg base CX0 (k + 3) T.a_key_told T.d_key_told ["_law_form_here"] (spKeyTold K) := by
  refine okG T.F_key_told sc_key_told (fun vs H Q E h => ?_) (fun cdv A outer s H vs Q E hr hg h => ?_)
  · obtain ⟨G, M, v, d, z, rfl, _⟩ := h
    rfl
  · obtain ⟨G, M, v, d, z, rfl, S, hf, q⟩ := h
    refine ⟨_, (pss_cons (ps_try_as (i := 2) (Wout := fun _ _ _ _ => False) rfl rfl sc_key_told.nd rfl rfl ⟨rfl, by decide, Or.inl T.g_ScreenError⟩ takes0
      (fun W pn xe tk _ => (pss_one (ps_set (i := 1) sc_key_told.nd rfl (.inl rfl) (pe_makeT T.mk_Key G_Key_init (hr.mono (by omega)) (by rfl) T.g_Key T.b_Key_init .nil (fun σ => passAt tk σ) (pa_cons (xv 0) pa_nil)))))
      (fun a oe cls d pn hz hf => (pss_cons (xs_if (PW.pt (xw_and (xt_truK K (pe_callB (call_isX hz hf) (by rfl) T.m_isinstance (by decide +kernel) (pa_cons (xv 2) (pa_cons (pe_glob (v := .ref T.C_BadForm) (by rfl) T.g_BadForm rfl) pa_nil)))) (xw_and (xt_truK K (pe_callB (call_isX hz hf) (by rfl) T.m_isinstance (by decide +kernel) (pa_cons (xv 2) (pa_cons (pe_bltn (v := .ty "ValueError") (by rfl) T.m_ValueError (by decide +kernel) rfl) pa_nil)))) (pw_and1 (pt_not (xt_truK K (pe_callB (call_isX hz hf) (by rfl) T.m_isinstance (by decide +kernel) (pa_cons (xv 2) (pa_cons (pe_tup (pa_cons (pe_glob (v := .ref T.C_NoName) (by rfl) T.g_NoName rfl) (pa_cons (pe_glob (v := .ref T.C_BadRow) (by rfl) T.g_BadRow rfl) pa_nil))) pa_nil)))))))))
      (pss_one (ps_ret (pe_tup (pa_cons pe_str (pa_cons (pe_callB (call_reprG K hg (by have z := u70 hr; exact z)) (by rfl) T.m_repr (by decide +kernel) (pa_cons (pe_xf T.xf_BadForm (T.x_BadForm P pf).noN hz hf (xv 2)) pa_nil)) pa_nil)))))
      pss_nil)
      (pss_cons (xs_if (PW.pt (xw_and (xt_truK K (pe_callB (call_isX hz hf) (by rfl) T.m_isinstance (by decide +kernel) (pa_cons (xv 2) (pa_cons (pe_glob (v := .ref T.C_NoName) (by rfl) T.g_NoName rfl) pa_nil)))) (xw_and (xt_truK K (pe_callB (call_isX hz hf) (by rfl) T.m_isinstance (by decide +kernel) (pa_cons (xv 2) (pa_cons (pe_bltn (v := .ty "ValueError") (by rfl) T.m_ValueError (by decide +kernel) rfl) pa_nil)))) (pw_and1 (pt_not (xt_truK K (pe_callB (call_isX hz hf) (by rfl) T.m_isinstance (by decide +kernel) (pa_cons (xv 2) (pa_cons (pe_tup (pa_cons (pe_glob (v := .ref T.C_BadForm) (by rfl) T.g_BadForm rfl) (pa_cons (pe_glob (v := .ref T.C_BadRow) (by rfl) T.g_BadRow rfl) pa_nil))) pa_nil)))))))))
      (pss_one (ps_ret (pe_tup (pa_cons pe_str (pa_cons (pe_callB (call_reprG K hg (by have z := u70 hr; exact z)) (by rfl) T.m_repr (by decide +kernel) (pa_cons (pe_xf T.xf_NoName (T.x_NoName P pf).noN hz hf (xv 2)) pa_nil)) pa_nil)))))
      pss_nil)
      (pss_one (ps_ret (pe_tup (pa_cons pe_str (pa_cons pe_str pa_nil)))))))))
      (pss_one (ps_ret (pe_tup (pa_cons pe_str (pa_cons (pe_callB (call_reprG K hg (by have z := u70 hr; exact z)) (by rfl) T.m_repr (by decide +kernel) (pa_cons (pe_prop (xv 1) T.cl_Key T.pr_Key_parts G_Key_parts (hr.mono (by omega)) T.b_Key_parts .nil pass0 rfl) pa_nil)) pa_nil)))))), ?_⟩
    obtain ⟨okd, nd⟩ := hf.fk.okd (Nat.le_refl _) (by decide)
    refine fun x dx nx ndx ne => ?_
    refine ⟨G, _, x, dx, v, d, rfl, S.new2 nx ndx ne, hf.dp, okd, nd, fun p hp u G1 s1 hu => ?_, fun hd => ?_⟩
    · refine fun GE HE N dd sE SE ndd => ?_
      have S1 := SE.sub (M' := M) ((List.sublist_cons_self _ _).trans (List.sublist_append_right N _))
      have S2 := S1.newG (o := .xd [("part", u)]) ndd
      have s2 := S1.grow (o := .xd [("part", u)]) ndd
      have hd1 : (upd GE dd (.xd [("part", u)])) dd = some (.xd [("part", u)]) := upd_same
      refine ⟨true, T.em_BadForm_ScreenError, fun _ a na => ?_, tt⟩
      refine ⟨T.C_BadForm, dd, _, true, rfl, rfl, S2.st hd1, T.xc_BadForm, .inl ⟨_, _, rfl, fun u r => r, if_pos (beq_self_eq_true _)⟩, fun _ => ?_, tt⟩
      refine ⟨T.C_BadForm, dd, _, true, rfl, rfl, S2.st hd1, T.xc_BadForm, .inl ⟨_, _, rfl, fun u r => r, T.kv_BadForm⟩, fun _ => ?_, tt⟩
      refine ⟨sz, fun ct nct => ?_⟩
      obtain ⟨G3, s3, S3, h3⟩ := Sep.mk (o := .tup [.ref T.C_NoName, .ref T.C_BadRow]) S2 nct
      have hd3 := s3 _ _ hd1
      refine ⟨T.C_BadForm, dd, _, false, rfl, rfl, S3.st hd3, T.xc_BadForm, .inr ⟨ct, _, _, rfl, S3.st h3, .cons (.cons .nil), kit_two T.ki_BadForm_NoName T.ki_BadForm_BadRow⟩, fun _ => ?_, tt⟩
      have sG : Same G G3 := (s1.trans sE).trans (s2.trans s3)
      refine ⟨rfl, rfl, dd, [("part", u)], u, rfl, S3.st hd3, lk_eq, ?_⟩
      unfold tNil
      show rRepr K [u] _ _
      refine rep_ok (dp_same S3.1 (dp_same (sE.trans (s2.trans s3)) hu)) (due_fk hp hf.fk) ?_
      refine ⟨sz, fun t nt => ?_⟩
      obtain ⟨G4, s4, S4, ht⟩ := Sep.mk (o := .tup [.str "BadForm", .str p.shown]) S3 nt
      have e : toldK d z = (("BadForm" : Str), p.shown) := by
        unfold toldK
        rw [hp]
      refine q t G4 _ (sG.trans s4) ?_ S4
      rw [e]
      exact SqT.of ht
    · obtain ⟨f, ns, h1, h2, h3, h4, h5, h6⟩ := hf.nm hd
      refine ⟨f, ns, h1, h2, h4, h5, h3.lt, fun y hy => ?_, fun hz G1 H1 s1 S1 => ⟨rfl, ?_⟩⟩
      · refine fun GE HE N dd sE SE ndd => ?_
        have S1 := SE.sub (M' := M) ((List.sublist_cons_self _ _).trans (List.sublist_append_right N _))
        have S2 := S1.newG (o := .xd [("name", .str y)]) ndd
        have s2 := S1.grow (o := .xd [("name", .str y)]) ndd
        have hd1 : (upd GE dd (.xd [("name", .str y)])) dd = some (.xd [("name", .str y)]) := upd_same
        refine ⟨true, T.em_NoName_ScreenError, fun _ a na => ?_, tt⟩
        refine ⟨T.C_NoName, dd, _, false, rfl, rfl, S2.st hd1, T.xc_NoName, .inl ⟨_, _, rfl, fun u r => r, T.ki_NoName_BadForm⟩, ff, fun _ => ?_⟩
        refine ⟨ff, fun _ => ?_⟩
        refine ⟨T.C_NoName, dd, _, true, rfl, rfl, S2.st hd1, T.xc_NoName, .inl ⟨_, _, rfl, fun u r => r, if_pos (beq_self_eq_true _)⟩, fun _ => ?_, tt⟩
        refine ⟨T.C_NoName, dd, _, true, rfl, rfl, S2.st hd1, T.xc_NoName, .inl ⟨_, _, rfl, fun u r => r, T.kv_NoName⟩, fun _ => ?_, tt⟩
        refine ⟨sz, fun ct nct => ?_⟩
        obtain ⟨G3, s3, S3, h3'⟩ := Sep.mk (o := .tup [.ref T.C_BadForm, .ref T.C_BadRow]) S2 nct
        have hd3 := s3 _ _ hd1
        refine ⟨T.C_NoName, dd, _, false, rfl, rfl, S3.st hd3, T.xc_NoName, .inr ⟨ct, _, _, rfl, S3.st h3', .cons (.cons .nil), kit_two T.ki_NoName_BadForm T.ki_NoName_BadRow⟩, fun _ => ?_, tt⟩
        have sG : Same G G3 := sE.trans (s2.trans s3)
        refine ⟨rfl, rfl, dd, _, _, rfl, S3.st hd3, lk_eq, ?_⟩
        unfold tNil
        show rRepr K [.str y] _ _
        have yn := h3.lt y (Gm.nms_ok h2 y (List.mem_of_find?_eq_some hy))
        refine rep_ok (.str y) ((Fk.name yn).mono (by decide) (by decide)) ?_
        refine ⟨sz, fun t nt => ?_⟩
        obtain ⟨G4, s4, S4, ht⟩ := Sep.mk (o := .tup [.str "NoName", .str (PyData.str y).shown]) S3 nt
        have e : toldK d z = (("NoName" : Str), (PyData.str y).shown) := by
          unfold toldK
          rw [hd, h6, hy]
        refine q t G4 _ (sG.trans s4) ?_ S4
        rw [e]
        exact SqT.of ht
      · refine ⟨x, dx, _, rfl, S1.hd, x, dx, v, rfl, S1.hd, ?_⟩
        unfold tNil
        show rRepr K [v] _ _
        refine rep_ok (dp_same S1.1 (dp_same s1 hf.dp)) hf.fk ?_
        refine ⟨sz, fun t nt => ?_⟩
        obtain ⟨G2, s2, S2, ht⟩ := Sep.mk (o := .tup [.str "good", .str d.shown]) S1.drop nt
        have e : toldK d z = (("good" : Str), d.shown) := by
          unfold toldK
          rw [hd, h6, hz]
        refine q t G2 _ (s1.trans s2) ?_ S2.drop
        rw [e]
        exact SqT.of ht

end
end K25
set_option Elab.async false
set_option linter.all false
set_option maxRecDepth 100000
set_option maxHeartbeats 4000000
namespace K25
open PySem PySem.Spec PyProof.Rows L2 XL
section
variable {P : Program} {w : World} {K : PySem.W.Frag} {mg : Str → Option Value} {base : Heap}
/-! ### reprs are texts of code points -/
def lowS (x : Str) : Prop := ∀ c ∈ x.cps.toList, c < 1114112
theorem hex_low {n : Nat} {c k : Nat} (h : k ∈ List.replicate (n - ((Nat.toDigits 16 c).map Char.toNat).length) 48 ++ (Nat.toDigits 16 c).map Char.toNat) : k < 1114112 := by
  rcases List.mem_append.mp h with h | h
  · rw [(List.mem_replicate.mp h).2]
    decide
  · obtain ⟨d, _, rfl⟩ := List.mem_map.mp h
    have := d.valid
    rcases this with h | h
    · show d.val.toNat < 1114112
      have : d.val.toNat < 0xd800 := h
      omega
    · exact h.2
theorem char_low {q c k : Nat} (hq : q < 1114112) (hc : c < 1114112) (h : k ∈ PySem.Builtin.Str.reprChar q c) : k < 1114112 := by
  unfold PySem.Builtin.Str.reprChar at h
  dsimp only at h
  have two : ∀ a b : Nat, a < 1114112 → b < 1114112 → k ∈ [a, b] → k < 1114112 := fun a b ha hb hk => by
    simp only [List.mem_cons, List.not_mem_nil, or_false] at hk
    rcases hk with rfl | rfl <;> assumption
  split at h
  · exact two _ _ (by decide) hc h
  split at h
  · exact two _ _ (by decide) (by decide) h
  split at h
  · exact two _ _ (by decide) (by decide) h
  split at h
  · exact two _ _ (by decide) (by decide) h
  split at h
  · rw [List.mem_singleton.mp h]
    exact hc
  split at h
  · rcases List.mem_append.mp h with h | h
    · exact two _ _ (by decide) (by decide) h
    · exact hex_low h
  split at h
  · rcases List.mem_append.mp h with h | h
    · exact two _ _ (by decide) (by decide) h
    · exact hex_low h
  · rcases List.mem_append.mp h with h | h
    · exact two _ _ (by decide) (by decide) h
    · exact hex_low h
theorem repr_low {x : Str} (h : lowS x) : lowS (reprText x) := by
  have hq : reprQuote x < 1114112 := by
    unfold reprQuote
    split <;> decide
  have fold : ∀ (l : List Nat) (acc : Array Nat), (∀ c ∈ l, c < 1114112) → (∀ c ∈ acc.toList, c < 1114112) → ∀ c ∈ (l.foldl (fun out c => out ++ (PySem.Builtin.Str.reprChar (reprQuote x) c).toArray) acc).toList, c < 1114112 := fun l => by
    induction l with
    | nil => intro acc _ h; exact h
    | cons y r ih =>
      intro acc h1 h2
      refine ih _ (fun c hc => h1 c (List.mem_cons_of_mem _ hc)) fun c hc => ?_
      rw [Array.toList_append] at hc
      rcases List.mem_append.mp hc with hc | hc
      · exact h2 c hc
      · exact char_low hq (h1 y List.mem_cons_self) hc
  intro c hc
  unfold reprText at hc
  rw [Array.toList_push] at hc
  rcases List.mem_append.mp hc with hc | hc
  · rw [← Array.foldl_toList] at hc
    refine fold _ _ h (fun c hc => ?_) c hc
    rw [List.mem_singleton.mp hc]
    exact hq
  · rw [List.mem_singleton.mp hc]
    exact hq
theorem low_lit {z : Str} (h : (z.cps.toList.all fun c => decide (c < 1114112)) = true) : lowS z := fun c hc => of_decide_eq_true (List.all_eq_true.mp h c hc)
theorem low_app {a b : Str} (ha : lowS a) (hb : lowS b) : lowS (a ++ b) := fun c hc => by
  rcases mem_cps_append.mp hc with h | h
  · exact ha c h
  · exact hb c h
theorem low_join {ts : List Str} (h : ∀ t ∈ ts, lowS t) : lowS (Str.join ", " ts) := fun c hc => by
  rcases (mem_join _ c ts).mp hc with ⟨t, ht, hc⟩ | ⟨_, hc⟩
  · exact h t ht c hc
  · exact low_lit (z := ", ") (by decide +kernel) c hc
mutual
theorem shown_low : ∀ d : PyData, d.canLay0 = true → d.hasDict = false → lowS d.shown
  | .none, _, _ => fun c hc => by
    have := (mem_shown_none c).mp hc
    simp only [List.mem_cons, List.not_mem_nil, or_false] at this
    omega
  | .bool b, _, _ => fun c hc => by
    have := (mem_shown_bool c b).mp hc
    cases b <;> simp at this <;> omega
  | .int i, _, _ => fun c hc => by
    refine Decidable.of_not_not fun hn => ?_
    exact shown_int_free' ⟨by omega, .inr (by omega)⟩ i hc
  | .str x, h, _ => by
    simp only [PyData.shown]
    simp only [PyData.canLay0] at h
    refine repr_low fun c hc => ?_
    unfold PyData.strOk at h
    rw [← Array.all_toList, List.all_eq_true] at h
    exact of_decide_eq_true (h c hc)
  | .list xs, h, h2 => by
    simp only [PyData.canLay0] at h
    simp only [PyData.hasDict] at h2
    have := shownAll_low xs h h2
    simp only [PyData.shown]
    rw [listText_eq_join]
    exact low_app (low_app (low_lit (by decide +kernel)) (low_join this)) (low_lit (by decide +kernel))
  | .tuple xs, h, h2 => by
    simp only [PyData.canLay0] at h
    simp only [PyData.hasDict] at h2
    have := shownAll_low xs h h2
    simp only [PyData.shown]
    unfold tupleText
    refine low_app (low_app (low_lit (by decide +kernel)) (low_join this)) ?_
    split
    · exact low_lit (by decide +kernel)
    · exact low_lit (by decide +kernel)
  | .dict _, _, h2 => by simp [PyData.hasDict] at h2
theorem shownAll_low : ∀ xs : List PyData, PyData.canLayAll0 xs = true → PyData.hasDictAll xs = false → ∀ t ∈ PyData.shownAll xs, lowS t
  | [], _, _ => fun t ht => by simp only [PyData.shownAll] at ht; exact nomatch ht
  | x :: r, h, h2 => fun t ht => by
    simp only [PyData.canLayAll0, Bool.and_eq_true] at h
    simp only [PyData.hasDictAll, Bool.or_eq_false_iff] at h2
    simp only [PyData.shownAll, List.mem_cons] at ht
    rcases ht with rfl | ht
    · exact shown_low x h.1 h2.1
    · exact shownAll_low r h.2 h2.2 t ht
end
theorem low_ok {x : Str} (h : lowS x) : PyData.canLay0 (.str x) = true := by
  simp only [PyData.canLay0]
  unfold PyData.strOk
  rw [← Array.all_toList, List.all_eq_true]
  exact fun c hc => decide_eq_true (h c hc)

end
end K25
set_option Elab.async false
set_option linter.all false
set_option maxRecDepth 100000
set_option maxHeartbeats 4000000
namespace K25
open PySem PySem.Spec PyProof.Rows L2 XL
section
variable {P : Program} {w : World} {K : PySem.W.Frag} {mg : Str → Option Value} {base : Heap}
/-! ### the law's forms -/
theorem fk_int : Fk 9 0 (.int 3) ∧ Fk 9 0 (.int 10) ∧ Fk 9 0 (.int (-1)) ∧ Fk 9 0 (.int 1) ∧ Fk 9 0 (.int 2) ∧ Fk 9 0 (.int 7) ∧ Fk 9 0 .none ∧ Fk 9 0 (.bool true) :=
  ⟨⟨⟨by decide +kernel, by decide +kernel, by decide +kernel, by decide +kernel, by decide +kernel⟩, by decide +kernel⟩, ⟨⟨by decide +kernel, by decide +kernel, by decide +kernel, by decide +kernel, by decide +kernel⟩, by decide +kernel⟩, ⟨⟨by decide +kernel, by decide +kernel, by decide +kernel, by decide +kernel, by decide +kernel⟩, by decide +kernel⟩, ⟨⟨by decide +kernel, by decide +kernel, by decide +kernel, by decide +kernel, by decide +kernel⟩, by decide +kernel⟩, ⟨⟨by decide +kernel, by decide +kernel, by decide +kernel, by decide +kernel, by decide +kernel⟩, by decide +kernel⟩, ⟨⟨by decide +kernel, by decide +kernel, by decide +kernel, by decide +kernel, by decide +kernel⟩, by decide +kernel⟩, ⟨⟨by decide +kernel, by decide +kernel, by decide +kernel, by decide +kernel, by decide +kernel⟩, by decide +kernel⟩, ⟨⟨by decide +kernel, by decide +kernel, by decide +kernel, by decide +kernel, by decide +kernel⟩, by decide +kernel⟩⟩
theorem fk_str {z : Str} (h : (z.cps.toList.all fun c => decide (c < 1114112)) = true) (l : z.length ≤ 9) : Fk 9 0 (.str z) := (Fk.lit h (by omega)).mono l (Nat.le_refl _)
def Lt9 (g d : PyData) : Prop := d = g ∨ Fk 9 0 d
theorem odd_tup {g : PyData} {w dp : Nat} (fg : Fk w dp g) {es : List PyData} (h : ∀ e ∈ es, Lt9 g e) (l : es.length ≤ 4) : Fk (4 * (w + 10)) (dp + 1) (.tuple es) := by
  have h2 : ∀ e ∈ es, Fk (w + 9) dp e := fun e he => by
    rcases h e he with rfl | h
    · exact fg.mono (by omega) (Nat.le_refl _)
    · exact h.mono (by omega) (Nat.zero_le _)
  have h3 := weightAll_le (n := w + 9) (xs := es) fun e he => (h2 e he).ft.wt
  have h4 : es.length * (w + 9 + 1) ≤ 4 * (w + 9 + 1) := Nat.mul_le_mul_right _ l
  exact Fk.tup (by omega) fun e he => ⟨_, h2 e he⟩
theorem odd_lst {w dp : Nat} {es : List PyData} (h : ∀ e ∈ es, Fk 9 0 e) (l : es.length ≤ 2) (p : es.all plainD = true) : Fk (4 * (w + 10)) (dp + 1) (.list es) := by
  have h3 := weightAll_le (n := 9) (xs := es) fun e he => (h e he).ft.wt
  have h4 : es.length * (9 + 1) ≤ 2 * (9 + 1) := Nat.mul_le_mul_right _ l
  refine ⟨(Fit.lst (w := 4 * (w + 10)) (dp := 0) (by omega) fun e he => ⟨_, (h e he).ft⟩).mono (Nat.le_refl _) (by omega), ?_⟩
  simp only [okR]
  exact p
theorem odds_fk {g : PyData} {w dp : Nat} (fg : Fk w dp g) : ∀ d ∈ odds g, Fk (4 * (w + 10)) (dp + 1) d := by
  obtain ⟨i3, i10, im, i1, i2, i7, nn, bt⟩ := fk_int
  have at9 : ∀ {d : PyData}, Fk 9 0 d → Fk (4 * (w + 10)) (dp + 1) d := fun h => h.mono (by omega) (Nat.zero_le _)
  have S : ∀ z : Str, (z.cps.toList.all fun c => decide (c < 1114112)) = true → z.length ≤ 9 → Lt9 g (.str z) := fun z h l => .inr (fk_str h l)
  have L0 : ∀ e ∈ ([] : List PyData), Lt9 g e := fun _ h => nomatch h
  have LC : ∀ {e : PyData} {r : List PyData}, Lt9 g e → (∀ x ∈ r, Lt9 g x) → ∀ x ∈ e :: r, Lt9 g x := fun h1 h2 x hx => by
    rcases List.mem_cons.mp hx with rfl | hx
    · exact h1
    · exact h2 x hx
  have GG : Lt9 g g := .inl rfl
  intro d hd
  simp only [odds, List.mem_cons, List.not_mem_nil, or_false] at hd
  rcases hd with rfl | rfl | rfl | rfl | rfl | rfl | rfl | rfl | rfl | rfl | rfl | rfl | rfl | rfl | rfl | rfl | rfl | rfl | rfl | rfl | rfl | rfl | rfl | rfl | rfl | rfl | rfl | rfl | rfl | rfl
  · exact at9 nn
  · exact at9 i3
  · exact at9 (fk_str (by decide +kernel) (by decide +kernel))
  · exact odd_tup fg L0 (by decide)
  · exact odd_tup fg (LC (S _ (by decide +kernel) (by decide +kernel)) L0) (by simp)
  · exact odd_tup fg (LC (S _ (by decide +kernel) (by decide +kernel)) (LC (.inr i10) L0)) (by simp)
  · exact odd_tup fg (LC (S _ (by decide +kernel) (by decide +kernel)) (LC (.inr im) L0)) (by simp)
  · exact odd_tup fg (LC (S _ (by decide +kernel) (by decide +kernel)) (LC (.inr bt) L0)) (by simp)
  · exact odd_tup fg (LC (S _ (by decide +kernel) (by decide +kernel)) (LC (.inr nn) L0)) (by simp)
  · exact odd_tup fg (LC (S _ (by decide +kernel) (by decide +kernel)) (LC (S _ (by decide +kernel) (by decide +kernel)) L0)) (by simp)
  · exact odd_tup fg (LC (S _ (by decide +kernel) (by decide +kernel)) (LC (.inr i1) (LC (.inr i2) L0))) (by simp)
  · exact odd_tup fg (LC (S _ (by decide +kernel) (by decide +kernel)) L0) (by simp)
  · exact odd_tup fg (LC (S _ (by decide +kernel) (by decide +kernel)) (LC (S _ (by decide +kernel) (by decide +kernel)) L0)) (by simp)
  · exact odd_tup fg (LC (S _ (by decide +kernel) (by decide +kernel)) (LC (S _ (by decide +kernel) (by decide +kernel)) L0)) (by simp)
  · exact odd_tup fg (LC (S _ (by decide +kernel) (by decide +kernel)) (LC (S _ (by decide +kernel) (by decide +kernel)) L0)) (by simp)
  · exact odd_tup fg (LC (S _ (by decide +kernel) (by decide +kernel)) (LC (.inr i7) L0)) (by simp)
  · exact odd_tup fg (LC (S _ (by decide +kernel) (by decide +kernel)) (LC (.inr nn) L0)) (by simp)
  · exact odd_tup fg (LC (S _ (by decide +kernel) (by decide +kernel)) (LC (S _ (by decide +kernel) (by decide +kernel)) L0)) (by simp)
  · exact odd_tup fg (LC (S _ (by decide +kernel) (by decide +kernel)) (LC (S _ (by decide +kernel) (by decide +kernel)) (LC (S _ (by decide +kernel) (by decide +kernel)) L0))) (by simp)
  · exact odd_tup fg (LC (S _ (by decide +kernel) (by decide +kernel)) (LC (S _ (by decide +kernel) (by decide +kernel)) L0)) (by simp)
  · exact odd_tup fg (LC (S _ (by decide +kernel) (by decide +kernel)) (LC GG L0)) (by simp)
  · exact odd_tup fg (LC (S _ (by decide +kernel) (by decide +kernel)) (LC GG (LC GG (LC GG L0)))) (by simp)
  · exact odd_tup fg (LC (S _ (by decide +kernel) (by decide +kernel)) (LC GG L0)) (by simp)
  · exact odd_tup fg (LC (S _ (by decide +kernel) (by decide +kernel)) (LC GG (LC GG (LC GG L0)))) (by simp)
  · exact odd_tup fg (LC (S _ (by decide +kernel) (by decide +kernel)) (LC GG (LC GG L0))) (by simp)
  · exact odd_tup fg (LC (S _ (by decide +kernel) (by decide +kernel)) (LC GG (LC GG L0))) (by simp)
  · exact odd_tup fg (LC (.inr i7) L0) (by simp)
  · exact odd_tup fg (LC (.inr nn) (LC GG L0)) (by simp)
  · refine odd_lst (fun e he => ?_) (by simp) (by decide +kernel)
    simp only [List.mem_cons, List.not_mem_nil, or_false] at he
    rcases he with rfl | rfl
    · exact fk_str (by decide +kernel) (by decide +kernel)
    · exact i3
  · refine odd_lst (fun e he => ?_) (by simp) (by decide +kernel)
    simp only [List.mem_cons, List.not_mem_nil, or_false] at he
    rcases he with rfl | rfl
    · exact fk_str (by decide +kernel) (by decide +kernel)
    · exact fk_str (by decide +kernel) (by decide +kernel)
def Wn (K : PySem.W.Frag) (G : Hp) (v : V) (x : PyData × Option Str) : Prop := ∃ (t r : Addr) (u : V), v = .ref t ∧ G t = some (.tup [u, .ref r]) ∧ FormG K G u x.1 x.2 ∧ SqT K G r [.str (toldK x.1 x.2).1, .str (toldK x.1 x.2).2]
theorem Wn.same {K : PySem.W.Frag} {G G' : Hp} (e : Same G G') {v : V} {x : PyData × Option Str} (h : Wn K G v x) : Wn K G' v x := by
  obtain ⟨t, r, u, h1, h2, h3, h4⟩ := h
  exact ⟨t, r, u, h1, e _ _ h2, h3.same e, same_t e h4⟩
theorem told_low {d : PyData} {z : Option Str} (k : Fk 4000 60 d) (hz : ∀ y, z = some y → Lt 1 8 y) : lowS (toldK d z).1 ∧ lowS (toldK d z).2 := by
  have sl : ∀ {p : PyData}, Fk 4000 60 p → lowS p.shown := fun h => shown_low _ h.ft.cl (PyData.hasDict_of_canLay _ h.ft.cl)
  unfold toldK
  cases hd : due d with
  | some p => exact ⟨low_lit (z := "BadForm") (by decide +kernel), sl (due_fk hd k)⟩
  | none =>
    cases z with
    | some y => exact ⟨low_lit (z := "NoName") (by decide +kernel), sl ((Fk.name (hz y rfl)).mono (by decide) (by decide))⟩
    | none => exact ⟨low_lit (z := "good") (by decide +kernel), sl k⟩
theorem own_none {f : Gm} {ns : List Str} (ok : f.ok ns) (h : ∀ z ∈ ns, own z = true) : (f.nms.find? fun z => !own z) = none := List.find?_eq_none.mpr fun z hz e => by
  rw [h z (Gm.nms_ok ok z hz)] at e
  exact nomatch e
theorem due_gm {f : Gm} {ns : List Str} (ok : f.ok ns) (hn : NmL ns) : due f.dat = if f.dep ≤ 5 then none else some f.dat := by
  obtain ⟨h1, h2⟩ := dat_fb hn f ok
  unfold due
  rw [h1, h2]
def ia : List Str := ["item", "at"]
theorem ia_ok : NmL ia := ⟨fun z hz => by
  simp only [ia, List.mem_cons, List.not_mem_nil, or_false] at hz
  rcases hz with rfl | rfl
  · exact ⟨by decide +kernel, by decide +kernel, by decide +kernel⟩
  · exact ⟨by decide +kernel, by decide +kernel, by decide +kernel⟩⟩
theorem ia_own : ∀ z ∈ ia, own z = true := fun z hz => by
  simp only [ia, List.mem_cons, List.not_mem_nil, or_false] at hz
  rcases hz with rfl | rfl
  · exact decide_eq_true (.inl rfl)
  · exact decide_eq_true (.inr rfl)
theorem told_pair {d : PyData} {z : Option Str} (k : Fk 4000 60 d) (hz : ∀ y, z = some y → Lt 1 8 y) : (PyData.tuple [.str (toldK d z).1, .str (toldK d z).2]).canLay0 = true ∧ (PyData.tuple [.str (toldK d z).1, .str (toldK d z).2]).depth ≤ 190 := by
  obtain ⟨l1, l2⟩ := told_low k hz
  refine ⟨?_, ?_⟩
  · simp only [PyData.canLay0]
    exact layAll fun d hd => by
      simp only [List.mem_cons, List.not_mem_nil, or_false] at hd
      rcases hd with rfl | rfl
      · exact low_ok l1
      · exact low_ok l2
  · simp only [PyData.depth, PyData.depthAll]
    omega
def mx (z1 z2 : Str) : List Str := ["item", z1, "at", z2]
def i3 (z1 : Str) : List Str := ["item", "at", z1]
theorem fk_shw {d : PyData} (k : Fk 4000 60 d) : Shw d := k.ft.shw (by decide) (by decide)
theorem tp2 {K : PySem.W.Frag} {G : Hp} {r : Addr} {a b : Str} {p : Str × Str} (h : G r = some (.tup [.str a, .str b])) (e : p = (a, b)) : SqT K G r [.str p.1, .str p.2] := by
  rw [e]
  exact SqT.of h
theorem W4 {n : Nat} (h : n ≤ 4) : Wd n ≤ 455 := Nat.le_trans (Wd_mono h) (by decide +kernel)
def spForms (K : PySem.W.Frag) : Sp := fun vs H Q _ => ∃ (G : Hp) (M : List (Addr × HO)) (b : Addr) (o : HO), vs = [.ref b] ∧ Sep G ((b, o) :: M) H ∧ Bag G o ∧
  ∀ (o' : HO) (G' H' : Hp), Same G G' → Bag G' o' → Sep G' ((b, o') :: M) H' → Q (.bl true) H'
theorem ok_forms_refused (T : Top K mg w) {k : Nat} (G_new_name : FnOk P w K mg base CX0 k T.a_new_name T.d_new_name ["_law_bag_here", "_law_used"] spNew) (G_form : FnOk P w K mg base CX0 k T.a_form T.d_form ["_law_bag_here", "_law_readable", "_law_levels"] (spForm K 4))
    (G_odd_part : FnOk P w K mg base CX0 k T.a_odd_part T.d_odd_part ["_law_bag_here", "_law_good"] (spOdd K)) (G_spoilt : FnOk P w K mg base CX0 k T.a_spoilt T.d_spoilt ["_law_bag_here", "_law_form_here", "_law_odd"] (spSpoilt K 4)) (G_read : FnOk P w K mg base CX0 k T.a_read T.d_read ["_law_form_here"] (spRead K 4))
    (G_tower : FnOk P w K mg base CX0 k T.a_tower T.d_tower ["_law_bag_here", "_law_levels", "_law_readable"] (spTower K)) (G_key_told : FnG P w K mg base CX0 k T.a_key_told T.d_key_told ["_law_form_here"] (spKeyTold K)) :
    FnG P w K mg base CX0 (k + 1) T.a_forms_refused T.d_forms_refused ["_law_bag_here"] (spForms K) := by
  refine okG T.F_forms_refused sc_forms_refused (fun vs H Q E h => ?_) (fun cdv A outer s H vs Q E hr hg h => ?_)
  · obtain ⟨G, M, b, o, rfl, _⟩ := h
    rfl
  · obtain ⟨G, M, b, o, rfl, S, B, q⟩ := h
    refine ⟨_, (pss_cons (ps_set (i := 1) sc_forms_refused.nd rfl (.inl rfl) (pe_lst (pa_cons pe_str (pa_cons pe_str pa_nil))))
      (pss_cons (ps_set (i := 2) sc_forms_refused.nd rfl (.inl rfl) (pe_lst (pa_cons (pe_call G_new_name (hr.mono (by omega)) (by rfl) T.g_new_name T.F_new_name.kp T.b_new_name .nil pass0 (pa_cons (xv 0) (pa_cons (xv 1) pa_nil))) (pa_cons (pe_call G_new_name (hr.mono (by omega)) (by rfl) T.g_new_name T.F_new_name.kp T.b_new_name .nil pass0 (pa_cons (xv 0) (pa_cons (xv 1) pa_nil))) pa_nil))))
      (pss_cons (ps_set (i := 3) sc_forms_refused.nd rfl (.inl rfl) (pe_call G_form (hr.mono (by omega)) (by rfl) T.g_form T.F_form.kp T.b_form .nil pass0 (pa_cons (xv 0) (pa_cons (pe_lst (pa_cons pe_str (pa_cons pe_str pa_nil))) (pa_cons pe_int pa_nil)))))
      (pss_cons (ps_set (i := 4) sc_forms_refused.nd rfl (.inl rfl) (pe_call G_odd_part (hr.mono (by omega)) (by rfl) T.g_odd_part T.F_odd_part.kp T.b_odd_part .nil pass0 (pa_cons (xv 0) (pa_cons (xv 3) pa_nil))))
      (pss_cons (ps_set (i := 5) sc_forms_refused.nd rfl (.inl rfl) (pe_call G_spoilt (hr.mono (by omega)) (by rfl) T.g_spoilt T.F_spoilt.kp T.b_spoilt .nil pass0 (pa_cons (xv 0) (pa_cons (xv 3) (pa_cons (xv 4) pa_nil)))))
      (pss_cons (ps_set (i := 6) sc_forms_refused.nd rfl (.inl rfl) (pe_call G_form (hr.mono (by omega)) (by rfl) T.g_form T.F_form.kp T.b_form .nil pass0 (pa_cons (xv 0) (pa_cons (pe_lst (pa_cons pe_str (pa_cons (pe_ix (ix_k K) (xv 2) pe_int (fun _ _ => rfl)) (pa_cons pe_str (pa_cons (pe_ix (ix_k K) (xv 2) pe_int (fun _ _ => rfl)) pa_nil))))) (pa_cons pe_int pa_nil)))))
      (pss_cons (ps_setLc (i := 7) (own := [("_law_told", 15)]) (by rfl) sc_forms_refused.nd rfl rfl (sw_true rfl rfl rfl (by decide +kernel)) (pi_listK K (pe_call G_read (hr.mono (by omega)) (by rfl) T.g_read T.F_read.kp T.b_read .nil pass0 (pa_cons (xv 6) pa_nil))) (blkOk_by (N := ["_law_bag_here", "_law_used", "_law_foreign", "_law_good", "_law_odd", "_law_spoilt_here", "_law_mixed_here", "_law_strange", "_law_due", "_law_level", "_law_high", "_law_behind", "_law_wanted", "_law_form_here", "_law_result", "_law_told"]) (sc := defScope s_forms_refused) (by decide +kernel)) (fun _ _ _ _ _ => (pg_name (i := 15) sc_forms_refused.nd rfl (.inl rfl))) (fun _ _ _ _ _ => (pts_one (PW.pt (xw_and (xt_cmp (op_neLK K hr.u190) (xv 15) pe_str (nomark _)) (pw_and1 (xt_cmp (op_neLK K hr.u190) (xv 15) pe_str (nomark _))))))) (fun _ _ _ _ _ => (xv 15)))
      (pss_cons (ps_set (i := 8) sc_forms_refused.nd rfl (.inl rfl) (pe_tup (pa_cons pe_str (pa_cons (pe_callB (call_reprG K hg (by have z := u70 hr; exact z)) (by rfl) T.m_repr (by decide +kernel) (pa_cons (xv 6) pa_nil)) pa_nil))))
      (xss_cut (xs_if (xt_truK K (xv 7))
      (pss_one (ps_set (i := 8) sc_forms_refused.nd rfl (.inl rfl) (pe_tup (pa_cons pe_str (pa_cons (pe_callB (call_reprG K hg (by have z := u70 hr; exact z)) (by rfl) T.m_repr (by decide +kernel) (pa_cons (pe_ix (ix_k K) (xv 7) pe_int (fun _ _ => rfl)) pa_nil)) pa_nil)))))
      pss_nil)
      (pss_cons (ps_set (i := 9) sc_forms_refused.nd rfl (.inl rfl) (pe_call G_tower (hr.mono (by omega)) (by rfl) T.g_tower T.F_tower.kp T.b_tower .nil pass0 (pa_cons (xv 0) (pa_cons pe_int (pa_cons (pe_lst (pa_cons pe_str (pa_cons pe_str pa_nil))) pa_nil)))))
      (pss_cons (ps_set (i := 10) sc_forms_refused.nd rfl (.inl rfl) (pe_call G_tower (hr.mono (by omega)) (by rfl) T.g_tower T.F_tower.kp T.b_tower .nil pass0 (pa_cons (xv 0) (pa_cons pe_int (pa_cons (pe_lst (pa_cons pe_str (pa_cons pe_str (pa_cons (pe_ix (ix_k K) (xv 2) pe_int (fun _ _ => rfl)) pa_nil)))) pa_nil)))))
      (pss_cons (ps_set (i := 11) sc_forms_refused.nd rfl (.inl rfl) (pe_tup (pa_cons pe_str (pa_cons (pe_tup (pa_cons pe_str (pa_cons (pe_ix (ix_k K) (xv 2) pe_int (fun _ _ => rfl)) pa_nil))) (pa_cons (xv 5) pa_nil)))))
      (pss_cons (ps_set (i := 12) sc_forms_refused.nd rfl (.inl rfl) (pe_lst (pa_cons (pe_tup (pa_cons (xv 3) (pa_cons (pe_tup (pa_cons pe_str (pa_cons (pe_callB (call_reprG K hg (by have z := u70 hr; exact z)) (by rfl) T.m_repr (by decide +kernel) (pa_cons (xv 3) pa_nil)) pa_nil))) pa_nil))) (pa_cons (pe_tup (pa_cons (xv 5) (pa_cons (pe_tup (pa_cons pe_str (pa_cons (pe_callB (call_reprG K hg (by have z := u70 hr; exact z)) (by rfl) T.m_repr (by decide +kernel) (pa_cons (xv 4) pa_nil)) pa_nil))) pa_nil))) (pa_cons (pe_tup (pa_cons (xv 11) (pa_cons (pe_tup (pa_cons pe_str (pa_cons (pe_callB (call_reprG K hg (by have z := u70 hr; exact z)) (by rfl) T.m_repr (by decide +kernel) (pa_cons (xv 4) pa_nil)) pa_nil))) pa_nil))) pa_nil)))))
      (pss_cons (ps_set (i := 12) sc_forms_refused.nd rfl (.inl rfl) (pe_op op_addY (xv 12) (pe_lst (pa_cons (pe_tup (pa_cons (xv 6) (pa_cons (xv 8) pa_nil))) (pa_cons (pe_tup (pa_cons (xv 9) (pa_cons (pe_tup (pa_cons pe_str (pa_cons (pe_callB (call_reprG K hg (by have z := u70 hr; exact z)) (by rfl) T.m_repr (by decide +kernel) (pa_cons (xv 9) pa_nil)) pa_nil))) pa_nil))) (pa_cons (pe_tup (pa_cons (xv 10) (pa_cons (pe_tup (pa_cons pe_str (pa_cons (pe_callB (call_reprG K hg (by have z := u70 hr; exact z)) (by rfl) T.m_repr (by decide +kernel) (pa_cons (xv 10) pa_nil)) pa_nil))) pa_nil))) pa_nil))))))
      (pss_cons (ps_for PassesOwn.never rfl (pi_listK K (pe_op op_addY (xv 12) (pe_slice (sl_listK K) (xv 12) po_none (po_some pe_int)))) (pg_tupK K 2 (pgs_cons (pg_name (i := 13) sc_forms_refused.nd rfl (.inl rfl)) (pgs_cons (pg_name (i := 14) sc_forms_refused.nd rfl (.inl rfl)) pgs_nil)))
      (pss_one (xs_if (xt_cmp (op_neLK K hr.u190) (pe_callG G_key_told (hr.mono (by omega)) hg (by rfl) T.g_key_told T.F_key_told.kp T.b_key_told pass0 (pa_cons (xv 13) pa_nil)) (xv 14) (nomark _))
      (pss_one (ps_ret pe_bl))
      pss_nil)))
      (pss_one (ps_ret pe_bl))))))))))))))))), ?_⟩
    -- names
    refine ⟨sz, fun U nU => ?_⟩
    have S1 := (S.new (o := .lst (ia.map V.str)) nU).sw
    refine ⟨G, M, b, o, U, ia, rfl, S1, B, ia_ok.lt, by decide, fun z1 o1 H1 lt1 nin1 ni1 na1 B1 S2 => ?_⟩
    refine ⟨G, M, b, o1, U, ia ++ [z1], rfl, S2, B1, fun y hy => ?_, by simp [ia], fun z2 o2 H2 lt2 nin2 ni2 na2 B2 S3 => ?_⟩
    · rcases List.mem_append.mp hy with h | h
      · exact ia_ok.lt y h
      · rw [List.mem_singleton.mp h]
        exact lt1
    have S3 := S3.sw.drop
    refine ⟨sz, fun F nF => ?_⟩
    obtain ⟨G1, s1, S4, hF⟩ := Sep.mk (o := .lst [.str z1, .str z2]) S3 nF
    have B4 := B2.same s1
    -- good, odd, spoilt
    refine ⟨sz, fun l1 nl1 => ?_⟩
    obtain ⟨G2, s2, S5, hl1⟩ := Sep.mk (o := .lst (ia.map V.str)) S4 nl1
    refine ⟨G2, M, b, o2, l1, ia, 4, rfl, S5, B4.same s2, hl1, by decide, by decide, by decide, by decide, fun vg g o3 G3 H3 s3 hg0 gok gd B5 S6 => ?_⟩
    have gdn : g.dep ≤ 4 := by omega
    refine ⟨G3, M, b, o3, vg, g.dat, rfl, S6, B5, gm_dp hg0, fun u d o4 G4 H4 s4 hu hd B6 S7 => ?_⟩
    have pd := odds_bad g.dat d hd
    have wg : Wd g.dep ≤ 455 := W4 gdn
    have gfk : Fk 455 4 g.dat := (dat_fkW ia_ok gok).mono wg gdn
    have dfk : Fk 1860 5 d := (odds_fk gfk d hd).mono (by decide) (by decide)
    refine ⟨G4, M, b, o4, vg, u, g, ia, d, _, _, rfl, S7, B6, hg0.same' s4, gok, ia_ok, gdn, hu, pd, dfk, fun vs e o5 G5 H5 s5 hvs hfb hfk B7 S8 => ?_⟩
    have hfk : Fk 2315 9 e := hfk.mono (by omega) (by omega)
    have s15 := s2.trans (s3.trans (s4.trans s5))
    have hF5 := s15 _ _ hF
    -- mixed
    have at0 : atI [V.str z1, .str z2] 0 = some (.str z1) := atI_nat (j := 0) rfl
    have at1 : atI [V.str z1, .str z2] 1 = some (.str z2) := atI_nat (j := 1) rfl
    refine ⟨_, _, .inl (SqL.of (S8.st hF5)), at0, _, _, .inl (SqL.of (S8.st hF5)), at1, sz, fun l2 nl2 => ?_⟩
    obtain ⟨G6, s6, S9, hl2⟩ := Sep.mk (o := .lst ((mx z1 z2).map V.str)) S8 nl2
    have m4 : NmL (mx z1 z2) := ⟨fun z hz => by
      simp only [mx, List.mem_cons, List.not_mem_nil, or_false] at hz
      rcases hz with rfl | rfl | rfl | rfl
      · exact ia_ok.lt _ (by decide +kernel)
      · exact lt1
      · exact ia_ok.lt _ (by decide +kernel)
      · exact lt2⟩
    refine ⟨G6, M, b, o5, l2, mx z1 z2, 4, rfl, S9, B7.same s6, hl2, by simp [mx], by simp [mx], by decide, by decide, fun vm m o6 G7 H7 s7 hm mok md B8 S10 => ?_⟩
    have mdn : m.dep ≤ 4 := by omega
    -- what is strange
    refine ⟨G7, _, vm, m, _, rfl, S10, hm, mok, by simp [mx], mdn, fun lr G8 H8 s8 S11 hlr => ?_⟩
    refine ⟨lr, rfl, ⟨_, SqL.of (S11.st hlr)⟩, fun N nN => lc_list (xs := m.nms.map V.str) (fun i H' => Sep G8 ((N, .lst (((m.nms.take i).filter fun z => !own z).map V.str)) :: (b, o6) :: M) H') (S11.new nN) (fun i H' _ p => SqL.of (p.st hlr)) (fun i y H' hy p => ⟨rfl, ?_⟩) (fun H' p => ?_)⟩
    · rw [List.getElem?_map] at hy
      obtain ⟨z, hz, rfl⟩ := Option.map_eq_some_iff.mp hy
      have il := (List.getElem?_eq_some_iff.mp hz).1
      have ml := nodup_sub m.nms_nd (Gm.nms_ok mok)
      have ml4 : m.nms.length ≤ 4 := ml
      have fl : (((m.nms.take i).filter fun z => !own z).map V.str).length ≤ 4 := by
        rw [List.length_map]
        refine Nat.le_trans (List.length_filter_le _ _) ?_
        rw [List.length_take]
        omega
      have ey : (!own z) = true → ∃ acc, H' N = some (.lst acc) ∧ acc.length < sizeLine ∧ Sep G8 ((N, .lst (((m.nms.take (i + 1)).filter fun z => !own z).map V.str)) :: (b, o6) :: M) (upd H' N (.lst (acc ++ [.str z]))) := fun e => by
        refine ⟨_, p.hd, smallL (by omega), ?_⟩
        rw [take_snoc hz, List.filter_append, List.map_append, show ([z].filter fun z => !own z) = [z] by simp only [List.filter]; rw [e]]
        exact p.set
      have en : (!own z) = false → Sep G8 ((N, .lst (((m.nms.take (i + 1)).filter fun z => !own z).map V.str)) :: (b, o6) :: M) H' := fun e => by
        rw [take_snoc hz, List.filter_append, show ([z].filter fun z => !own z) = [] by simp only [List.filter]; rw [e], List.append_nil]
        exact p
      refine ⟨fun e1 => ?_, fun e1 => ?_⟩
      · have n1 : z ≠ "item" := of_decide_eq_false (by simpa using e1)
        refine tst (fun e2 => ?_) (fun e2 => ?_)
        · have n2 : z ≠ "at" := of_decide_eq_false (by simpa using e2)
          exact ey (by unfold own; rw [decide_eq_false (by rw [not_or]; exact ⟨n1, n2⟩)]; rfl)
        · have n2 : z = "at" := of_decide_eq_true (by simpa using e2)
          exact en (by unfold own; rw [decide_eq_true (.inr n2)]; rfl)
      · have n1 : z = "item" := of_decide_eq_true (by simpa using e1)
        exact (show if false = true then _ else _ from en (by unfold own; rw [decide_eq_true (.inl n1)]; rfl))
    rw [List.length_map, List.take_length] at p
    obtain ⟨G9, s9, S12, hN⟩ := Sep.keep p
    generalize hst : (m.nms.filter fun z => !own z) = st at S12 hN
    have hzf : (m.nms.find? fun z => !own z) = st.head? := by rw [← hst, List.head?_filter]
    have s79 := s8.trans s9
    have hm9 := hm.same' s79
    have mfk : Fk 4000 60 m.dat := (dat_fkW m4 mok).mono (by have := W4 mdn; omega) (by omega)
    have mdue : due m.dat = none := by rw [due_gm mok m4, if_pos (by omega)]
    have stl : ∀ y, st.head? = some y → Lt 1 8 y := fun y hy => by
      rw [← hzf] at hy
      exact m4.lt y (Gm.nms_ok mok y (List.mem_of_find?_eq_some hy))
    -- what is due of the mixed one
    have sm := fk_shw mfk
    refine ⟨vm, m.dat, rfl, dp_same S12.1 (gm_dp hm9), sm.sh, sm.nd, sm.dp, sm.ln, ?_⟩
    refine ⟨sz, fun du ndu => ?_⟩
    obtain ⟨G10, s10, S13, hdu⟩ := Sep.mk (o := .tup [.str "good", .str m.dat.shown]) S12 ndu
    have hN10 := s10 _ _ hN
    refine ⟨fun σ H' => ∃ (r : Addr) (G' : Hp), σ = [some (.ref b), some (.ref U), some (.ref F), some vg, some u, some vs, some vm, some (.ref N), some (.ref r), none, none, none, none, none, none, none] ∧ Same G10 G' ∧ SqT K G' r [.str (toldK m.dat st.head?).1, .str (toldK m.dat st.head?).2] ∧ Sep G' ((b, o6) :: M) H',
      ⟨!(st.map V.str).isEmpty, .inl ⟨_, SqL.of (S13.st hN10), rfl⟩, fun e => ?_, fun e => ?_⟩, fun σ H' h => ?_⟩
    · cases st with
      | nil => exact nomatch e
      | cons y r =>
        have yl := stl y rfl
        have fy : Fk 4000 60 (.str y) := (Fk.name yl).mono (by decide) (by decide)
        have sy := fk_shw fy
        refine ⟨_, _, .inl (SqL.of (S13.st hN10)), atI_nat (j := 0) rfl, .str y, .str y, rfl, .str y, sy.sh, sy.nd, sy.dp, sy.ln, sz, fun t nt => ?_⟩
        obtain ⟨G11, s11, S14, ht⟩ := Sep.mk (o := .tup [.str "NoName", .str (PyData.str y).shown]) S13 nt
        refine ⟨t, G11, rfl, s11, tp2 ht ?_, S14⟩
        unfold toldK
        rw [mdue]
        rfl
    · cases st with
      | cons y r => exact nomatch e
      | nil =>
        refine ⟨du, G10, rfl, Same.refl _, tp2 hdu ?_, S13⟩
        unfold toldK
        rw [mdue]
        rfl
    obtain ⟨rm, G11, rfl, s11, hrm, S14⟩ := h
    -- the towers
    refine ⟨sz, fun l3 nl3 => ?_⟩
    obtain ⟨G12, s12, S15, hl3⟩ := Sep.mk (o := .lst (ia.map V.str)) S14 nl3
    have s712 := s79.trans (s10.trans (s11.trans s12))
    refine ⟨G12, M, b, o6, l3, ia, 5, rfl, S15, B8.same s712, hl3, by decide, by decide, ia_ok, by decide, by decide, fun v5 f5 o7 G13 H13 s13 hf5 ok5 d5 fk5 B9 S16 => ?_⟩
    have s613 := s7.trans (s712.trans s13)
    have hF13 := (s6.trans s613) _ _ hF5
    refine ⟨_, _, .inl (SqL.of (S16.st hF13)), at0, sz, fun l4 nl4 => ?_⟩
    obtain ⟨G14, s14, S17, hl4⟩ := Sep.mk (o := .lst ((i3 z1).map V.str)) S16 nl4
    have m3 : NmL (i3 z1) := ⟨fun z hz => by
      simp only [i3, List.mem_cons, List.not_mem_nil, or_false] at hz
      rcases hz with rfl | rfl | rfl
      · exact ia_ok.lt _ (by decide +kernel)
      · exact ia_ok.lt _ (by decide +kernel)
      · exact lt1⟩
    refine ⟨G14, M, b, o7, l4, i3 z1, 6, rfl, S17, B9.same s14, hl4, by simp [i3], by simp [i3], m3, by decide, by decide, fun v6 f6 o8 G15 H15 s15' hf6 ok6 d6 fk6 B10 S18 => ?_⟩
    have s1315 := s14.trans s15'
    have hF15 := s1315 _ _ hF13
    -- behind
    refine ⟨_, _, .inl (SqL.of (S18.st hF15)), at0, sz, fun tg ntg => ?_⟩
    obtain ⟨G16, s16, S19, htg⟩ := Sep.mk (o := .tup [.str "get", .str z1]) S18 ntg
    refine ⟨sz, fun tb ntb => ?_⟩
    obtain ⟨G17, s17, S20, htb⟩ := Sep.mk (o := .tup [.str "sum", .ref tg, vs]) S19 ntb
    have g517 : Same G5 G17 := s6.trans (s613.trans (s1315.trans (s16.trans s17)))
    have g317 : Same G3 G17 := s4.trans (s5.trans g517)
    have g417 : Same G4 G17 := s5.trans g517
    have g917 : Same G9 G17 := s10.trans (s11.trans (s12.trans (s13.trans (s1315.trans (s16.trans s17)))))
    have g1117 : Same G11 G17 := s12.trans (s13.trans (s1315.trans (s16.trans s17)))
    have g1317 : Same G13 G17 := s1315.trans (s16.trans s17)
    have g1517 : Same G15 G17 := s16.trans s17
    have gf1 : Gm.ok (i3 z1) (.get z1) := by show z1 ∈ i3 z1; simp [i3]
    have gfk1 := get_fk m3 (x := z1) gf1
    have F1 : FormG K G17 vg g.dat none := ⟨dp_same g317 (gm_dp hg0), gfk.mono (by decide) (by decide), fun _ => ⟨g, ia, hg0.same' g317, gok, ia_ok, by decide, by omega, (own_none gok ia_own).symm⟩⟩
    have T1 : toldK g.dat none = (("good" : Str), g.dat.shown) := by
      unfold toldK
      rw [due_gm gok ia_ok, if_pos (by omega)]
    have du2 : due e = some d := by unfold due; rw [hfb]
    have F2 : FormG K G17 vs e none := ⟨dp_same g517 hvs, hfk.mono (by decide) (by decide), fun h => by rw [du2] at h; exact nomatch h⟩
    have T2 : toldK e none = (("BadForm" : Str), d.shown) := by
      unfold toldK
      rw [du2]
    have hb0 : partOk (.tuple [.str "sum", Gm.dat (.get z1), e]) = true := by
      have e1 : headN "sum" = 3 := by decide +kernel
      have e2 : ¬ (("sum" : Str) = "is") := by decide +kernel
      have e3 : ¬ (("sum" : Str) = "get") := by decide +kernel
      simp only [partOk, e1, if_neg e2, if_neg e3]
      simp
    have du3 : due (.tuple [.str "sum", Gm.dat (.get z1), e]) = some d := by
      unfold due
      rw [(fb_node hb0 ⟨by decide +kernel, by decide +kernel⟩).1]
      simp only [fbs, (dat_fb m3 (.get z1) gf1).1, hfb]
    have F3 : FormG K G17 (.ref tb) (.tuple [.str "sum", Gm.dat (.get z1), e]) none := ⟨.tup (SqT.of htb) (.cons (.str _) (.cons (gm_dp (.get (SqT.of (s17 _ _ htg)))) (.cons (dp_same g517 hvs) .nil))), by
      have w1 := gfk1.ft.wt
      have w2 := hfk.ft.wt
      have w3 : PyData.weight (.str "sum") = 3 := (by simp only [PyData.weight]; decide +kernel)
      refine Fk.tup (dp := 59) (by simp only [PyData.weightAll]; omega) fun d hd => ?_
      simp only [List.mem_cons, List.not_mem_nil, or_false] at hd
      rcases hd with rfl | rfl | rfl
      · exact ⟨_, (Fk.lit (by decide +kernel) (by decide +kernel)).mono (Nat.le_refl _) (by decide)⟩
      · exact ⟨_, gfk1.mono (Nat.le_refl _) (by decide)⟩
      · exact ⟨_, hfk.mono (Nat.le_refl _) (by decide)⟩, fun h => by rw [du3] at h; exact nomatch h⟩
    have T3 : toldK (.tuple [.str "sum", Gm.dat (.get z1), e]) none = (("BadForm" : Str), d.shown) := by
      unfold toldK
      rw [du3]
    have F4 : FormG K G17 vm m.dat st.head? := ⟨dp_same g917 (gm_dp hm9), mfk, fun _ => ⟨m, mx z1 z2, hm9.same' g917, mok, m4, by simp [mx], by omega, hzf.symm⟩⟩
    have F5 : FormG K G17 v5 f5.dat none := ⟨dp_same g1317 (gm_dp hf5), fk5.mono (by decide) (by decide), fun _ => ⟨f5, ia, hf5.same' g1317, ok5, ia_ok, by decide, by omega, (own_none ok5 ia_own).symm⟩⟩
    have T5 : toldK f5.dat none = (("good" : Str), f5.dat.shown) := by
      unfold toldK
      rw [due_gm ok5 ia_ok, if_pos (by omega)]
    have du6 : due f6.dat = some f6.dat := by rw [due_gm ok6 m3, if_neg (by omega)]
    have F6 : FormG K G17 v6 f6.dat none := ⟨dp_same g1517 (gm_dp hf6), fk6.mono (by decide) (by decide), fun h => by rw [du6] at h; exact nomatch h⟩
    have T6 : toldK f6.dat none = (("BadForm" : Str), f6.dat.shown) := by
      unfold toldK
      rw [du6]
    have hrm17 := same_t g1117 hrm
    have dfk4 : Fk 4000 60 d := dfk.mono (by decide) (by decide)
    have sd := fk_shw dfk4
    have sg := fk_shw F1.fk
    have s5f := fk_shw F5.fk
    have s6f := fk_shw F6.fk
    have hu17 := dp_same g417 hu
    -- the wanted ones
    refine ⟨vg, g.dat, rfl, dp_same S20.1 F1.dp, sg.sh, sg.nd, sg.dp, sg.ln, sz, fun a1 na1 => ?_⟩
    obtain ⟨G18, s18, S21, ha1⟩ := Sep.mk (o := .tup [.str "good", .str g.dat.shown]) S20 na1
    refine ⟨sz, fun b1 nb1 => ?_⟩
    obtain ⟨G19, s19, S22, hb1⟩ := Sep.mk (o := .tup [vg, .ref a1]) S21 nb1
    have r19 := s18.trans s19
    have w1 : Wn K G19 (.ref b1) (g.dat, none) := ⟨b1, a1, vg, rfl, hb1, F1.same r19, tp2 (s19 _ _ ha1) T1⟩
    refine ⟨u, d, rfl, dp_same S22.1 (dp_same r19 hu17), sd.sh, sd.nd, sd.dp, sd.ln, sz, fun a2 na2 => ?_⟩
    obtain ⟨G20, s20, S23, ha2⟩ := Sep.mk (o := .tup [.str "BadForm", .str d.shown]) S22 na2
    refine ⟨sz, fun b2 nb2 => ?_⟩
    obtain ⟨G21, s21, S24, hb2⟩ := Sep.mk (o := .tup [vs, .ref a2]) S23 nb2
    have r21 := r19.trans (s20.trans s21)
    have w2 : Wn K G21 (.ref b2) (e, none) := ⟨b2, a2, vs, rfl, hb2, F2.same r21, tp2 (s21 _ _ ha2) T2⟩
    refine ⟨u, d, rfl, dp_same S24.1 (dp_same r21 hu17), sd.sh, sd.nd, sd.dp, sd.ln, sz, fun a3 na3 => ?_⟩
    obtain ⟨G22, s22, S25, ha3⟩ := Sep.mk (o := .tup [.str "BadForm", .str d.shown]) S24 na3
    refine ⟨sz, fun b3 nb3 => ?_⟩
    obtain ⟨G23, s23, S26, hb3⟩ := Sep.mk (o := .tup [.ref tb, .ref a3]) S25 nb3
    have r23 := r21.trans (s22.trans s23)
    have w3 : Wn K G23 (.ref b3) (.tuple [.str "sum", Gm.dat (.get z1), e], none) := ⟨b3, a3, .ref tb, rfl, hb3, F3.same r23, tp2 (s23 _ _ ha3) T3⟩
    refine ⟨sz, fun LA nLA => ?_⟩
    obtain ⟨G24, s24, S27, hLA⟩ := Sep.mk (o := .lst [.ref b1, .ref b2, .ref b3]) S26 nLA
    have r24 := r23.trans s24
    refine ⟨sz, fun b4 nb4 => ?_⟩
    obtain ⟨G25, s25, S28, hb4⟩ := Sep.mk (o := .tup [vm, .ref rm]) S27 nb4
    have r25 := r24.trans s25
    have w4 : Wn K G25 (.ref b4) (m.dat, st.head?) := ⟨b4, rm, vm, rfl, hb4, F4.same r25, same_t r25 hrm17⟩
    refine ⟨v5, f5.dat, rfl, dp_same S28.1 (dp_same r25 F5.dp), s5f.sh, s5f.nd, s5f.dp, s5f.ln, sz, fun a5 na5 => ?_⟩
    obtain ⟨G26, s26, S29, ha5⟩ := Sep.mk (o := .tup [.str "good", .str f5.dat.shown]) S28 na5
    refine ⟨sz, fun b5 nb5 => ?_⟩
    obtain ⟨G27, s27, S30, hb5⟩ := Sep.mk (o := .tup [v5, .ref a5]) S29 nb5
    have r27 := r25.trans (s26.trans s27)
    have w5 : Wn K G27 (.ref b5) (f5.dat, none) := ⟨b5, a5, v5, rfl, hb5, F5.same r27, tp2 (s27 _ _ ha5) T5⟩
    refine ⟨v6, f6.dat, rfl, dp_same S30.1 (dp_same r27 F6.dp), s6f.sh, s6f.nd, s6f.dp, s6f.ln, sz, fun a6 na6 => ?_⟩
    obtain ⟨G28, s28, S31, ha6⟩ := Sep.mk (o := .tup [.str "BadForm", .str f6.dat.shown]) S30 na6
    refine ⟨sz, fun b6 nb6 => ?_⟩
    obtain ⟨G29, s29, S32, hb6⟩ := Sep.mk (o := .tup [v6, .ref a6]) S31 nb6
    have r29 := r27.trans (s28.trans s29)
    have w6 : Wn K G29 (.ref b6) (f6.dat, none) := ⟨b6, a6, v6, rfl, hb6, F6.same r29, tp2 (s29 _ _ ha6) T6⟩
    refine ⟨sz, fun LB nLB => ?_⟩
    obtain ⟨G30, s30, S33, hLB⟩ := Sep.mk (o := .lst [.ref b4, .ref b5, .ref b6]) S32 nLB
    have q2930 := s30
    have q2730 := (s28.trans s29).trans s30
    have q2530 := (s26.trans s27).trans q2730
    have q2430 := s25.trans q2530
    have q2330 := s24.trans q2430
    have q2130 := (s22.trans s23).trans q2330
    have q1930 := (s20.trans s21).trans q2130
    refine ⟨_, _, _, _, rfl, rfl, S33.st (q2430 _ _ hLA), S33.st hLB, by simp only [List.length_cons, List.length_nil]; exact small (by decide), fun LC nLC => ?_⟩
    obtain ⟨G31, s31, S34, hLC⟩ := Sep.mk (o := .lst [.ref b1, .ref b2, .ref b3, .ref b4, .ref b5, .ref b6]) S33 nLC
    have hL := SqL.of (K := K) (S34.st hLC)
    refine ⟨1, rfl, LC, _, rfl, hL, fun LS nLS => ?_⟩
    obtain ⟨G32, s32, S35, hLS⟩ := Sep.mk (o := .lst (cutV [.ref b1, .ref b2, .ref b3, .ref b4, .ref b5, .ref b6] none (some 1))) S34 nLS
    rw [show cutV [V.ref b1, .ref b2, .ref b3, .ref b4, .ref b5, .ref b6] none (some 1) = [V.ref b1] from rfl] at hLS
    refine ⟨_, _, _, _, rfl, rfl, S35.st (s32 _ _ hLC), S35.st hLS, by simp only [List.length_cons, List.length_nil]; exact small (by decide), fun LD nLD => ?_⟩
    obtain ⟨G33, s33, S36, hLD⟩ := Sep.mk (o := .lst [.ref b1, .ref b2, .ref b3, .ref b4, .ref b5, .ref b6, .ref b1]) S35 nLD
    have q3033 := s31.trans (s32.trans s33)
    have P : Paired (Wn K G33) [V.ref b1, .ref b2, .ref b3, .ref b4, .ref b5, .ref b6, .ref b1] [(g.dat, none), (e, none), (.tuple [.str "sum", Gm.dat (.get z1), e], none), (m.dat, st.head?), (f5.dat, none), (f6.dat, none), (g.dat, none)] :=
      .cons (w1.same (q1930.trans q3033)) (.cons (w2.same (q2130.trans q3033)) (.cons (w3.same (q2330.trans q3033)) (.cons (w4.same (q2530.trans q3033)) (.cons (w5.same (q2730.trans q3033)) (.cons (w6.same (q2930.trans q3033)) (.cons (w1.same (q1930.trans q3033)) .nil))))))
    have zl : ∀ x ∈ ([(g.dat, none), (e, none), (.tuple [.str "sum", Gm.dat (.get z1), e], none), (m.dat, st.head?), (f5.dat, none), (f6.dat, none), (g.dat, none)] : List (PyData × Option Str)), ∀ y, x.2 = some y → Lt 1 8 y := fun x hx y hy => by
      simp only [List.mem_cons, List.not_mem_nil, or_false] at hx
      rcases hx with rfl | rfl | rfl | rfl | rfl | rfl | rfl
      · exact nomatch hy
      · exact nomatch hy
      · exact nomatch hy
      · exact stl y hy
      · exact nomatch hy
      · exact nomatch hy
      · exact nomatch hy
    generalize [(g.dat, none), (e, none), (PyData.tuple [.str "sum", Gm.dat (.get z1), e], none), (m.dat, st.head?), (f5.dat, none), (f6.dat, none), (g.dat, none)] = xs at P zl
    have g1733 : Same G17 G33 := r19.trans (q1930.trans q3033)
    have g033 : Same G G33 := s1.trans ((s2.trans s3).trans (g317.trans g1733))
    have B33 := B10.same (g1517.trans g1733)
    refine ⟨LD, rfl, ⟨_, SqL.of (S36.st hLD)⟩, for_list (xs := [V.ref b1, .ref b2, .ref b3, .ref b4, .ref b5, .ref b6, .ref b1]) (fun i σ H' => ∃ (y13 y14 : Option V) (G' : Hp), σ = [some (.ref b), some (.ref U), some (.ref F), some vg, some u, some vs, some vm, some (.ref N), some (.ref rm), some v5, some v6, some (.ref tb), some (.ref LC), y13, y14, none] ∧ Same G33 G' ∧ Sep G' ((b, o8) :: M) H')
      ⟨_, _, G33, rfl, Same.refl _, S36⟩ (fun i σ H' _ h => ?_) (fun i y σ H' hy h => ?_) (fun σ H' h => ?_)⟩
    · obtain ⟨_, _, _, _, s', S'⟩ := h
      exact SqL.of (S'.st (s' _ _ hLD))
    · obtain ⟨y13, y14, G34, rfl, s34, S37⟩ := h
      obtain ⟨x, hx, tt', rr, uu, rfl, ht, hF', hr'⟩ := prd_get P hy
      have zx := zl x (List.mem_of_getElem? hx)
      refine ⟨tt', _, rfl, SqT.of (S37.st (s34 _ _ ht)), rfl, _, _, rfl, _, _, rfl, rfl, ?_⟩
      refine ⟨G34, _, uu, x.1, x.2, rfl, S37, hF'.same s34, fun ta G35 H35 s35 hta S38 => ?_⟩
      obtain ⟨cl, dp⟩ := told_pair hF'.fk zx
      refine ⟨.tuple [.str (toldK x.1 x.2).1, .str (toldK x.1 x.2).2], .tuple [.str (toldK x.1 x.2).1, .str (toldK x.1 x.2).2], .tup (S38.t hta) (.cons (.str _) (.cons (.str _) .nil)), .tup (S38.t (same_t (s34.trans s35) hr')) (.cons (.str _) (.cons (.str _) .nil)), cl, cl, dp, ?_⟩
      rw [SeqAt.eqv_refl _ cl]
      exact ⟨ff, fun _ => ⟨_, _, G35, rfl, s34.trans s35, S38⟩⟩
    · obtain ⟨y13, y14, G34, rfl, s34, S37⟩ := h
      exact q o8 G34 _ (g033.trans s34) (B33.same s34) S37

end
end K25
set_option Elab.async false
set_option linter.all false
set_option maxRecDepth 100000
set_option maxHeartbeats 4000000
namespace K25
open PySem PySem.Spec PyProof.Rows L2 XL
section
variable {P : Program} {w : World} {K : PySem.W.Frag} {mg : Str → Option Value} {base : Heap}
/-! ### idents: no two alike -/
theorem ids_nodup (f : Fm) (ns : List Int) : (ids f ns).Nodup := by
  unfold ids List.Nodup
  rw [List.pairwise_map]
  refine List.Pairwise.imp ?_ List.pairwise_lt_range
  intro a b hab e
  have e1 : gv f ns a = gv f ns b := congrArg Prod.fst e
  have e2 : (((List.range a).map (gv f ns)).count (gv f ns a) : Int) = (((List.range b).map (gv f ns)).count (gv f ns b) : Nat) := congrArg Prod.snd e
  have h1 : ((List.range (a + 1)).map (gv f ns)).count (gv f ns b) ≤ ((List.range b).map (gv f ns)).count (gv f ns b) := List.Sublist.count_le _ ((List.range_sublist.mpr (by omega)).map _)
  rw [List.range_succ, List.map_append, List.count_append, List.map_singleton, e1, List.count_singleton_self] at h1
  rw [e1] at e2
  omega
theorem ids_len (f : Fm) (ns : List Int) : (ids f ns).length = ns.length := by simp [ids]
theorem nodup_at {b : List (Int × Int)} (nd : b.Nodup) {k : Nat} {p : Int × Int} (hk : b[k]? = some p) {i : Nat} : b[i]? = some p ↔ i = k := by
  refine ⟨fun h => ?_, fun e => e ▸ hk⟩
  have h1 := (List.getElem?_eq_some_iff.mp h).1
  have h2 := (List.getElem?_eq_some_iff.mp hk).1
  exact (List.getElem?_inj h1 nd).mp (h.trans hk.symm)
theorem Pr.dp {K : PySem.W.Frag} {H : Hp} {v : V} {p : Int × Int} (h : Pr H v p) : Dp K H v (prd p) := by
  obtain ⟨a, rfl, ha⟩ := h
  exact .tup (SqT.of ha) (.cons (.int _) (.cons (.int _) .nil))
theorem prs_dp {K : PySem.W.Frag} {H : Hp} : ∀ {ws : List V} {ps : List (Int × Int)}, Paired (Pr H) ws ps → DpAll K H ws (ps.map prd)
  | _, _, .nil => .nil
  | _, _, .cons h t => .cons h.dp (prs_dp t)

/-! ### matched -/
/-- the places of x in b, paired with j -/
def hits (b : List (Int × Int)) (x : Option (Int × Int)) (j m : Nat) : List (Int × Int) := ((List.range m).filter fun i => decide (b[i]? = x)).map fun i : Nat => ((i : Int), (j : Int))
theorem hits_succ (b : List (Int × Int)) (x : Option (Int × Int)) (j m : Nat) : hits b x j (m + 1) = hits b x j m ++ if b[m]? = x then [((m : Int), (j : Int))] else [] := by
  unfold hits
  rw [List.range_succ, List.filter_append, List.map_append]
  by_cases h : b[m]? = x <;> simp [h]
theorem hits_none {b : List (Int × Int)} {x : Option (Int × Int)} {j : Nat} : ∀ {m : Nat}, (∀ i, i < m → b[i]? ≠ x) → hits b x j m = []
  | 0, _ => rfl
  | m + 1, h => by rw [hits_succ, hits_none (fun i hi => h i (by omega)), if_neg (h m (by omega))]; rfl
theorem hits_one {b : List (Int × Int)} {x : Option (Int × Int)} {j k : Nat} : ∀ {m : Nat}, k < m → (∀ i, i < m → (b[i]? = x ↔ i = k)) → hits b x j m = [((k : Int), (j : Int))]
  | 0, h, _ => absurd h (Nat.not_lt_zero _)
  | m + 1, h, u => by
    rw [hits_succ]
    by_cases e : m = k
    · subst e
      rw [hits_none (fun i hi => fun z => absurd ((u i (by omega)).mp z) (by omega)), if_pos ((u m (by omega)).mpr rfl)]
      rfl
    · rw [hits_one (m := m) (by omega) (fun i hi => u i (by omega)), if_neg (fun z => e ((u m (by omega)).mp z))]
      rfl
def mtTo (b c : List (Int × Int)) (m : Nat) : List (Int × Int) := (List.range m).flatMap fun j => hits b c[j]? j b.length
theorem mtTo_succ (b c : List (Int × Int)) (m : Nat) : mtTo b c (m + 1) = mtTo b c m ++ hits b c[m]? m b.length := by
  unfold mtTo
  rw [List.range_succ, List.flatMap_append]
  simp
theorem hits_len (b : List (Int × Int)) (x : Option (Int × Int)) (j m : Nat) : (hits b x j m).length ≤ m := by
  unfold hits
  rw [List.length_map]
  exact Nat.le_trans (List.length_filter_le _ _) (by simp)
theorem mtTo_len (b c : List (Int × Int)) : ∀ m, (mtTo b c m).length ≤ m * b.length
  | 0 => by simp [mtTo]
  | m + 1 => by
    rw [mtTo_succ, List.length_append, Nat.succ_mul]
    exact Nat.add_le_add (mtTo_len b c m) (hits_len _ _ _ _)
theorem mtTo_mem {b c : List (Int × Int)} {m : Nat} {p : Int × Int} (h : p ∈ mtTo b c m) : ∃ i j : Nat, p = ((i : Int), (j : Int)) ∧ i < b.length ∧ j < m := by
  unfold mtTo hits at h
  obtain ⟨j, hj, h⟩ := List.mem_flatMap.mp h
  obtain ⟨i, hi, rfl⟩ := List.mem_map.mp h
  exact ⟨i, j, rfl, List.mem_range.mp (List.mem_filter.mp hi).1, List.mem_range.mp hj⟩
def mt (f : Fm) (n1 n2 : List Int) : List (Int × Int) := mtTo (ids f n1) (ids f n2) n2.length
theorem mt_len {f : Fm} {n1 n2 : List Int} (h1 : n1.length ≤ 5) (h2 : n2.length ≤ 5) : (mt f n1 n2).length ≤ 25 := by
  refine Nat.le_trans (mtTo_len _ _ _) ?_
  rw [ids_len]
  exact Nat.mul_le_mul h2 h1
theorem mt_mem {f : Fm} {n1 n2 : List Int} {p : Int × Int} (h : p ∈ mt f n1 n2) : ∃ i j : Nat, p = ((i : Int), (j : Int)) ∧ i < n1.length ∧ j < n2.length := by
  obtain ⟨i, j, h1, h2, h3⟩ := mtTo_mem h
  exact ⟨i, j, h1, by rw [ids_len] at h2; exact h2, h3⟩
def spMatched (C : Addr) : Sp := fun vs H Q _ => ∃ (G : Hp) (M : List (Addr × HO)) (v : V) (f : Fm) (r1 r2 : Addr) (n1 n2 : List Int), vs = [v, .ref r1, .ref r2] ∧ Sep G M H ∧ KeyAt C G v f ∧ Tu G r1 (n1.map V.int) ∧ RowOk n1 ∧ Tu G r2 (n2.map V.int) ∧ RowOk n2 ∧
  ∀ (p : Addr) (ws : List V) (G' H' : Hp), Same G G' → Sep G' M H' → Tu G' p ws → Paired (Pr G') ws (mt f n1 n2) → Q (.ref p) H'
theorem ok_matched (T : Top K mg w) (G_Key_idents : FnOk P w K mg base CX0 8 T.a_Key_idents T.d_Key_idents ["self", "row"] (spKIdents T.C_Key)) :
    FnOk P w K mg base CX0 9 T.a_matched T.d_matched ["key", "old", "new"] (spMatched T.C_Key) := by
  refine T.F_matched.ok sc_matched (fun vs H Q E h => ?_) (fun cdv A outer s H vs Q E hr h => ?_)
  · obtain ⟨G, M, v, f, r1, r2, n1, n2, rfl, _⟩ := h
    rfl
  · obtain ⟨G, M, v, f, r1, r2, n1, n2, rfl, S, hk, h1, ro1, h2, ro2, q⟩ := h
    refine ⟨_, (pss_cons (ps_set (i := 3) sc_matched.nd rfl (.inl rfl) (pe_meth (xv 0) T.cl_Key T.me_Key_idents G_Key_idents (hr.mono (by omega)) T.b_Key_idents .nil pass0 (pa_cons (xv 1) pa_nil)))
      (pss_cons (ps_set (i := 4) sc_matched.nd rfl (.inl rfl) (pe_meth (xv 0) T.cl_Key T.me_Key_idents G_Key_idents (hr.mono (by omega)) T.b_Key_idents .nil pass0 (pa_cons (xv 2) pa_nil)))
      (pss_cons (ps_set (i := 5) sc_matched.nd rfl (.inl rfl) (pe_lst pa_nil))
      (pss_cons (ps_for PassesOwn.never rfl (pi_range1 (by rfl) T.m_range (pa_cons (pe_callB (cr_lenK K) (by rfl) T.m_len (by decide +kernel) (pa_cons (xv 2) pa_nil)) pa_nil)) (pg_name (i := 6) sc_matched.nd rfl (.inl rfl))
      (pss_one (xs_if (xt_cmp (in_deepK K (u65 hr)) (pe_ix (ix_k K) (xv 4) (xv 6) (fun _ _ => rfl)) (xv 3) (by rfl))
      (pss_one (ps_expr (pe_bmK K PySem.F.plainAttrs_list PySem.F.slot_list_append PySem.F.type_list_append mt_append (xv 5) (pa_cons (pe_tup (pa_cons (pe_tm PySem.F.slot_tuple_index PySem.F.type_tuple_index (mt_tindexK K (u65 hr)) (xv 3) (pa_cons (pe_ix (ix_k K) (xv 4) (xv 6) (fun _ _ => rfl)) pa_nil)) (pa_cons (xv 6) pa_nil))) pa_nil))))
      pss_nil)))
      (pss_one (ps_ret (pe_callTy (call_tupleK K) (by rfl) T.m_tuple (by decide +kernel) (pa_cons (xv 5) pa_nil)))))))), ?_⟩
    obtain ⟨x, dx, u, rfl, hx, hu⟩ := hk
    have kk : KeyAt T.C_Key G (.ref x) f := ⟨x, dx, u, rfl, hx, hu⟩
    refine ⟨x, dx, _, rfl, S.st hx, rfl, G, M, _, f, r1, n1, rfl, S, kk, h1, ro1, fun p1 ws1 G1 H1 s1 S1 hp1 pr1 => ?_⟩
    refine ⟨x, dx, _, rfl, S1.st (s1 _ _ hx), rfl, G1, M, _, f, r2, n2, rfl, S1, kk.same s1, h2.same s1, ro2, fun p2 ws2 G2 H2 s2 S2 hp2 pr2 => ⟨sz, fun L nL => ?_⟩⟩
    have S3 := S2.new (o := .lst []) nL
    have s02 := s1.trans s2
    have l1 := ro1.len
    have l2 := ro2.len
    refine ⟨_, .inr ((h2.same s02).same S3.1).sq, _, rfl, by simp, by simp; omega, ?_⟩
    rw [show (((n2.map V.int).length : Nat) : Int).toNat = n2.length by simp]
    refine for_range (lo := 0) (n := n2.length) (fun j σ H' => ∃ (y6 : Option V) (G' : Hp) (ws : List V), σ = [some (.ref x), some (.ref r1), some (.ref r2), some (.ref p1), some (.ref p2), some (.ref L), y6] ∧ Same G2 G' ∧ Sep G' ((L, .lst ws) :: M) H' ∧ Paired (Pr G') ws (mtTo (ids f n1) (ids f n2) j))
      ⟨_, G2, [], rfl, Same.refl _, S3, .nil⟩ (fun j σ H' hj h => ?_) (fun σ H' h => ?_)
    · obtain ⟨y6, G', ws, rfl, s4, S4, hw⟩ := h
      rw [Int.zero_add]
      have hwl := prd_len hw
      have hml := mtTo_len (ids f n1) (ids f n2) j
      rw [ids_len] at hml
      have hml2 : j * n1.length ≤ 5 * 5 := Nat.mul_le_mul (by omega) l1
      have P1 := prd_imp (fun _ _ h => Pr.same (H' |> fun _ => S4.1) h) (prd_imp (fun _ _ => Pr.same s4) (prd_imp (fun _ _ => Pr.same s2) pr1))
      have P2 := prd_imp (fun _ _ h => Pr.same S4.1 h) (prd_imp (fun _ _ => Pr.same s4) pr2)
      have F1 := ((hp1.same s2).same s4).same S4.1
      have F2 := (hp2.same s4).same S4.1
      have e2 := prd_len pr2
      rw [ids_len] at e2
      have hwj := List.getElem?_eq_getElem (show j < ws2.length by omega)
      obtain ⟨c, hc, pc⟩ := prd_get P2 hwj
      have D1 : Dp K H' (.ref p1) (.tuple ((ids f n1).map prd)) := .tup F1.tu.sq (prs_dp P1)
      refine ⟨_, _, .inr F2.tu.sq, atI_nat hwj, prd c, (ids f n1).map prd, pc.dp, .inr D1, prd_shaped c, prds_can _, fun e => ?_, fun e => ?_⟩
      · have e3 : decide (c ∈ ids f n1) = true := (any_prds c (ids f n1)).symm.trans e
        obtain ⟨k, hk⟩ := List.getElem?_of_mem (of_decide_eq_true e3)
        refine ⟨.inl ⟨rfl, _, SqL.of S4.hd⟩, ⟨p1, ws1, rfl, F1⟩, _, _, .inr F2.tu.sq, atI_nat hwj, p1, _, prd c, (ids f n1).map prd, k, prd c, rfl, rfl, D1, pc.dp, prds_can _, prd_shaped c, ?_, SeqAt.eqv_refl _ (prd_can c), fun m z' hm hz' => ?_, sz, fun t nt => ?_⟩
        · rw [List.getElem?_map, hk]
          rfl
        · rw [List.getElem?_map] at hz'
          obtain ⟨z, hz, rfl⟩ := Option.map_eq_some_iff.mp hz'
          rw [prd_eqv]
          refine decide_eq_false fun ez => ?_
          subst ez
          have := (nodup_at (ids_nodup f n1) hk).mp hz
          omega
        · have S5 := S4.newG (o := .tup [.int (k : Nat), .int (j : Nat)]) nt
          have s5 := S4.grow (o := .tup [.int (k : Nat), .int (j : Nat)]) nt
          refine ⟨L, ws, _, rfl, rfl, S5.hd, smallL (by omega), _, _, ws ++ [.ref t], rfl, s4.trans s5, S5.set, ?_⟩
          have kl := (List.getElem?_eq_some_iff.mp hk).1
          rw [mtTo_succ, hc, hits_one kl (fun i hi => nodup_at (ids_nodup f n1) hk)]
          exact (prd_imp (fun _ _ => Pr.same s5) hw).snoc ⟨t, rfl, upd_same⟩
      · have e3 : decide (c ∈ ids f n1) = false := (any_prds c (ids f n1)).symm.trans e
        refine ⟨_, G', ws, rfl, s4, S4, ?_⟩
        rw [mtTo_succ, hc, hits_none (fun i hi => fun z => of_decide_eq_false e3 (List.mem_of_getElem? z)), List.append_nil]
        exact hw
    · obtain ⟨y6, G', ws, rfl, s4, S4, hw⟩ := h
      refine ⟨L, ws, rfl, .inl ⟨SqL.of S4.hd, fun t nt => ?_⟩⟩
      have S5 := S4.frz
      have z := S4.frzS.trans (S5.grow (o := .tup ws) nt)
      exact q t ws _ _ (s02.trans (s4.trans z)) (S5.newG nt) (.inl upd_same) (prd_imp (fun _ _ => Pr.same z) hw)
/-! ### slips -/
def sl1 (n1 n2 : List Int) (p : Int × Int) : List (Int × Int) := if n1.getD p.1.toNat 0 = n2.getD p.2.toNat 0 then [] else [(n1.getD p.1.toNat 0, n2.getD p.2.toNat 0)]
def slTo (n1 n2 : List Int) (ps : List (Int × Int)) : List (Int × Int) := ps.flatMap (sl1 n1 n2)
theorem slTo_snoc (n1 n2 : List Int) (ps : List (Int × Int)) (p : Int × Int) : slTo n1 n2 (ps ++ [p]) = slTo n1 n2 ps ++ sl1 n1 n2 p := by
  unfold slTo
  rw [List.flatMap_append]
  simp
theorem slTo_len (n1 n2 : List Int) : ∀ ps, (slTo n1 n2 ps).length ≤ ps.length
  | [] => by simp [slTo]
  | p :: r => by
    have h := slTo_len n1 n2 r
    unfold slTo at h ⊢
    rw [List.flatMap_cons, List.length_append, List.length_cons]
    have : (sl1 n1 n2 p).length ≤ 1 := by unfold sl1; split <;> simp
    omega
def spSlips (C : Addr) : Sp := fun vs H Q _ => ∃ (G : Hp) (M : List (Addr × HO)) (v : V) (f : Fm) (r1 r2 : Addr) (n1 n2 : List Int), vs = [v, .ref r1, .ref r2] ∧ Sep G M H ∧ KeyAt C G v f ∧ Tu G r1 (n1.map V.int) ∧ RowOk n1 ∧ Tu G r2 (n2.map V.int) ∧ RowOk n2 ∧
  ∀ (p : Addr) (ws : List V) (G' H' : Hp), Same G G' → Sep G' M H' → Tu G' p ws → Paired (Pr G') ws (slTo n1 n2 (mt f n1 n2)) → Q (.ref p) H'
theorem ok_slips (T : Top K mg w) (G_matched : FnOk P w K mg base CX0 9 T.a_matched T.d_matched ["key", "old", "new"] (spMatched T.C_Key)) :
    FnOk P w K mg base CX0 10 T.a_slips T.d_slips ["key", "old", "new"] (spSlips T.C_Key) := by
  refine T.F_slips.ok sc_slips (fun vs H Q E h => ?_) (fun cdv A outer s H vs Q E hr h => ?_)
  · obtain ⟨G, M, v, f, r1, r2, n1, n2, rfl, _⟩ := h
    rfl
  · obtain ⟨G, M, v, f, r1, r2, n1, n2, rfl, S, hk, h1, ro1, h2, ro2, q⟩ := h
    refine ⟨_, (pss_cons (ps_set (i := 3) sc_slips.nd rfl (.inl rfl) (pe_call G_matched (hr.mono (by omega)) (by rfl) T.g_matched T.F_matched.kp T.b_matched .nil pass0 (pa_cons (xv 0) (pa_cons (xv 1) (pa_cons (xv 2) pa_nil)))))
      (pss_one (ps_ret (pe_callTy (call_tupleK K) (by rfl) T.m_tuple (by decide +kernel) (pa_cons (pe_lc (own := [("one", 4), ("two", 5)]) (by rfl) sc_slips.nd (pi_tupK K (xv 3)) (blkOk_by (N := ["key", "old", "new", "pairs", "one", "two"]) (sc := defScope s_slips) (by decide +kernel)) (fun _ _ _ _ _ => (pg_tupK K 2 (pgs_cons (pg_name (i := 4) sc_slips.nd rfl (.inl rfl)) (pgs_cons (pg_name (i := 5) sc_slips.nd rfl (.inl rfl)) pgs_nil)))) (fun _ _ _ _ _ => (pts_one (xt_cmp (op_neLK K hr.u190) (pe_ix (ix_k K) (xv 1) (xv 4) (fun _ _ => rfl)) (pe_ix (ix_k K) (xv 2) (xv 5) (fun _ _ => rfl)) (nomark _)))) (fun _ _ _ _ _ => (pe_tup (pa_cons (pe_ix (ix_k K) (xv 1) (xv 4) (fun _ _ => rfl)) (pa_cons (pe_ix (ix_k K) (xv 2) (xv 5) (fun _ _ => rfl)) pa_nil))))) pa_nil))))), ?_⟩
    refine ⟨G, M, v, f, r1, r2, n1, n2, rfl, S, hk, h1, ro1, h2, ro2, fun p ws G1 H1 s1 S1 hp pr => ?_⟩
    have wl := prd_len pr
    have ml := mt_len (f := f) ro1.len ro2.len
    have hr1 : ∀ G', Same G G' → Tu G' r1 (n1.map V.int) := fun G' e => h1.same e
    refine ⟨p, rfl, ⟨ws, (hp.same S1.1).sq⟩, fun D nD => lc_tup (xs := ws) (fun i H' => ∃ (G' : Hp) (us : List V), Same G1 G' ∧ Sep G' ((D, .lst us) :: M) H' ∧ Paired (Pr G') us (slTo n1 n2 ((mt f n1 n2).take i)))
      ⟨G1, [], Same.refl _, S1.new nD, .nil⟩ (fun i H' _ p' => ?_) (fun i y H' hy p' => ?_) (fun H' p' => ?_)⟩
    · obtain ⟨G', us, s', S', _⟩ := p'
      exact ((hp.same s').same S'.1).sq
    · obtain ⟨G', us, s', S', hu⟩ := p'
      obtain ⟨c, hc, a, rfl, ha⟩ := prd_get pr hy
      obtain ⟨i1, j1, rfl, hi1, hj1⟩ := mt_mem (List.mem_of_getElem? hc)
      have ul := prd_len hu
      have sl := slTo_len n1 n2 ((mt f n1 n2).take i)
      rw [List.length_take] at sl
      have t1 : SqT K H' r1 (n1.map V.int) := ((h1.same (s1.trans s')).same S'.1).sq
      have t2 : SqT K H' r2 (n2.map V.int) := ((h2.same (s1.trans s')).same S'.1).sq
      refine ⟨a, _, rfl, SqT.of (S'.st (s' _ _ ha)), rfl, _, _, rfl, _, _, rfl, rfl, rfl, ?_⟩
      refine ⟨_, _, .inr t1, at_int hi1, _, _, .inr t2, at_int hj1, ?_⟩
      rw [XL.take_snoc hc, slTo_snoc]
      by_cases e : n1.getD i1 0 = n2.getD j1 0
      · have e2 : (!decide (n1.getD i1 0 = n2.getD j1 0)) = false := by rw [decide_eq_true e]; rfl
        show if (!decide (n1.getD i1 0 = n2.getD j1 0)) = true then _ else _
        rw [e2, if_neg Bool.false_ne_true]
        have e3 : sl1 n1 n2 ((i1 : Int), (j1 : Int)) = [] := if_pos e
        rw [e3, List.append_nil]
        exact ⟨G', us, s', S', hu⟩
      · have e2 : (!decide (n1.getD i1 0 = n2.getD j1 0)) = true := by rw [decide_eq_false e]; rfl
        show if (!decide (n1.getD i1 0 = n2.getD j1 0)) = true then _ else _
        rw [e2, if_pos rfl]
        have e3 : sl1 n1 n2 ((i1 : Int), (j1 : Int)) = [(n1.getD i1 0, n2.getD j1 0)] := if_neg e
        rw [e3]
        refine ⟨_, _, .inr t1, at_int hi1, _, _, .inr t2, at_int hj1, sz, fun t nt => ?_⟩
        have S5 := S'.newG (o := .tup [.int (n1.getD i1 0), .int (n2.getD j1 0)]) nt
        have s5 := S'.grow (o := .tup [.int (n1.getD i1 0), .int (n2.getD j1 0)]) nt
        exact ⟨us, S5.hd, smallL (by omega), _, us ++ [.ref t], s'.trans s5, S5.set, (prd_imp (fun _ _ => Pr.same s5) hu).snoc ⟨t, rfl, upd_same⟩⟩
    · obtain ⟨G', us, s', S', hu⟩ := p'
      rw [wl, List.take_length] at hu
      refine ⟨D, us, rfl, .inl ⟨SqL.of S'.hd, fun t nt => ?_⟩⟩
      have S5 := S'.frz
      have z := S'.frzS.trans (S5.grow (o := .tup us) nt)
      exact q t us _ _ (s1.trans (s'.trans z)) (S5.newG nt) (.inl upd_same) (prd_imp (fun _ _ => Pr.same z) hu)

end
end K25
set_option Elab.async false
set_option linter.all false
set_option maxRecDepth 100000
set_option maxHeartbeats 4000000
namespace K25
open PySem PySem.Spec PyProof.Rows L2 XL
section
variable {P : Program} {w : World} {K : PySem.W.Frag} {mg : Str → Option Value} {base : Heap}
/-! ### losses -/
theorem idx_lt {x : Int} {xs : List Int} (h : x ∈ xs) : xs.idxOf x < xs.length := List.idxOf_lt_length_iff.mpr h
theorem idx_at {x : Int} {xs : List Int} (h : x ∈ xs) : (xs.map PyData.int)[xs.idxOf x]? = some (.int x) := by
  rw [List.getElem?_map, List.getElem?_eq_getElem (idx_lt h), List.getElem_idxOf (idx_lt h)]
  rfl
theorem idx_no {x : Int} {xs : List Int} (m : Nat) (z' : PyData) (hm : m < xs.idxOf x) (hz : (xs.map PyData.int)[m]? = some z') : PyData.eqv z' (.int x) = false := by
  rw [List.getElem?_map] at hz
  obtain ⟨z, hz', rfl⟩ := Option.map_eq_some_iff.mp hz
  show (z == x) = false
  have h2 := (List.getElem?_eq_some_iff.mp hz').2
  have h3 := List.not_of_lt_findIdx (p := fun y => y == x) (xs := xs) (i := m) hm
  rw [h2] at h3
  simpa using h3
def lossP (n1 n2 : List Int) (ps : List (Int × Int)) (x : Int) : Bool := decide (x ∈ n1) && !decide ((((n1.idxOf x : Nat) : Int), ((n2.idxOf x : Nat) : Int)) ∈ ps)
def lss (n1 n2 : List Int) (ps : List (Int × Int)) : List Int := n2.filter (lossP n1 n2 ps)
theorem filter_snoc {p : Int → Bool} {xs : List Int} {i : Nat} {x : Int} (h : xs[i]? = some x) : (xs.take (i + 1)).filter p = (xs.take i).filter p ++ if p x = true then [x] else [] := by
  rw [XL.take_snoc h, List.filter_append]
  by_cases e : p x = true <;> simp [e]
def spLosses (C : Addr) : Sp := fun vs H Q _ => ∃ (G : Hp) (M : List (Addr × HO)) (v : V) (f : Fm) (r1 r2 : Addr) (n1 n2 : List Int), vs = [v, .ref r1, .ref r2] ∧ Sep G M H ∧ KeyAt C G v f ∧ TupF G r1 (n1.map V.int) ∧ RowOk n1 ∧ TupF G r2 (n2.map V.int) ∧ RowOk n2 ∧
  ∀ (p : Addr) (G' H' : Hp), Same G G' → Sep G' M H' → Tu G' p ((lss n1 n2 (mt f n1 n2)).map V.int) → Q (.ref p) H'
theorem ok_losses (T : Top K mg w) (G_matched : FnOk P w K mg base CX0 9 T.a_matched T.d_matched ["key", "old", "new"] (spMatched T.C_Key)) :
    FnOk P w K mg base CX0 10 T.a_losses T.d_losses ["key", "old", "new"] (spLosses T.C_Key) := by
  refine T.F_losses.ok sc_losses (fun vs H Q E h => ?_) (fun cdv A outer s H vs Q E hr h => ?_)
  · obtain ⟨G, M, v, f, r1, r2, n1, n2, rfl, _⟩ := h
    rfl
  · obtain ⟨G, M, v, f, r1, r2, n1, n2, rfl, S, hk, h1, ro1, h2, ro2, q⟩ := h
    refine ⟨_, (pss_cons (ps_set (i := 3) sc_losses.nd rfl (.inr rfl) (pe_call G_matched (hr.mono (by omega)) (by rfl) T.g_matched T.F_matched.kp T.b_matched .nil pass0 (pa_cons (xv 0) (pa_cons (xv 1) (pa_cons (xv 2) pa_nil)))))
      (pss_one (ps_ret (pe_callTy (call_tupleK K) (by rfl) T.m_tuple (by decide +kernel) (pa_cons (pe_lc (own := [("item", 4)]) (by rfl) sc_losses.nd (pi_tupK K (xv 2)) (blkOk_by (N := ["key", "old", "new", "pairs", "item"]) (sc := defScope s_losses) (by decide +kernel)) (fun _ _ _ _ _ => (pg_name (i := 4) sc_losses.nd rfl (.inl rfl))) (fun _ _ _ _ _ => (pts_one (PW.pt (xw_and (xt_cmp (in_seqK K) (xv 4) (xv 1) (by rfl)) (pw_and1 (xt_cmp (notin_deepK K (u65 hr)) (pe_tup (pa_cons (pe_tm PySem.F.slot_tuple_index PySem.F.type_tuple_index (mt_tindexK K (u65 hr)) (xv 1) (pa_cons (xv 4) pa_nil)) (pa_cons (pe_tm PySem.F.slot_tuple_index PySem.F.type_tuple_index (mt_tindexK K (u65 hr)) (xv 2) (pa_cons (xv 4) pa_nil)) pa_nil))) (xv 3) (by rfl))))))) (fun _ _ _ _ _ => (xv 4))) pa_nil))))), ?_⟩
    refine ⟨G, M, v, f, r1, r2, n1, n2, rfl, S, hk, h1.tu, ro1, h2.tu, ro2, fun p ws G1 H1 s1 S1 hp pr => ?_⟩
    have l2 := ro2.len
    refine ⟨r2, rfl, ⟨_, ((h2.same s1).same S1.1).tu.sq⟩, fun D nD => lc_tup (xs := n2.map V.int) (fun i H' => ∃ (G' : Hp), Same G1 G' ∧ Sep G' ((D, .lst (((n2.take i).filter (lossP n1 n2 (mt f n1 n2))).map V.int)) :: M) H')
      ⟨G1, Same.refl _, S1.new nD⟩ (fun i H' _ p' => ?_) (fun i y H' hy p' => ?_) (fun H' p' => ?_)⟩
    · obtain ⟨G', s', S'⟩ := p'
      exact (((h2.same s1).same s').same S'.1).tu.sq
    · obtain ⟨G', s', S'⟩ := p'
      rw [List.getElem?_map] at hy
      obtain ⟨x, hx, rfl⟩ := Option.map_eq_some_iff.mp hy
      have F1 := ((h1.same s1).same s').same S'.1
      have F2 := ((h2.same s1).same s').same S'.1
      have m2 : x ∈ n2 := List.mem_of_getElem? hx
      have fl : ((n2.take i).filter (lossP n1 n2 (mt f n1 n2))).length ≤ 5 := Nat.le_trans (List.length_filter_le _ _) (by rw [List.length_take]; omega)
      rw [filter_snoc hx, List.map_append]
      refine ⟨rfl, r1, _, rfl, .inr F1.tu.sq, rfl, ints_flat _, fun e => ?_, fun e => ?_⟩
      · have m1 : x ∈ n1 := by
          have e2 : inV (.int x) (n1.map V.int) = true := e
          rw [inV_int] at e2
          exact of_decide_eq_true e2
        refine ⟨⟨r1, _, rfl, F1⟩, r1, _, .int x, n1.map PyData.int, n1.idxOf x, .int x, rfl, rfl, .tup F1.tu.sq (ints_dp _), .int _, ints_can _, int_shaped _, idx_at m1, SeqAt.eqv_refl _ rfl, idx_no, ?_⟩
        refine ⟨⟨r2, _, rfl, F2⟩, r2, _, .int x, n2.map PyData.int, n2.idxOf x, .int x, rfl, rfl, .tup F2.tu.sq (ints_dp _), .int _, ints_can _, int_shaped _, idx_at m2, SeqAt.eqv_refl _ rfl, idx_no, sz, fun t nt => ?_⟩
        have S5 := S'.newG (o := .tup [.int (n1.idxOf x : Nat), .int (n2.idxOf x : Nat)]) nt
        have s5 := S'.grow (o := .tup [.int (n1.idxOf x : Nat), .int (n2.idxOf x : Nat)]) nt
        have P5 := prd_imp (fun _ _ h => Pr.same S5.1 h) (prd_imp (fun _ _ => Pr.same (s'.trans s5)) pr)
        have pt : Pr (upd H' t (.tup [.int (n1.idxOf x : Nat), .int (n2.idxOf x : Nat)])) (.ref t) (((n1.idxOf x : Nat) : Int), ((n2.idxOf x : Nat) : Int)) := ⟨t, rfl, upd_same⟩
        refine ⟨prd _, (mt f n1 n2).map prd, pt.dp, .inr (.tup (((hp.same (s'.trans s5)).same S5.1).sq) (prs_dp P5)), prd_shaped _, prds_can _, ?_⟩
        have e3 : (if true = true then !(((mt f n1 n2).map prd).any fun z => PyData.eqv z (prd (((n1.idxOf x : Nat) : Int), ((n2.idxOf x : Nat) : Int)))) else ((mt f n1 n2).map prd).any fun z => PyData.eqv z (prd (((n1.idxOf x : Nat) : Int), ((n2.idxOf x : Nat) : Int)))) = lossP n1 n2 (mt f n1 n2) x := by
          rw [if_pos rfl, any_prds]
          unfold lossP
          rw [decide_eq_true m1]
          rfl
        rw [e3]
        refine tst (fun e4 => ?_) (fun e4 => ?_)
        · rw [if_pos e4]
          exact ⟨_, S5.hd, by rw [List.length_map]; exact smallL (by omega), _, s'.trans s5, S5.set⟩
        · rw [if_neg (by rw [e4]; exact Bool.false_ne_true), List.map_nil, List.append_nil]
          exact ⟨_, s'.trans s5, S5⟩
      · have m1 : x ∉ n1 := by
          have e2 : inV (.int x) (n1.map V.int) = false := e
          rw [inV_int] at e2
          exact of_decide_eq_false e2
        have e4 : ¬ lossP n1 n2 (mt f n1 n2) x = true := by
          unfold lossP
          rw [decide_eq_false m1]
          exact Bool.false_ne_true
        refine tst ff fun _ => ?_
        rw [if_neg e4, List.map_nil, List.append_nil]
        exact ⟨G', s', S'⟩
    · obtain ⟨G', s', S'⟩ := p'
      rw [List.length_map, List.take_length] at S'
      refine ⟨D, _, rfl, .inl ⟨SqL.of S'.hd, fun t nt => ?_⟩⟩
      have S5 := S'.frz
      exact q t _ _ (s1.trans (s'.trans (S'.frzS.trans (S5.grow nt)))) (S5.newG nt) (.inl upd_same)

end
end K25
set_option Elab.async false
set_option linter.all false
set_option maxRecDepth 100000
set_option maxHeartbeats 4000000
namespace K25
open PySem PySem.Spec PyProof.Rows L2 XL
section
variable {P : Program} {w : World} {K : PySem.W.Frag} {mg : Str → Option Value} {base : Heap}
/-! ### rows that a key tells apart, or takes for one -/
def Fine (b c : List (Int × Int)) (n1 n2 : List Int) (j : Nat) : Prop := ∀ i, i < n1.length → (b[i]? = c[j]? ↔ n1[i]? = n2[j]?)
def Alike (f : Fm) (n1 n2 : List Int) : Prop := ∀ j, j < n2.length → Fine (ids f n1) (ids f n2) n1 n2 j
theorem nodup_int {b : List Int} (nd : b.Nodup) {k : Nat} {p : Int} (hk : b[k]? = some p) {i : Nat} : b[i]? = some p ↔ i = k := by
  refine ⟨fun h => ?_, fun e => e ▸ hk⟩
  have h1 := (List.getElem?_eq_some_iff.mp h).1
  exact (List.getElem?_inj h1 nd).mp (h.trans hk.symm)
theorem getD_some {ns : List Int} {i : Nat} (h : i < ns.length) : ns[i]? = some (ns.getD i 0) := by
  rw [List.getD_eq_getElem?_getD, List.getElem?_eq_getElem h]
  rfl
structure RowId (f : Fm) (n : List Int) (G : Hp) (r rb : Addr) : Prop where
  row : Tu G r (n.map V.int)
  ok : RowOk n
  id : ∃ ws, TupF G rb ws ∧ Paired (Pr G) ws (ids f n)
theorem RowId.same {f : Fm} {n : List Int} {G G' : Hp} {r rb : Addr} (e : Same G G') (h : RowId f n G r rb) : RowId f n G' r rb := by
  obtain ⟨ws, h1, h2⟩ := h.id
  exact ⟨h.row.same e, h.ok, ws, h1.same e, prd_imp (fun _ _ => Pr.same e) h2⟩
def spWrong (K : PySem.W.Frag) : Sp := fun vs H Q _ => ∃ (f : Fm) (r1 b1 r2 b2 : Addr) (n1 n2 : List Int), vs = [.ref r1, .ref b1, .ref r2, .ref b2] ∧ RowId f n1 H r1 b1 ∧ RowId f n2 H r2 b2 ∧ ∀ c : Bool, (c = false ↔ Alike f n1 n2) → Q (.bl c) H
theorem ok_goes_wrong (T : Top K mg w) {k : Nat} : FnOk P w K mg base CX0 (k + 1) T.a_goes_wrong T.d_goes_wrong ["old", "before", "new", "behind"] (spWrong K) := by
  refine T.F_goes_wrong.ok sc_goes_wrong (fun vs H Q E h => ?_) (fun cdv A outer s H vs Q E hr h => ?_)
  · obtain ⟨f, r1, b1, r2, b2, n1, n2, rfl, _⟩ := h
    rfl
  · obtain ⟨f, r1, b1, r2, b2, n1, n2, rfl, R1, R2, q⟩ := h
    refine ⟨_, (pss_cons (ps_for PassesOwn.never rfl (pi_range1 (by rfl) T.m_range (pa_cons (pe_callB (cr_lenK K) (by rfl) T.m_len (by decide +kernel) (pa_cons (xv 2) pa_nil)) pa_nil)) (pg_name (i := 4) sc_goes_wrong.nd rfl (.inl rfl))
      (pss_one (xs_if (xt_cmp (in_deepK K (u65 hr)) (pe_ix (ix_k K) (xv 3) (xv 4) (fun _ _ => rfl)) (xv 1) (by rfl))
      (pss_one (xs_if (xt_cmp (op_neLK K hr.u190) (pe_ix (ix_k K) (xv 0) (pe_tm PySem.F.slot_tuple_index PySem.F.type_tuple_index (mt_tindexK K (u65 hr)) (xv 1) (pa_cons (pe_ix (ix_k K) (xv 3) (xv 4) (fun _ _ => rfl)) pa_nil)) (fun _ _ => rfl)) (pe_ix (ix_k K) (xv 2) (xv 4) (fun _ _ => rfl)) (nomark _))
      (pss_one (ps_ret pe_bl))
      pss_nil))
      (pss_one (xs_if (xt_cmp (in_seqK K) (pe_ix (ix_k K) (xv 2) (xv 4) (fun _ _ => rfl)) (xv 0) (by rfl))
      (pss_one (ps_ret pe_bl))
      pss_nil)))))
      (pss_one (ps_ret pe_bl))), ?_⟩
    obtain ⟨ws1, F1, P1⟩ := R1.id
    obtain ⟨ws2, F2, P2⟩ := R2.id
    have l1 := R1.ok.len
    have l2 := R2.ok.len
    have w1 := prd_len P1
    have w2 := prd_len P2
    rw [ids_len] at w1 w2
    have t1 : SqT K H r1 (n1.map V.int) := R1.row.sq
    have t2 : SqT K H r2 (n2.map V.int) := R2.row.sq
    refine ⟨_, .inr t2, _, rfl, by simp, by simp; omega, ?_⟩
    rw [show (((n2.map V.int).length : Nat) : Int).toNat = n2.length by simp]
    refine for_range (lo := 0) (n := n2.length) (fun j σ H' => ∃ (y4 : Option V), σ = [some (.ref r1), some (.ref b1), some (.ref r2), some (.ref b2), y4] ∧ H' = H ∧ ∀ i, i < j → Fine (ids f n1) (ids f n2) n1 n2 i)
      ⟨_, rfl, rfl, fun i hi => absurd hi (Nat.not_lt_zero i)⟩ (fun j σ H' hj h => ?_) (fun σ H' h => ?_)
    · obtain ⟨y4, rfl, rfl, fine⟩ := h
      rw [Int.zero_add]
      have hwj := List.getElem?_eq_getElem (show j < ws2.length by omega)
      obtain ⟨c, hc, pc⟩ := prd_get P2 hwj
      have D1 : Dp K H' (.ref b1) (.tuple ((ids f n1).map prd)) := .tup F1.tu.sq (prs_dp P1)
      have stop : Fine (ids f n1) (ids f n2) n1 n2 j → ∃ (y : Option V), ([some (.ref r1), some (.ref b1), some (.ref r2), some (.ref b2), some (.int (j : Nat))] : List (Option V)) = [some (.ref r1), some (.ref b1), some (.ref r2), some (.ref b2), y] ∧ H' = H' ∧ ∀ i, i < j + 1 → Fine (ids f n1) (ids f n2) n1 n2 i := fun hf => ⟨_, rfl, rfl, fun i hi => by
        rcases Nat.lt_succ_iff_lt_or_eq.mp hi with h | h
        · exact fine i h
        · rw [h]; exact hf⟩
      have bad : ∀ i, i < n1.length → ¬ ((ids f n1)[i]? = (ids f n2)[j]? ↔ n1[i]? = n2[j]?) → Q (.bl true) H' := fun i hi hb => q true ⟨fun e => (nomatch e), fun al => absurd (al j hj i hi) hb⟩
      refine ⟨_, _, .inr F2.tu.sq, atI_nat hwj, prd c, (ids f n1).map prd, pc.dp, .inr D1, prd_shaped c, prds_can _, fun e => ?_, fun e => ?_⟩
      · have e3 : decide (c ∈ ids f n1) = true := (any_prds c (ids f n1)).symm.trans e
        obtain ⟨k, hk⟩ := List.getElem?_of_mem (of_decide_eq_true e3)
        have kl := (List.getElem?_eq_some_iff.mp hk).1
        rw [ids_len] at kl
        refine ⟨⟨b1, ws1, rfl, F1⟩, _, _, .inr F2.tu.sq, atI_nat hwj, b1, _, prd c, (ids f n1).map prd, k, prd c, rfl, rfl, D1, pc.dp, prds_can _, prd_shaped c, ?_, SeqAt.eqv_refl _ (prd_can c), fun m z' hm hz' => ?_, _, _, .inr t1, at_int kl, _, _, .inr t2, at_int hj, fun e4 => ?_, fun e4 => ?_⟩
        · rw [List.getElem?_map, hk]
          rfl
        · rw [List.getElem?_map] at hz'
          obtain ⟨z, hz, rfl⟩ := Option.map_eq_some_iff.mp hz'
          rw [prd_eqv]
          refine decide_eq_false fun ez => ?_
          subst ez
          have := (nodup_at (ids_nodup f n1) hk).mp hz
          omega
        · have e5 : ¬ n1.getD k 0 = n2.getD j 0 := by simpa using e4
          refine bad k kl fun z => e5 ?_
          have z2 := z.mp (by rw [hk, hc])
          rw [getD_some kl, getD_some hj] at z2
          exact Option.some.inj z2
        · have e5 : n1.getD k 0 = n2.getD j 0 := by simpa using e4
          refine stop fun i hi => ?_
          rw [hc, nodup_at (ids_nodup f n1) hk, getD_some hj, ← e5]
          exact (nodup_int R1.ok.nd (getD_some kl)).symm
      · have e3 : decide (c ∈ ids f n1) = false := (any_prds c (ids f n1)).symm.trans e
        have no : ∀ i : Nat, ¬ (ids f n1)[i]? = (ids f n2)[j]? := fun i z => of_decide_eq_false e3 (List.mem_of_getElem? (z.trans hc))
        refine ⟨_, _, .inr t2, at_int hj, r1, _, rfl, .inr t1, rfl, ints_flat _, fun e4 => ?_, fun e4 => ?_⟩
        · have e5 : inV (.int (n2.getD j 0)) (n1.map V.int) = true := e4
          rw [inV_int] at e5
          obtain ⟨i, hi⟩ := List.getElem?_of_mem (of_decide_eq_true e5)
          exact bad i (List.getElem?_eq_some_iff.mp hi).1 fun z => no i (z.mpr (by rw [hi, getD_some hj]))
        · have e5 : inV (.int (n2.getD j 0)) (n1.map V.int) = false := e4
          rw [inV_int] at e5
          refine stop fun i hi => ⟨fun z => absurd z (no i), fun z => ?_⟩
          rw [getD_some hj] at z
          exact absurd (List.mem_of_getElem? z) (of_decide_eq_false e5)
    · obtain ⟨y4, rfl, rfl, fine⟩ := h
      exact q false ⟨fun _ => fine, fun _ => rfl⟩
/-! ### the first pair that goes wrong -/
def Ent (f : Fm) (G : Hp) (v : V) (e : Addr × List Int) : Prop := ∃ (t rb : Addr), v = .ref t ∧ G t = some (.tup [.ref e.1, .ref rb]) ∧ RowId f e.2 G e.1 rb
theorem Ent.same {f : Fm} {G G' : Hp} (e : Same G G') {v : V} {x : Addr × List Int} (h : Ent f G v x) : Ent f G' v x := by
  obtain ⟨t, rb, h1, h2, h3⟩ := h
  exact ⟨t, rb, h1, e _ _ h2, h3.same e⟩
/-- no pair up to (i, j) goes wrong -/
def FineTo (f : Fm) (xs ys : List (Addr × List Int)) (i j : Nat) : Prop := ∀ a b x y, (a < i ∨ a = i ∧ b < j) → xs[a]? = some x → ys[b]? = some y → Alike f x.2 y.2
def spFirst (K : PySem.W.Frag) : Sp := fun vs H Q _ => ∃ (f : Fm) (G : Hp) (M : List (Addr × HO)) (l1 l2 : Addr) (us vs' : List V) (xs ys : List (Addr × List Int)), vs = [.ref l1, .ref l2] ∧ Sep G M H ∧ G l1 = some (.lst us) ∧ G l2 = some (.lst vs') ∧ Paired (Ent f G) us xs ∧ Paired (Ent f G) vs' ys ∧
  ((∀ (a b : Nat) (x y : Addr × List Int), xs[a]? = some x → ys[b]? = some y → Alike f x.2 y.2) → Q .non H) ∧
  (∀ (i j : Nat) (x y : Addr × List Int) (t : Addr), xs[i]? = some x → ys[j]? = some y → FineTo f xs ys i j → ¬ Alike f x.2 y.2 → H t = none → Q (.ref t) (upd H t (.tup [.ref x.1, .ref y.1])))
theorem ok_first_going_wrong (T : Top K mg w) {k : Nat} (G_goes_wrong : FnOk P w K mg base CX0 k T.a_goes_wrong T.d_goes_wrong ["old", "before", "new", "behind"] (spWrong K)) :
    FnOk P w K mg base CX0 (k + 1) T.a_first_going_wrong T.d_first_going_wrong ["olds", "news"] (spFirst K) := by
  refine T.F_first_going_wrong.ok sc_first_going_wrong (fun vs H Q E h => ?_) (fun cdv A outer s H vs Q E hr h => ?_)
  · obtain ⟨f, G, M, l1, l2, us, vs', xs, ys, rfl, _⟩ := h
    rfl
  · obtain ⟨f, G, M, l1, l2, us, vs', xs, ys, rfl, S, h1, h2, P1, P2, q0, q1⟩ := h
    refine ⟨_, (pss_cons (ps_for PassesOwn.never rfl (pi_listK K (xv 0)) (pg_tupK K 2 (pgs_cons (pg_name (i := 2) sc_first_going_wrong.nd rfl (.inl rfl)) (pgs_cons (pg_name (i := 3) sc_first_going_wrong.nd rfl (.inl rfl)) pgs_nil)))
      (pss_one (ps_for PassesOwn.never rfl (pi_listK K (xv 1)) (pg_tupK K 2 (pgs_cons (pg_name (i := 4) sc_first_going_wrong.nd rfl (.inl rfl)) (pgs_cons (pg_name (i := 5) sc_first_going_wrong.nd rfl (.inl rfl)) pgs_nil)))
      (pss_one (xs_if (xt_truK K (pe_call G_goes_wrong (hr.mono (by omega)) (by rfl) T.g_goes_wrong T.F_goes_wrong.kp T.b_goes_wrong .nil pass0 (pa_cons (xv 2) (pa_cons (xv 3) (pa_cons (xv 4) (pa_cons (xv 5) pa_nil))))))
      (pss_one (ps_ret (pe_tup (pa_cons (xv 2) (pa_cons (xv 4) pa_nil)))))
      pss_nil)))))
      (pss_one (ps_ret pe_non))), ?_⟩
    have w1 := prd_len P1
    have w2 := prd_len P2
    refine ⟨l1, rfl, ⟨us, SqL.of (S.st h1)⟩, for_list (xs := us) (fun i σ H' => ∃ (y2 y3 y4 y5 : Option V), σ = [some (.ref l1), some (.ref l2), y2, y3, y4, y5] ∧ H' = H ∧ FineTo f xs ys i 0) ⟨_, _, _, _, rfl, rfl, fun a b x y h => absurd h (by omega)⟩
      (fun i σ H' _ h => ?_) (fun i v σ H' hv h => ?_) (fun σ H' h => ?_)⟩
    · obtain ⟨_, _, _, _, _, rfl, _⟩ := h
      exact SqL.of (S.st h1)
    · obtain ⟨y2, y3, y4, y5, rfl, rfl, fine⟩ := h
      obtain ⟨x, hx, t, rb, rfl, ht, R1⟩ := prd_get P1 hv
      refine ⟨t, _, rfl, SqT.of (S.st ht), rfl, _, _, rfl, _, _, rfl, rfl, ?_⟩
      refine ⟨l2, rfl, ⟨vs', SqL.of (S.st h2)⟩, for_list (xs := vs') (fun j σ H2 => ∃ (y4 y5 : Option V), σ = [some (.ref l1), some (.ref l2), some (.ref x.1), some (.ref rb), y4, y5] ∧ H2 = H' ∧ FineTo f xs ys i j) ⟨_, _, rfl, rfl, fine⟩
        (fun j σ H2 _ h => ?_) (fun j u σ H2 hu h => ?_) (fun σ H2 h => ?_)⟩
      · obtain ⟨_, _, _, rfl, _⟩ := h
        exact SqL.of (S.st h2)
      · obtain ⟨y4, y5, rfl, rfl, fine⟩ := h
        obtain ⟨y, hy, t2, rb2, rfl, ht2, R2⟩ := prd_get P2 hu
        refine ⟨t2, _, rfl, SqT.of (S.st ht2), rfl, _, _, rfl, _, _, rfl, rfl, ?_⟩
        refine ⟨f, x.1, rb, y.1, rb2, x.2, y.2, rfl, R1.same S.1, R2.same S.1, fun c hc => ⟨fun e => ⟨sz, fun t3 nt3 => ?_⟩, fun e => ?_⟩⟩
        · exact q1 i j x y t3 hx hy fine (fun al => by rw [hc.mpr al] at e; cases e) nt3
        · refine ⟨_, _, rfl, rfl, fun a b x' y' hab hx' hy' => ?_⟩
          by_cases z : a < i ∨ a = i ∧ b < j
          · exact fine a b x' y' z hx' hy'
          · obtain ⟨rfl, rfl⟩ : a = i ∧ b = j := by omega
            rw [hx] at hx'
            rw [hy] at hy'
            rw [← Option.some.inj hx', ← Option.some.inj hy']
            exact hc.mp e
      · obtain ⟨y4, y5, rfl, rfl, fine⟩ := h
        refine ⟨_, _, _, _, rfl, rfl, fun a b x' y' hab hx' hy' => ?_⟩
        have hb := (List.getElem?_eq_some_iff.mp hy').1
        exact fine a b x' y' (by omega) hx' hy'
    · obtain ⟨y2, y3, y4, y5, rfl, rfl, fine⟩ := h
      refine q0 fun a b x y hx hy => fine a b x y (.inl ?_) hx hy
      have ha := (List.getElem?_eq_some_iff.mp hx).1
      omega
/-! ### faithful -/
def RowsAt (G : Hp) (v : V) (x : Addr × List Int) : Prop := v = .ref x.1 ∧ TupF G x.1 (x.2.map V.int) ∧ RowOk x.2
theorem RowsAt.same {G G' : Hp} (e : Same G G') {v : V} {x : Addr × List Int} (h : RowsAt G v x) : RowsAt G' v x := ⟨h.1, h.2.1.same e, h.2.2⟩
def spFaithful (K : PySem.W.Frag) (C : Addr) : Sp := fun vs H Q _ => ∃ (f : Fm) (G : Hp) (M : List (Addr × HO)) (v : V) (m : Addr) (us : List V) (xs : List (Addr × List Int)), vs = [v, .ref m] ∧ Sep G M H ∧ KeyAt C G v f ∧ Tu G m us ∧ Paired (RowsAt G) us xs ∧ us.length ≤ 1000 ∧
  (∀ (G' H' : Hp), (∀ (a b : Nat) (x y : Addr × List Int), xs[a]? = some x → xs[b]? = some y → Alike f x.2 y.2) → Same G G' → Sep G' M H' → Q .non H') ∧
  (∀ (i j : Nat) (x y : Addr × List Int) (t : Addr) (G' H' : Hp), xs[i]? = some x → xs[j]? = some y → FineTo f xs xs i j → ¬ Alike f x.2 y.2 → Same G G' → Sep G' M H' → G' t = some (.tup [.ref x.1, .ref y.1]) → Q (.ref t) H')
theorem ok_faithful (T : Top K mg w) (G_Key_idents : FnOk P w K mg base CX0 8 T.a_Key_idents T.d_Key_idents ["self", "row"] (spKIdents T.C_Key))
    (G_first_going_wrong : FnOk P w K mg base CX0 8 T.a_first_going_wrong T.d_first_going_wrong ["olds", "news"] (spFirst K)) :
    FnOk P w K mg base CX0 9 T.a_faithful T.d_faithful ["key", "menu"] (spFaithful K T.C_Key) := by
  refine T.F_faithful.ok sc_faithful (fun vs H Q E h => ?_) (fun cdv A outer s H vs Q E hr h => ?_)
  · obtain ⟨f, G, M, v, m, us, xs, rfl, _⟩ := h
    rfl
  · obtain ⟨f, G, M, v, m, us, xs, rfl, S, hk, hm, pu, ul, q0, q1⟩ := h
    refine ⟨_, (pss_cons (ps_setLc (i := 2) (own := [("row", 3)]) (by rfl) sc_faithful.nd rfl rfl (sw_true rfl rfl rfl (by decide +kernel)) (pi_tupK K (xv 1)) (blkOk_by (N := ["key", "menu", "listed", "row"]) (sc := defScope s_faithful) (by decide +kernel)) (fun _ _ _ _ _ => (pg_name (i := 3) sc_faithful.nd rfl (.inl rfl))) (fun _ _ _ _ _ => pts_nil) (fun _ _ _ _ _ => (pe_tup (pa_cons (xv 3) (pa_cons (pe_meth (xv 0) T.cl_Key T.me_Key_idents G_Key_idents (hr.mono (by omega)) T.b_Key_idents .nil pass0 (pa_cons (xv 3) pa_nil)) pa_nil)))))
      (pss_one (ps_ret (pe_call G_first_going_wrong (hr.mono (by omega)) (by rfl) T.g_first_going_wrong T.F_first_going_wrong.kp T.b_first_going_wrong .nil pass0 (pa_cons (xv 2) (pa_cons (xv 2) pa_nil)))))), ?_⟩
    have uw := prd_len pu
    refine ⟨m, rfl, ⟨us, (hm.same S.1).sq⟩, fun D nD => lc_tup (xs := us) (fun i H' => ∃ (G' : Hp) (ws : List V), Same G G' ∧ Sep G' ((D, .lst ws) :: M) H' ∧ Paired (Ent f G') ws (xs.take i))
      ⟨G, [], Same.refl _, S.new nD, .nil⟩ (fun i H' _ p' => ?_) (fun i y H' hy p' => ?_) (fun H' p' => ?_)⟩
    · obtain ⟨G', ws, s', S', _⟩ := p'
      exact ((hm.same s').same S'.1).sq
    · obtain ⟨G', ws, s', S', hw⟩ := p'
      obtain ⟨x, hx, rfl, hrow, hok⟩ := prd_get pu hy
      have kk := hk.same s'
      obtain ⟨kx, dx, u, rfl, hkx, hu⟩ := hk.same s'
      have wl := prd_len hw
      rw [List.length_take] at wl
      refine ⟨rfl, kx, dx, _, rfl, S'.st hkx, rfl, G', _, _, f, x.1, x.2, rfl, S', kk, (hrow.same s').tu, hok, fun p ws2 G2 H2 s2 S2 hp pr => ⟨sz, fun t nt => ?_⟩⟩
      have S3 := S2.newG (o := .tup [.ref x.1, .ref p]) nt
      have s3 := S2.grow (o := .tup [.ref x.1, .ref p]) nt
      refine ⟨ws, S3.hd, smallL (by omega), _, ws ++ [.ref t], s'.trans (s2.trans s3), S3.set, ?_⟩
      rw [XL.take_snoc hx]
      exact (prd_imp (fun _ _ => Ent.same (s2.trans s3)) hw).snoc ⟨t, p, rfl, upd_same, (hrow.same (s'.trans (s2.trans s3))).tu, hok, ws2, hp.same s3, prd_imp (fun _ _ => Pr.same s3) pr⟩
    · obtain ⟨G', ws, s', S', hw⟩ := p'
      rw [uw, List.take_length] at hw
      have S3 := S'.frz
      have s3 := S'.frzS
      have P3 := prd_imp (fun _ _ => Ent.same s3) hw
      refine ⟨f, _, M, D, D, ws, ws, xs, xs, rfl, S3, upd_same, upd_same, P3, P3, fun al => q0 _ _ al (s'.trans s3) S3, fun i j x y t hx hy fine na nt => ?_⟩
      exact q1 i j x y t _ _ hx hy fine na (s'.trans (s3.trans (S3.grow nt))) (S3.newG nt) upd_same

end
end K25
set_option Elab.async false
set_option linter.all false
set_option maxRecDepth 100000
set_option maxHeartbeats 4000000
namespace K25
open PySem PySem.Spec PyProof.Rows L2 XL
section
variable {P : Program} {w : World} {K : PySem.W.Frag} {mg : Str → Option Value} {base : Heap}
def Faith (f : Fm) (xs : List (Addr × List Int)) : Prop := ∀ (a b : Nat) (x y : Addr × List Int), xs[a]? = some x → xs[b]? = some y → Alike f x.2 y.2

/-! ### coarsest -/
noncomputable def faB (f : Fm) (xs : List (Addr × List Int)) : Bool := @decide (Faith f xs) (Classical.propDecidable _)
noncomputable def amB (f s : Fm) : Bool := @decide (Cons (tab f s)) (Classical.propDecidable _)
theorem faB_iff {f : Fm} {xs : List (Addr × List Int)} : faB f xs = true ↔ Faith f xs := @decide_eq_true_iff (Faith f xs) (Classical.propDecidable _)
theorem amB_iff {f s : Fm} : amB f s = true ↔ Cons (tab f s) := @decide_eq_true_iff (Cons (tab f s)) (Classical.propDecidable _)
theorem eq_b {c d : Bool} {A : Prop} (h : c = true ↔ A) (k : d = true ↔ A) : c = d := by
  cases c <;> cases d <;> simp_all
def fat (fs : List Fm) (i : Nat) : Fm := fs.getD i (.is 0)
noncomputable def goodTo (fs : List Fm) (xs : List (Addr × List Int)) (n : Nat) : List Nat := (List.range n).filter fun i => faB (fat fs i) xs
noncomputable def undP (fs : List Fm) (p o : Nat) : Bool := amB (fat fs o) (fat fs p) && !amB (fat fs p) (fat fs o)
noncomputable def outOf (fs : List Fm) (good gs : List Nat) : List Nat := gs.filter fun p => (good.filter (undP fs p)).isEmpty
noncomputable def crs (fs : List Fm) (xs : List (Addr × List Int)) : List Nat := outOf fs (goodTo fs xs fs.length) (goodTo fs xs fs.length)
abbrev nats (l : List Nat) : List V := l.map fun i => V.int (i : Nat)
theorem fat_get {fs : List Fm} {i : Nat} {f : Fm} (h : fs[i]? = some f) : fat fs i = f := by
  unfold fat
  rw [List.getD_eq_getElem?_getD, h]
  rfl
theorem good_mem {fs : List Fm} {xs : List (Addr × List Int)} {n i : Nat} (h : i ∈ goodTo fs xs n) : i < n := List.mem_range.mp (List.mem_filter.mp h).1
theorem good_len (fs : List Fm) (xs : List (Addr × List Int)) (n : Nat) : (goodTo fs xs n).length ≤ n := Nat.le_trans (List.length_filter_le _ _) (by simp)
theorem good_succ (fs : List Fm) (xs : List (Addr × List Int)) (n : Nat) : goodTo fs xs (n + 1) = goodTo fs xs n ++ if faB (fat fs n) xs = true then [n] else [] := by
  unfold goodTo
  rw [List.range_succ, List.filter_append]
  by_cases h : faB (fat fs n) xs = true <;> simp [h]
theorem fl_snoc {α : Type} {p : α → Bool} {l : List α} {i : Nat} {x : α} (h : l[i]? = some x) : (l.take (i + 1)).filter p = (l.take i).filter p ++ if p x = true then [x] else [] := by
  rw [XL.take_snoc h, List.filter_append]
  by_cases e : p x = true <;> simp [e]
theorem nats_get {l : List Nat} {i : Nat} {v : V} (h : (nats l)[i]? = some v) : ∃ n, l[i]? = some n ∧ v = .int (n : Nat) := by
  rw [List.getElem?_map] at h
  obtain ⟨n, hn, rfl⟩ := Option.map_eq_some_iff.mp h
  exact ⟨n, hn, rfl⟩
def spCoarsest (K : PySem.W.Frag) (C : Addr) : Sp := fun vs H Q _ => ∃ (G : Hp) (M : List (Addr × HO)) (l m : Addr) (ks us : List V) (fs : List Fm) (xs : List (Addr × List Int)), vs = [.ref l, .ref m] ∧ Sep G M H ∧ G l = some (.lst ks) ∧ Paired (KeyAt C G) ks fs ∧ fs.length ≤ 100 ∧ Tu G m us ∧ Paired (RowsAt G) us xs ∧ us.length ≤ 1000 ∧
  ∀ (p : Addr) (G' H' : Hp), Same G G' → Sep G' ((p, .lst (nats (crs fs xs))) :: M) H' → Q (.ref p) H'
theorem ok_coarsest (T : Top K mg w) (G_check_row : FnOk P w K mg base CX0 7 T.a_check_row T.d_check_row ["row"] (spRow K)) (G_faithful : FnOk P w K mg base CX0 9 T.a_faithful T.d_faithful ["key", "menu"] (spFaithful K T.C_Key))
    (G_Key_le : FnOk P w K mg base CX0 8 T.a_Key_le T.d_Key_le ["self", "other"] (spKLe T.C_Key)) :
    FnOk P w K mg base CX0 10 T.a_coarsest T.d_coarsest ["keys", "menu"] (spCoarsest K T.C_Key) := by
  refine T.F_coarsest.ok sc_coarsest (fun vs H Q E h => ?_) (fun cdv A outer s H vs Q E hr h => ?_)
  · obtain ⟨G, M, l, m, ks, us, fs, xs, rfl, _⟩ := h
    rfl
  · obtain ⟨G, M, l, m, ks, us, fs, xs, rfl, S, hl, pk, fl, hm, pu, ul, q⟩ := h
    refine ⟨_, (pss_cons (ps_for PassesOwn.never rfl (pi_tupK K (xv 1)) (pg_name (i := 2) sc_coarsest.nd rfl (.inl rfl))
      (pss_one (ps_expr (pe_call G_check_row (hr.mono (by omega)) (by rfl) T.g_check_row T.F_check_row.kp T.b_check_row .nil pass0 (pa_cons (xv 2) pa_nil)))))
      (pss_cons (ps_setLc (i := 4) (own := [("place", 3)]) (by rfl) sc_coarsest.nd rfl rfl (sw_true rfl rfl rfl (by decide +kernel)) (pi_range1 (by rfl) T.m_range (pa_cons (pe_callB (cr_lenK K) (by rfl) T.m_len (by decide +kernel) (pa_cons (xv 0) pa_nil)) pa_nil)) (blkOk_by (N := ["keys", "menu", "row", "place", "good", "found", "below", "one"]) (sc := defScope s_coarsest) (by decide +kernel)) (fun _ _ _ _ _ => (pg_name (i := 3) sc_coarsest.nd rfl (.inl rfl))) (fun _ _ _ _ _ => (pts_one (xt_cmp op_isN (pe_call G_faithful (hr.mono (by omega)) (by rfl) T.g_faithful T.F_faithful.kp T.b_faithful .nil pass0 (pa_cons (pe_ix (ix_k K) (xv 0) (xv 3) (fun _ _ => rfl)) (pa_cons (xv 1) pa_nil))) pe_non (nomark _)))) (fun _ _ _ _ _ => (xv 3)))
      (pss_cons (ps_set (i := 5) sc_coarsest.nd rfl (.inl rfl) (pe_lst pa_nil))
      (pss_cons (ps_for PassesOwn.never rfl (pi_listK K (xv 4)) (pg_name (i := 3) sc_coarsest.nd rfl (.inr rfl))
      (pss_cons (ps_setLc (i := 6) (own := [("one", 7)]) (by rfl) sc_coarsest.nd rfl rfl (sw_true rfl rfl rfl (by decide +kernel)) (pi_listK K (xv 4)) (blkOk_by (N := ["keys", "menu", "row", "place", "good", "found", "below", "one"]) (sc := defScope s_coarsest) (by decide +kernel)) (fun _ _ _ _ _ => (pg_name (i := 7) sc_coarsest.nd rfl (.inl rfl))) (fun _ _ _ _ _ => (pts_one (PW.pt (xw_and (xt_cmp (op_own rfl G_Key_le T.sp_Key_le.1 T.sp_Key_le.2 T.b_Key_le pass0 (hr.mono (by omega))) (pe_ix (ix_k K) (xv 0) (xv 7) (fun _ _ => rfl)) (pe_ix (ix_k K) (xv 0) (xv 3) (fun _ _ => rfl)) (nomark _)) (pw_and1 (pt_not (xt_cmp (op_own rfl G_Key_le T.sp_Key_le.1 T.sp_Key_le.2 T.b_Key_le pass0 (hr.mono (by omega))) (pe_ix (ix_k K) (xv 0) (xv 3) (fun _ _ => rfl)) (pe_ix (ix_k K) (xv 0) (xv 7) (fun _ _ => rfl)) (nomark _)))))))) (fun _ _ _ _ _ => (xv 7)))
      (pss_one (xs_if (pt_not (xt_truK K (xv 6)))
      (pss_one (ps_expr (pe_bmK K PySem.F.plainAttrs_list PySem.F.slot_list_append PySem.F.type_list_append mt_append (xv 5) (pa_cons (xv 3) pa_nil))))
      pss_nil))))
      (pss_one (ps_ret (xv 5))))))), ?_⟩
    have kw := prd_len pk
    have uw := prd_len pu
    -- the rows are rows
    refine ⟨m, rfl, ⟨us, (hm.same S.1).sq⟩, for_tup (xs := us) (fun i σ H' => ∃ (y2 : Option V) (G' : Hp), σ = [some (.ref l), some (.ref m), y2, none, none, none, none, none] ∧ Same G G' ∧ Sep G' M H') ⟨_, G, rfl, Same.refl _, S⟩ (fun i σ H' _ h => ?_) (fun i u σ H' hu h => ?_) (fun σ H' h => ?_)⟩
    · obtain ⟨_, G', _, s', S'⟩ := h
      exact ((hm.same s').same S'.1).sq
    · obtain ⟨y2, G1, rfl, s1, S1⟩ := h
      obtain ⟨x, hx, rfl, hrx, rox⟩ := prd_get pu hu
      exact ⟨G1, M, x.1, x.2, rfl, S1, (hrx.same s1).tu, rox, fun G2 H2 s2 S2 => ⟨_, G2, rfl, s1.trans s2, S2⟩⟩
    obtain ⟨y2, G1, rfl, s1, S1⟩ := h
    have hl := s1 _ _ hl
    have pk := prd_imp (fun _ _ => KeyAt.same s1) pk
    have hm := hm.same s1
    have pu := prd_imp (fun _ _ => RowsAt.same s1) pu
    -- the good ones
    refine ⟨_, .inl (SqL.of (S1.st hl)), _, rfl, by omega, by omega, fun D nD => ?_⟩
    rw [show ((ks.length : Nat) : Int).toNat = fs.length by omega]
    refine lc_range (lo := 0) (n := fs.length) (fun i H' => ∃ (G' : Hp), Same G1 G' ∧ Sep G' ((D, .lst (nats (goodTo fs xs i))) :: M) H') ⟨G1, Same.refl _, S1.new nD⟩ (fun i H' hi p => ?_) (fun H' p => ?_)
    · obtain ⟨G2, s2, S2⟩ := p
      rw [Int.zero_add]
      have hv := List.getElem?_eq_getElem (show i < ks.length by omega)
      obtain ⟨f, hf, hk⟩ := prd_get pk hv
      have gl := good_len fs xs i
      rw [good_succ, fat_get hf]
      refine ⟨rfl, _, _, .inl (SqL.of (S2.st (s2 _ _ hl))), atI_nat hv, f, G2, _, _, m, us, xs, rfl, S2, hk.same s2, hm.same s2, prd_imp (fun _ _ => RowsAt.same s2) pu, ul, fun G3 H3 al s3 S3 => ⟨rfl, ?_⟩, fun a b x y t G3 H3 hx hy _ na s3 S3 _ => ⟨rfl, ?_⟩⟩
      · refine tst (fun _ => ?_) (fun e => ?_)
        · rw [if_pos (faB_iff.mpr al)]
          refine ⟨_, S3.hd, by rw [List.length_map]; exact smallL (by omega), G3, s2.trans s3, ?_⟩
          rw [nats, List.map_append]
          exact S3.set
        · rw [decide_eq_true rfl] at e
          cases e
      · refine tst (fun e => ?_) (fun _ => ?_)
        · exact absurd (of_decide_eq_true e) (by intro z; cases z)
        · rw [if_neg (fun z => na (faB_iff.mp z a b x y hx hy)), List.append_nil]
          exact ⟨G3, s2.trans s3, S3⟩
    obtain ⟨G2, s2, S2⟩ := p
    have hgl := good_len fs xs fs.length
    have hgm : ∀ i ∈ goodTo fs xs fs.length, i < fs.length := fun i hi => good_mem hi
    have qq : ∀ (p : Addr) (G' H' : Hp), Same G1 G' → Sep G' ((p, .lst (nats (outOf fs (goodTo fs xs fs.length) (goodTo fs xs fs.length)))) :: M) H' → Q (.ref p) H' := fun p G' H' e => q p G' H' (s1.trans e)
    generalize goodTo fs xs fs.length = good at *
    have s3 := S2.frzS
    have S3 := S2.frz
    have hD : upd G2 D (.lst (nats good)) D = some (.lst (nats good)) := upd_same
    generalize upd G2 D (.lst (nats good)) = G3 at *
    have s13 := s2.trans s3
    have hl := s13 _ _ hl
    have pk := prd_imp (fun _ _ => KeyAt.same s13) pk
    refine ⟨sz, fun F nF => ?_⟩
    have S4 := S3.new (o := .lst []) nF
    refine ⟨D, rfl, ⟨_, SqL.of (S4.st hD)⟩, for_list (xs := nats good) (fun i σ H' => ∃ (y3 y6 : Option V) (G' : Hp), σ = [some (.ref l), some (.ref m), y2, y3, some (.ref D), some (.ref F), y6, none] ∧ Same G3 G' ∧ Sep G' ((F, .lst (nats (outOf fs good (good.take i)))) :: M) H')
      ⟨_, _, G3, rfl, Same.refl _, S4⟩ (fun i σ H' _ h => ?_) (fun i v σ H' hv h => ?_) (fun σ H' h => ?_)⟩
    · obtain ⟨_, _, G', _, s', S'⟩ := h
      exact SqL.of (S'.st (s' _ _ hD))
    · obtain ⟨y3, y6, G5, rfl, s5, S5⟩ := h
      obtain ⟨p, hp, rfl⟩ := nats_get hv
      have pl := hgm p (List.mem_of_getElem? hp)
      have hkp := List.getElem?_eq_getElem (show p < ks.length by omega)
      obtain ⟨fp, hfp, kp⟩ := prd_get pk hkp
      have kp' := kp
      obtain ⟨xp, dxp, up, exp, hxp, _⟩ := kp
      rw [exp] at hkp kp'
      refine ⟨D, rfl, ⟨_, SqL.of (S5.st (s5 _ _ hD))⟩, fun B nB => lc_list (xs := nats good) (fun j H' => ∃ (G' : Hp), Same G3 G' ∧ Sep G' ((B, .lst (nats ((good.take j).filter (undP fs p)))) :: (F, .lst (nats (outOf fs good (good.take i)))) :: M) H')
        ⟨G5, s5, S5.new nB⟩ (fun j H' _ h => ?_) (fun j v H' hv h => ?_) (fun H' h => ?_)⟩
      · obtain ⟨G', s', S'⟩ := h
        exact SqL.of (S'.st (s' _ _ hD))
      · obtain ⟨G6, s6, S6⟩ := h
        obtain ⟨o, ho, rfl⟩ := nats_get hv
        have ol := hgm o (List.mem_of_getElem? ho)
        have hko := List.getElem?_eq_getElem (show o < ks.length by omega)
        obtain ⟨fo, hfo, ko⟩ := prd_get pk hko
        have ko' := ko
        obtain ⟨xo, dxo, uo, exo, hxo, _⟩ := ko
        rw [exo] at hko ko'
        have fll : ((good.take j).filter (undP fs p)).length ≤ 100 := Nat.le_trans (List.length_filter_le _ _) (by rw [List.length_take]; omega)
        have hL6 : ∀ G7 H7 M7, Same G6 G7 → Sep G7 M7 H7 → SqL K H7 l ks := fun G7 H7 M7 e S7 => SqL.of (S7.st (e _ _ (s6 _ _ hl)))
        rw [fl_snoc ho]
        have eu : undP fs p o = (amB fo fp && !amB fp fo) := by unfold undP; rw [fat_get hfo, fat_get hfp]
        rw [eu]
        refine ⟨rfl, _, _, .inl (hL6 _ _ _ (Same.refl _) S6), atI_nat hko, _, _, .inl (hL6 _ _ _ (Same.refl _) S6), atI_nat hkp, xo, xp, dxo, dxp, _, _, rfl, rfl, S6.st (s6 _ _ hxo), S6.st (s6 _ _ hxp), ?_⟩
        refine ⟨G6, _, _, _, fo, fp, rfl, S6, ko'.same s6, kp'.same s6, fun c7 G7 H7 hc7 s7 S7 => ⟨fun e => ?_, fun e => ?_⟩⟩
        · have ec7 : amB fo fp = true := (eq_b amB_iff hc7).trans e
          refine ⟨_, _, .inl (hL6 _ _ _ s7 S7), atI_nat hkp, _, _, .inl (hL6 _ _ _ s7 S7), atI_nat hko, xp, xo, dxp, dxo, _, _, rfl, rfl, S7.st (s7 _ _ (s6 _ _ hxp)), S7.st (s7 _ _ (s6 _ _ hxo)), ?_⟩
          refine ⟨G7, _, _, _, fp, fo, rfl, S7, (kp'.same s6).same s7, (ko'.same s6).same s7, fun c8 G8 H8 hc8 s8 S8 => ?_⟩
          have ec8 : amB fp fo = c8 := eq_b amB_iff hc8
          rw [ec7, ec8]
          refine tst (fun e8 => ?_) (fun e8 => ?_)
          · rw [if_pos (by rw [e8]; rfl)]
            refine ⟨_, S8.hd, by rw [List.length_map]; exact smallL (by omega), G8, s6.trans (s7.trans s8), ?_⟩
            rw [nats, List.map_append]
            exact S8.set
          · rw [if_neg (by rw [e8]; decide), List.append_nil]
            exact ⟨G8, s6.trans (s7.trans s8), S8⟩
        · have ec7 : amB fo fp = false := (eq_b amB_iff hc7).trans e
          rw [ec7]
          refine tst ff fun _ => ?_
          rw [if_neg (by simp), List.append_nil]
          exact ⟨G7, s6.trans s7, S7⟩
      · obtain ⟨G6, s6, S6⟩ := h
        have e0 : (good.take (nats good).length) = good := by rw [List.length_map, List.take_length]
        rw [e0] at S6
        have oll : (outOf fs good (good.take i)).length ≤ 100 := Nat.le_trans (List.length_filter_le _ _) (by rw [List.length_take]; omega)
        have os : outOf fs good (good.take (i + 1)) = outOf fs good (good.take i) ++ if (good.filter (undP fs p)).isEmpty = true then [p] else [] := fl_snoc hp
        rw [os]
        refine ⟨!(nats (good.filter (undP fs p))).isEmpty, .inl ⟨_, SqL.of S6.hd, rfl⟩, fun e => ?_, fun e => ?_⟩
        · have e2 : (good.filter (undP fs p)).isEmpty = true := by
            rw [Bool.not_not, nats, List.isEmpty_map] at e
            exact e
          rw [if_pos e2]
          have S7 := S6.drop
          refine ⟨.inl ⟨rfl, _, SqL.of S7.hd⟩, F, _, _, rfl, rfl, S7.hd, by rw [List.length_map]; exact smallL (by omega), _, _, G6, rfl, s6, ?_⟩
          rw [nats, List.map_append]
          exact S7.set
        · have e2 : ¬ (good.filter (undP fs p)).isEmpty = true := by
            rw [Bool.not_not, nats, List.isEmpty_map] at e
            rw [e]
            decide
          rw [if_neg e2, List.append_nil]
          exact ⟨_, _, G6, rfl, s6, S6.drop⟩
    · obtain ⟨y3, y6, G5, rfl, s5, S5⟩ := h
      rw [List.length_map, List.take_length] at S5
      exact qq F G5 H' (s13.trans s5) S5

end
end K25
set_option Elab.async false
set_option linter.all false
set_option maxRecDepth 100000
set_option maxHeartbeats 4000000
namespace K25
open PySem PySem.Spec PyProof.Rows L2 XL
section
variable {P : Program} {w : World} {K : PySem.W.Frag} {mg : Str → Option Value} {base : Heap}
/-! ### rows of any kind -/
def digA : List PyData → List Int → Bool
  | [], _ => true
  | .int n :: r, seen => decide (0 ≤ n ∧ n ≤ 9 ∧ n ∉ seen) && digA r (seen ++ [n])
  | _ :: _, _ => false
def rowOk : PyData → Bool
  | .tuple xs => decide (xs.length ≤ 5) && digA xs []
  | _ => false
theorem tu_of {K : PySem.W.Frag} {G : Hp} {a : Addr} {xs : List V} (h : TupF G a xs) : SqT K G a xs := h.tu.sq
def BadR (K : PySem.W.Frag) (G : Hp) (v : V) : Prop := ∃ d, Dp K G v d ∧ Okd d ∧ rowOk d = false
theorem BadR.same {K : PySem.W.Frag} {G G' : Hp} {v : V} (e : Same G G') (h : BadR K G v) : BadR K G' v := let ⟨d, h1, h2⟩ := h; ⟨d, dp_same e h1, h2⟩
def spRowX (K : PySem.W.Frag) (C : Addr) : Sp := fun vs H Q E => ∃ (G : Hp) (M : List (Addr × HO)) (v : V), vs = [v] ∧ Sep G M H ∧ BadR K G v ∧ Rz G M C [("row", v)] E
theorem ok_check_rowX (T : Top K mg w) (pf : PySem.XExc.PF P T.x_file) {k : Nat} : FnOk P w K mg base (L2.CX P w) (k + 2) T.a_check_row T.d_check_row ["row"] (spRowX K T.C_BadRow) := by
  refine T.F_check_row.okX sc_check_row (fun vs H Q E h => ?_) (fun cdv A outer s H vs Q E hr h => ?_)
  · obtain ⟨G, M, v, rfl, _⟩ := h
    rfl
  · obtain ⟨G, M, v, rfl, S, ⟨d, hv, ok, bad⟩, rz⟩ := h
    refine ⟨_, (pss_cons (xs_if (PW.pt (xw_or (pt_not (xt_truK K (pe_callB (call_isK K) (by rfl) T.m_isinstance (by decide +kernel) (pa_cons (xv 0) (pa_cons (pe_bltn (v := .ty "tuple") (by rfl) T.m_tuple (by decide +kernel) rfl) pa_nil))))) (pw_or1 (xt_cmp op_gtY (pe_callB (cr_lenK K) (by rfl) T.m_len (by decide +kernel) (pa_cons (xv 0) pa_nil)) (xe_globI (by rfl) T.v_MOST_ITEMS) (nomark _)))))
      (pss_one (ps_raiseD (k := 0) rfl T.xcv_BadRow (T.x_BadRow P pf) (hr.mono (by omega)) (takes_of rfl rfl rfl rfl) (pa_cons (xv 0) pa_nil)))
      pss_nil)
      (pss_cons (ps_set (i := 1) sc_check_row.nd rfl (.inl rfl) (pe_lst pa_nil))
      (pss_one (ps_for (passes_of rfl) rfl (pi_tupK K (xv 0)) (pg_name (i := 2) sc_check_row.nd rfl (.inl rfl))
      (pss_cons (xs_if (PW.pt (xw_or (pt_not (xt_truK K (pe_callB (call_isK K) (by rfl) T.m_isinstance (by decide +kernel) (pa_cons (xv 2) (pa_cons (pe_bltn (v := .ty "int") (by rfl) T.m_int (by decide +kernel) rfl) pa_nil))))) (pw_or1 (xt_truK K (pe_callB (call_isK K) (by rfl) T.m_isinstance (by decide +kernel) (pa_cons (xv 2) (pa_cons (pe_bltn (v := .ty "bool") (by rfl) T.m_bool (by decide +kernel) rfl) pa_nil)))))))
      (pss_one (ps_raiseD (k := 0) rfl T.xcv_BadRow (T.x_BadRow P pf) (hr.mono (by omega)) (takes_of rfl rfl rfl rfl) (pa_cons (xv 0) pa_nil)))
      pss_nil)
      (pss_cons (xs_if (PW.pt (xw_or (xt_cmp op_ltY (xv 2) pe_int (nomark _)) (xw_or (xt_cmp op_gtY (xv 2) pe_int (nomark _)) (pw_or1 (xt_cmp (in_seqK K) (xv 2) (xv 1) (by rfl))))))
      (pss_one (ps_raiseD (k := 0) rfl T.xcv_BadRow (T.x_BadRow P pf) (hr.mono (by omega)) (takes_of rfl rfl rfl rfl) (pa_cons (xv 0) pa_nil)))
      pss_nil)
      (pss_one (ps_expr (pe_bmK K PySem.F.plainAttrs_list PySem.F.slot_list_append PySem.F.type_list_append mt_append (xv 1) (pa_cons (xv 2) pa_nil)))))))))), ?_⟩
    have rp : ∀ {H' : Hp}, Same G H' → RpD K H' v := fun s => ok.rp (dp_same s hv)
    have now : ∃ u, [v] = [u] ∧ RpD K H u ∧ ∀ dd, H dd = none → E (.ref T.C_BadRow) (some dd) (upd H dd (.xd [("row", u)])) := ⟨v, rfl, rp S.1, fun dd nd => rz.now S dd nd⟩
    have hv0 := hv
    cases hv0 with
    | non => exact ⟨_, _, _, _, false, rfl, .ty _, .base .non, kit_ty (by decide +kernel), fun _ => ⟨fun _ => now, tt⟩, tt⟩
    | bl b => exact ⟨_, _, _, _, false, rfl, .ty _, .base (.bl _), kit_ty (by decide +kernel), fun _ => ⟨fun _ => now, tt⟩, tt⟩
    | int i => exact ⟨_, _, _, _, false, rfl, .ty _, .base (.int _), kit_ty (by decide +kernel), fun _ => ⟨fun _ => now, tt⟩, tt⟩
    | str x => exact ⟨_, _, _, _, false, rfl, .ty _, .base (.str _), kit_ty (by decide +kernel), fun _ => ⟨fun _ => now, tt⟩, tt⟩
    | lst _ _ => cases dp_same S.1 hv with
      | lst h1 _ => exact ⟨_, _, _, _, false, rfl, .ty _, sqL_ty h1, kit_ty (by decide +kernel), fun _ => ⟨fun _ => now, tt⟩, tt⟩
    | @tup a xs' ds h1' hd' =>
      have dl := dpa_len hd'
      have h1 := S.t h1'
      refine ⟨_, _, _, _, true, rfl, .ty _, sqT_ty h1, kit_ty (by decide +kernel), ff, fun _ => ⟨_, .inr h1, fun e => now, fun e => ?_⟩⟩
      have l5 : xs'.length ≤ 5 := by
        have : ¬ (5 : Int) < ((xs'.length : Nat) : Int) := of_decide_eq_false e
        omega
      have hdg : digA ds [] = false := by
        have b2 : (decide (ds.length ≤ 5) && digA ds []) = false := bad
        rw [decide_eq_true (by omega), Bool.true_and] at b2
        exact b2
      refine ⟨sz, fun L nL => ?_⟩
      have S1 := S.new (o := .lst []) nL
      refine ⟨a, rfl, ⟨_, S1.t h1'⟩, for_tup (xs := xs') (fun i σ H' => ∃ (y2 : Option V) (seen : List Int), σ = [some (.ref a), some (.ref L), y2] ∧ seen.length = i ∧ digA (ds.drop i) seen = false ∧ Sep G ((L, .lst (seen.map V.int)) :: M) H') ⟨_, [], rfl, rfl, hdg, S1⟩ (fun i σ H' _ h => ?_) (fun i x σ H' hx h => ?_) (fun σ H' h => ?_)⟩
      · obtain ⟨_, _, _, _, _, S2⟩ := h
        exact S2.t h1'
      · obtain ⟨y2, seen, rfl, sl, hdg, S2⟩ := h
        have il := (List.getElem?_eq_some_iff.mp hx).1
        obtain ⟨dx, hdx, hxd⟩ := dpa_get hd' hx
        have edr : ds.drop i = dx :: ds.drop (i + 1) := by
          have := (List.getElem?_eq_some_iff.mp hdx)
          rw [← this.2]
          exact List.drop_eq_getElem_cons this.1
        rw [edr] at hdg
        have now2 : ∃ u, [V.ref a] = [u] ∧ RpD K H' u ∧ ∀ dd, H' dd = none → E (.ref T.C_BadRow) (some dd) (upd H' dd (.xd [("row", u)])) := ⟨.ref a, rfl, rp S2.1, fun dd nd => (rz.cell [_]).now S2 dd nd⟩
        have hxd2 := dp_same S2.1 hxd
        cases hxd2 with
        | non => exact ⟨_, _, _, _, false, rfl, .ty _, .base .non, kit_ty (by decide +kernel), fun _ => ⟨fun _ => now2, tt⟩, tt⟩
        | bl b => exact ⟨_, _, _, _, true, rfl, .ty _, .base (.bl _), kit_ty (by decide +kernel), ff, fun _ => ⟨_, _, _, _, true, rfl, .ty _, .base (.bl _), kit_ty (by decide +kernel), fun _ => now2, tt⟩⟩
        | str x => exact ⟨_, _, _, _, false, rfl, .ty _, .base (.str _), kit_ty (by decide +kernel), fun _ => ⟨fun _ => now2, tt⟩, tt⟩
        | lst h1 _ => exact ⟨_, _, _, _, false, rfl, .ty _, sqL_ty h1, kit_ty (by decide +kernel), fun _ => ⟨fun _ => now2, tt⟩, tt⟩
        | tup h1 _ => exact ⟨_, _, _, _, false, rfl, .ty _, sqT_ty h1, kit_ty (by decide +kernel), fun _ => ⟨fun _ => now2, tt⟩, tt⟩
        | int n =>
          have hdg2 : (decide (0 ≤ n ∧ n ≤ 9 ∧ n ∉ seen) && digA (ds.drop (i + 1)) (seen ++ [n])) = false := hdg
          refine ⟨_, _, _, _, true, rfl, .ty _, .base (.int _), kit_ty (by decide +kernel), ff, fun _ => ⟨_, _, _, _, false, rfl, .ty _, .base (.int _), kit_ty (by decide +kernel), ff, fun _ => ?_⟩⟩
          refine ⟨fun e => ⟨fun _ => now2, tt⟩, fun e1 => ⟨fun e => ⟨fun _ => now2, tt⟩, fun e2 => ⟨L, _, rfl, .inl (SqL.of S2.hd), rfl, ints_flat _, fun e => now2, fun e3 => ?_⟩⟩⟩
          have z1 : ¬ n < 0 := of_decide_eq_false e1
          have z2 : ¬ 9 < n := of_decide_eq_false e2
          have z3 : n ∉ seen := by
            have e4 : inV (.int n) (seen.map V.int) = false := e3
            rw [inV_int] at e4
            exact of_decide_eq_false e4
          rw [decide_eq_true ⟨by omega, by omega, z3⟩, Bool.true_and] at hdg2
          refine ⟨.inl ⟨rfl, _, SqL.of S2.hd⟩, L, _, _, rfl, rfl, S2.hd, by rw [List.length_map]; exact smallL (by omega), ?_⟩
          refine ⟨_, seen ++ [n], rfl, by rw [List.length_append, sl]; rfl, hdg2, ?_⟩
          rw [List.map_append]
          exact S2.set
      · obtain ⟨y2, seen, rfl, sl, hdg, S2⟩ := h
        rw [show ds.drop xs'.length = [] by rw [dl]; exact List.drop_length] at hdg
        exact nomatch hdg

end
end K25
set_option Elab.async false
set_option linter.all false
set_option maxRecDepth 100000
set_option maxHeartbeats 4000000
namespace K25
open PySem PySem.Spec PyProof.Rows L2 XL
section
variable {P : Program} {w : World} {K : PySem.W.Frag} {mg : Str → Option Value} {base : Heap}
/-! ### what raises at a bad row -/
def spKIdX (K : PySem.W.Frag) (C CB : Addr) : Sp := fun vs H Q E => ∃ (G : Hp) (M : List (Addr × HO)) (kv v : V) (f : Fm), vs = [kv, v] ∧ Sep G M H ∧ KeyAt C G kv f ∧ BadR K G v ∧ Rz G M CB [("row", v)] E
theorem ok_Key_identsX (T : Top K mg w) {k : Nat} (G_check_row : FnOk P w K mg base (L2.CX P w) k T.a_check_row T.d_check_row ["row"] (spRowX K T.C_BadRow)) (G_idents_of : FnOk P w K mg base CX0 k T.a_idents_of T.d_idents_of ["parts", "row"] (spIdents K)) :
    FnOk P w K mg base (L2.CX P w) (k + 1) T.a_Key_idents T.d_Key_idents ["self", "row"] (spKIdX K T.C_Key T.C_BadRow) := by
  refine T.F_Key_idents.okX sc_Key_idents (fun vs H Q E h => ?_) (fun cdv A outer s H vs Q E hr h => ?_)
  · obtain ⟨G, M, kv, v, f, rfl, _⟩ := h
    rfl
  · obtain ⟨G, M, kv, v, f, rfl, S, hk, hb, rz⟩ := h
    refine ⟨_, (pss_cons (ps_expr (pe_call G_check_row (hr.mono (by omega)) (by rfl) T.g_check_row T.F_check_row.kp T.b_check_row .nil (passO (takes_of rfl rfl rfl rfl)) (pa_cons (xv 1) pa_nil)))
      (pss_one (ps_ret (pe_call G_idents_of (hr.mono (by omega)) (by rfl) T.g_idents_of T.F_idents_of.kp T.b_idents_of .nil pass0 (pa_cons (pe_fldK K (xv 0)) (pa_cons (xv 1) pa_nil)))))), ?_⟩
    exact ⟨G, M, v, rfl, S, hb, rz⟩
/-- the first bad row of two -/
def Bad2 (K : PySem.W.Frag) (G : Hp) (v1 v2 u : V) : Prop := (BadR K G v1 ∧ u = v1) ∨ ∃ (r1 : Addr) (n1 : List Int), v1 = .ref r1 ∧ TupF G r1 (n1.map V.int) ∧ RowOk n1 ∧ BadR K G v2 ∧ u = v2
def spTwoX (K : PySem.W.Frag) (C CB : Addr) : Sp := fun vs H Q E => ∃ (G : Hp) (M : List (Addr × HO)) (kv v1 v2 u : V) (f : Fm), vs = [kv, v1, v2] ∧ Sep G M H ∧ KeyAt C G kv f ∧ Bad2 K G v1 v2 u ∧ Rz G M CB [("row", u)] E
theorem ok_matchedX (T : Top K mg w) {k : Nat} (G_Key_idents : FnOk P w K mg base (L2.CX P w) k T.a_Key_idents T.d_Key_idents ["self", "row"] (fun vs H Q E => spKIdents T.C_Key vs H Q E ∨ spKIdX K T.C_Key T.C_BadRow vs H Q E)) :
    FnOk P w K mg base (L2.CX P w) (k + 1) T.a_matched T.d_matched ["key", "old", "new"] (spTwoX K T.C_Key T.C_BadRow) := by
  refine T.F_matched.okX sc_matched (fun vs H Q E h => ?_) (fun cdv A outer s H vs Q E hr h => ?_)
  · obtain ⟨G, M, kv, v1, v2, u, f, rfl, _⟩ := h
    rfl
  · obtain ⟨G, M, kv, v1, v2, u, f, rfl, S, hk, hb, rz⟩ := h
    refine ⟨_, (pss_cons (ps_set (i := 3) sc_matched.nd rfl (.inl rfl) (pe_meth (xv 0) T.cl_Key T.me_Key_idents G_Key_idents (hr.mono (by omega)) T.b_Key_idents .nil (passO (takes_of rfl rfl rfl rfl)) (pa_cons (xv 1) pa_nil)))
      (pss_cons (ps_set (i := 4) sc_matched.nd rfl (.inl rfl) (pe_meth (xv 0) T.cl_Key T.me_Key_idents G_Key_idents (hr.mono (by omega)) T.b_Key_idents .nil (passO (takes_of rfl rfl rfl rfl)) (pa_cons (xv 2) pa_nil)))
      (pss_cons (ps_set (i := 5) sc_matched.nd rfl (.inl rfl) (pe_lst pa_nil))
      (pss_cons (ps_for (passes_of rfl) rfl (pi_range1 (by rfl) T.m_range (pa_cons (pe_callB (cr_lenK K) (by rfl) T.m_len (by decide +kernel) (pa_cons (xv 2) pa_nil)) pa_nil)) (pg_name (i := 6) sc_matched.nd rfl (.inl rfl))
      (pss_one (xs_if (xt_cmp (in_deepK K (u65 hr)) (pe_ix (ix_k K) (xv 4) (xv 6) (fun _ _ => rfl)) (xv 3) (by rfl))
      (pss_one (ps_expr (pe_bmK K PySem.F.plainAttrs_list PySem.F.slot_list_append PySem.F.type_list_append mt_append (xv 5) (pa_cons (pe_tup (pa_cons (pe_tm PySem.F.slot_tuple_index PySem.F.type_tuple_index (mt_tindexK K (u65 hr)) (xv 3) (pa_cons (pe_ix (ix_k K) (xv 4) (xv 6) (fun _ _ => rfl)) pa_nil)) (pa_cons (xv 6) pa_nil))) pa_nil))))
      pss_nil)))
      (pss_one (ps_ret (pe_callTy (call_tupleK K) (by rfl) T.m_tuple (by decide +kernel) (pa_cons (xv 5) pa_nil)))))))), ?_⟩
    obtain ⟨kx, kdx, ku, rfl, hkx, hku⟩ := id hk
    refine ⟨kx, kdx, _, rfl, S.st hkx, rfl, ?_⟩
    rcases hb with ⟨hb, rfl⟩ | ⟨r1, n1, rfl, h1, ro, hb, rfl⟩
    · exact .inr ⟨G, M, _, _, f, rfl, S, hk, hb, rz⟩
    · refine .inl ⟨G, M, _, f, r1, n1, rfl, S, hk, h1.tu, ro, fun p ws G1 H1 s1 S1 hp pr => ?_⟩
      refine ⟨kx, kdx, _, rfl, S1.st (s1 _ _ hkx), rfl, ?_⟩
      exact .inr ⟨G1, M, _, _, f, rfl, S1, hk.same s1, hb.same s1, rz.same s1⟩
theorem ok_slipsX (T : Top K mg w) {k : Nat} (G_matched : FnOk P w K mg base (L2.CX P w) k T.a_matched T.d_matched ["key", "old", "new"] (spTwoX K T.C_Key T.C_BadRow)) :
    FnOk P w K mg base (L2.CX P w) (k + 1) T.a_slips T.d_slips ["key", "old", "new"] (spTwoX K T.C_Key T.C_BadRow) := by
  refine T.F_slips.okX sc_slips (fun vs H Q E h => ?_) (fun cdv A outer s H vs Q E hr h => ?_)
  · obtain ⟨G, M, kv, v1, v2, u, f, rfl, _⟩ := h
    rfl
  · obtain ⟨G, M, kv, v1, v2, u, f, rfl, S, hk, hb, rz⟩ := h
    refine ⟨_, (pss_cons (ps_set (i := 3) sc_slips.nd rfl (.inl rfl) (pe_call G_matched (hr.mono (by omega)) (by rfl) T.g_matched T.F_matched.kp T.b_matched .nil (passO (takes_of rfl rfl rfl rfl)) (pa_cons (xv 0) (pa_cons (xv 1) (pa_cons (xv 2) pa_nil)))))
      (pss_one (ps_ret (pe_callTy (call_tupleK K) (by rfl) T.m_tuple (by decide +kernel) (pa_cons (pe_lc (own := [("one", 4), ("two", 5)]) (by rfl) sc_slips.nd (pi_tupK K (xv 3)) (blkOk_by (N := ["key", "old", "new", "pairs", "one", "two"]) (sc := defScope s_slips) (by decide +kernel)) (fun _ _ _ _ _ => (pg_tupK K 2 (pgs_cons (pg_name (i := 4) sc_slips.nd rfl (.inl rfl)) (pgs_cons (pg_name (i := 5) sc_slips.nd rfl (.inl rfl)) pgs_nil)))) (fun _ _ _ _ _ => (pts_one (xt_cmp (op_neLK K hr.u190) (pe_ix (ix_k K) (xv 1) (xv 4) (fun _ _ => rfl)) (pe_ix (ix_k K) (xv 2) (xv 5) (fun _ _ => rfl)) (nomark _)))) (fun _ _ _ _ _ => (pe_tup (pa_cons (pe_ix (ix_k K) (xv 1) (xv 4) (fun _ _ => rfl)) (pa_cons (pe_ix (ix_k K) (xv 2) (xv 5) (fun _ _ => rfl)) pa_nil))))) pa_nil))))), ?_⟩
    exact ⟨G, M, kv, v1, v2, u, f, rfl, S, hk, hb, rz⟩
theorem ok_lossesX (T : Top K mg w) {k : Nat} (G_matched : FnOk P w K mg base (L2.CX P w) k T.a_matched T.d_matched ["key", "old", "new"] (spTwoX K T.C_Key T.C_BadRow)) :
    FnOk P w K mg base (L2.CX P w) (k + 1) T.a_losses T.d_losses ["key", "old", "new"] (spTwoX K T.C_Key T.C_BadRow) := by
  refine T.F_losses.okX sc_losses (fun vs H Q E h => ?_) (fun cdv A outer s H vs Q E hr h => ?_)
  · obtain ⟨G, M, kv, v1, v2, u, f, rfl, _⟩ := h
    rfl
  · obtain ⟨G, M, kv, v1, v2, u, f, rfl, S, hk, hb, rz⟩ := h
    refine ⟨_, (pss_cons (ps_set (i := 3) sc_losses.nd rfl (.inr rfl) (pe_call G_matched (hr.mono (by omega)) (by rfl) T.g_matched T.F_matched.kp T.b_matched .nil (passO (takes_of rfl rfl rfl rfl)) (pa_cons (xv 0) (pa_cons (xv 1) (pa_cons (xv 2) pa_nil)))))
      (pss_one (ps_ret (pe_callTy (call_tupleK K) (by rfl) T.m_tuple (by decide +kernel) (pa_cons (pe_lc (own := [("item", 4)]) (by rfl) sc_losses.nd (pi_tupK K (xv 2)) (blkOk_by (N := ["key", "old", "new", "pairs", "item"]) (sc := defScope s_losses) (by decide +kernel)) (fun _ _ _ _ _ => (pg_name (i := 4) sc_losses.nd rfl (.inl rfl))) (fun _ _ _ _ _ => (pts_one (PW.pt (xw_and (xt_cmp (in_seqK K) (xv 4) (xv 1) (by rfl)) (pw_and1 (xt_cmp (notin_deepK K (u65 hr)) (pe_tup (pa_cons (pe_tm PySem.F.slot_tuple_index PySem.F.type_tuple_index (mt_tindexK K (u65 hr)) (xv 1) (pa_cons (xv 4) pa_nil)) (pa_cons (pe_tm PySem.F.slot_tuple_index PySem.F.type_tuple_index (mt_tindexK K (u65 hr)) (xv 2) (pa_cons (xv 4) pa_nil)) pa_nil))) (xv 3) (by rfl))))))) (fun _ _ _ _ _ => (xv 4))) pa_nil))))), ?_⟩
    exact ⟨G, M, kv, v1, v2, u, f, rfl, S, hk, hb, rz⟩
/-- the first bad row of a menu -/
def BadM (K : PySem.W.Frag) (G : Hp) (us : List V) (i : Nat) : Prop := (∃ u, us[i]? = some u ∧ BadR K G u) ∧ ∀ j v, j < i → us[j]? = some v → ∃ x, RowsAt G v x
def spMenuX (K : PySem.W.Frag) (C CB : Addr) : Sp := fun vs H Q E => ∃ (G : Hp) (M : List (Addr × HO)) (kv : V) (m : Addr) (us : List V) (i : Nat) (f : Fm), vs = [kv, .ref m] ∧ Sep G M H ∧ KeyAt C G kv f ∧ Tu G m us ∧ us.length ≤ 1000 ∧ BadM K G us i ∧ ∀ u, us[i]? = some u → Rz G M CB [("row", u)] E
theorem ok_faithfulX (T : Top K mg w) {k : Nat} (G_Key_idents : FnOk P w K mg base (L2.CX P w) k T.a_Key_idents T.d_Key_idents ["self", "row"] (fun vs H Q E => spKIdents T.C_Key vs H Q E ∨ spKIdX K T.C_Key T.C_BadRow vs H Q E)) (G_first_going_wrong : FnOk P w K mg base CX0 k T.a_first_going_wrong T.d_first_going_wrong ["olds", "news"] (spFirst K)) :
    FnOk P w K mg base (L2.CX P w) (k + 1) T.a_faithful T.d_faithful ["key", "menu"] (spMenuX K T.C_Key T.C_BadRow) := by
  refine T.F_faithful.okX sc_faithful (fun vs H Q E h => ?_) (fun cdv A outer s H vs Q E hr h => ?_)
  · obtain ⟨G, M, kv, m, us, i, f, rfl, _⟩ := h
    rfl
  · obtain ⟨G, M, kv, m, us, i, f, rfl, S, hk, hm, ul, ⟨⟨ub, hub, hbad⟩, hgood⟩, rz⟩ := h
    refine ⟨_, (pss_cons (ps_setLcX (i := 2) (own := [("row", 3)]) (takes_of rfl rfl rfl rfl) rfl rfl (by rfl) sc_faithful.nd rfl rfl (sw_true rfl rfl rfl (by decide +kernel)) (pi_tupK K (xv 1)) (blkOk_by (N := ["key", "menu", "listed", "row"]) (sc := defScope s_faithful) (by decide +kernel)) (fun _ _ _ _ _ => (pg_name (i := 3) sc_faithful.nd rfl (.inl rfl))) (fun _ _ _ _ _ => pts_nil) (fun _ _ _ _ _ _ px => (pe_tup (pa_cons (xv 3) (pa_cons (pe_meth (xv 0) T.cl_Key T.me_Key_idents G_Key_idents (hr.mono (by omega)) T.b_Key_idents .nil px (pa_cons (xv 3) pa_nil)) pa_nil)))))
      (pss_one (ps_ret (pe_call G_first_going_wrong (hr.mono (by omega)) (by rfl) T.g_first_going_wrong T.F_first_going_wrong.kp T.b_first_going_wrong .nil pass0 (pa_cons (xv 2) (pa_cons (xv 2) pa_nil)))))), ?_⟩
    have ilt := (List.getElem?_eq_some_iff.mp hub).1
    refine ⟨m, rfl, ⟨us, (hm.same S.1).sq⟩, fun D nD => lc_tup (xs := us) (fun j H' => ∃ (G' : Hp) (ws : List V), Same G G' ∧ Sep G' ((D, .lst ws) :: M) H' ∧ ws.length = j ∧ j ≤ i)
      ⟨G, [], Same.refl _, S.new nD, rfl, Nat.zero_le _⟩ (fun j H' _ p' => ?_) (fun j y H' hy p' => ?_) (fun H' p' => ?_)⟩
    · obtain ⟨G', ws, s', S', _⟩ := p'
      exact ((hm.same s').same S'.1).sq
    · obtain ⟨G', ws, s', S', wl, ji⟩ := p'
      have kk := hk.same s'
      obtain ⟨kx, kdx, ku, rfl, hkx, hku⟩ := id kk
      refine ⟨rfl, kx, kdx, _, rfl, S'.st hkx, rfl, ?_⟩
      by_cases e : j = i
      · subst e
        rw [hub] at hy
        cases hy
        exact .inr ⟨G', _, _, _, f, rfl, S', kk, hbad.same s', ((rz _ hub).same s').cell [_]⟩
      · obtain ⟨x, rfl, hrow, hok⟩ := hgood j y (by omega) hy
        refine .inl ⟨G', _, _, f, x.1, x.2, rfl, S', kk, (hrow.same s').tu, hok, fun p ws2 G2 H2 s2 S2 hp pr => ?_⟩
        refine ⟨sz, fun t nt => ?_⟩
        obtain ⟨G3, s3, S3, h3⟩ := Sep.mk (o := .tup [.ref x.1, .ref p]) S2 nt
        refine ⟨ws, S3.hd, smallL (by omega), G3, ws ++ [.ref t], s'.trans (s2.trans s3), S3.set, by rw [List.length_append, wl]; rfl, by omega⟩
    · obtain ⟨G', ws, s', S', wl, ji⟩ := p'
      omega
def spCoarX (K : PySem.W.Frag) (C CB : Addr) : Sp := fun vs H Q E => ∃ (G : Hp) (M : List (Addr × HO)) (l m : Addr) (us : List V) (i : Nat), vs = [.ref l, .ref m] ∧ Sep G M H ∧ Tu G m us ∧ us.length ≤ 1000 ∧ BadM K G us i ∧ ∀ u, us[i]? = some u → Rz G M CB [("row", u)] E
theorem ok_coarsestX (T : Top K mg w) {k : Nat} (G_check_row : FnOk P w K mg base (L2.CX P w) k T.a_check_row T.d_check_row ["row"] (fun vs H Q E => spRow K vs H Q E ∨ spRowX K T.C_BadRow vs H Q E)) (G_faithful : FnOk P w K mg base (L2.CX P w) k T.a_faithful T.d_faithful ["key", "menu"] (fun vs H Q E => spFaithful K T.C_Key vs H Q E ∨ spMenuX K T.C_Key T.C_BadRow vs H Q E))
    (G_Key_le : FnOk P w K mg base CX0 k T.a_Key_le T.d_Key_le ["self", "other"] (spKLe T.C_Key)) :
    FnOk P w K mg base (L2.CX P w) (k + 1) T.a_coarsest T.d_coarsest ["keys", "menu"] (spCoarX K T.C_Key T.C_BadRow) := by
  refine T.F_coarsest.okX sc_coarsest (fun vs H Q E h => ?_) (fun cdv A outer s H vs Q E hr h => ?_)
  · obtain ⟨G, M, l, m, us, i, rfl, _⟩ := h
    rfl
  · obtain ⟨G, M, l, m, us, i, rfl, S, hm, ul, ⟨⟨ub, hub, hbad⟩, hgood⟩, rz⟩ := h
    refine ⟨_, (pss_cons (ps_for (passes_of rfl) rfl (pi_tupK K (xv 1)) (pg_name (i := 2) sc_coarsest.nd rfl (.inl rfl))
      (pss_one (ps_expr (pe_call G_check_row (hr.mono (by omega)) (by rfl) T.g_check_row T.F_check_row.kp T.b_check_row .nil (passO (takes_of rfl rfl rfl rfl)) (pa_cons (xv 2) pa_nil)))))
      (pss_cons (ps_setLc (i := 4) (own := [("place", 3)]) (by rfl) sc_coarsest.nd rfl rfl (sw_true rfl rfl rfl (by decide +kernel)) (pi_range1 (by rfl) T.m_range (pa_cons (pe_callB (cr_lenK K) (by rfl) T.m_len (by decide +kernel) (pa_cons (xv 0) pa_nil)) pa_nil)) (blkOk_by (N := ["keys", "menu", "row", "place", "good", "found", "below", "one"]) (sc := defScope s_coarsest) (by decide +kernel)) (fun _ _ _ _ _ => (pg_name (i := 3) sc_coarsest.nd rfl (.inl rfl))) (fun _ _ _ _ _ => (pts_one (xt_cmp op_isN (pe_call G_faithful (hr.mono (by omega)) (by rfl) T.g_faithful T.F_faithful.kp T.b_faithful .nil passL (pa_cons (pe_ix (ix_k K) (xv 0) (xv 3) (fun _ _ => rfl)) (pa_cons (xv 1) pa_nil))) pe_non (nomark _)))) (fun _ _ _ _ _ => (xv 3)))
      (pss_cons (ps_set (i := 5) sc_coarsest.nd rfl (.inl rfl) (pe_lst pa_nil))
      (pss_cons (ps_for (passes_of rfl) rfl (pi_listK K (xv 4)) (pg_name (i := 3) sc_coarsest.nd rfl (.inr rfl))
      (pss_cons (ps_setLc (i := 6) (own := [("one", 7)]) (by rfl) sc_coarsest.nd rfl rfl (sw_true rfl rfl rfl (by decide +kernel)) (pi_listK K (xv 4)) (blkOk_by (N := ["keys", "menu", "row", "place", "good", "found", "below", "one"]) (sc := defScope s_coarsest) (by decide +kernel)) (fun _ _ _ _ _ => (pg_name (i := 7) sc_coarsest.nd rfl (.inl rfl))) (fun _ _ _ _ _ => (pts_one (PW.pt (xw_and (xt_cmp (op_own rfl G_Key_le T.sp_Key_le.1 T.sp_Key_le.2 T.b_Key_le pass0 (hr.mono (by omega))) (pe_ix (ix_k K) (xv 0) (xv 7) (fun _ _ => rfl)) (pe_ix (ix_k K) (xv 0) (xv 3) (fun _ _ => rfl)) (nomark _)) (pw_and1 (pt_not (xt_cmp (op_own rfl G_Key_le T.sp_Key_le.1 T.sp_Key_le.2 T.b_Key_le pass0 (hr.mono (by omega))) (pe_ix (ix_k K) (xv 0) (xv 3) (fun _ _ => rfl)) (pe_ix (ix_k K) (xv 0) (xv 7) (fun _ _ => rfl)) (nomark _)))))))) (fun _ _ _ _ _ => (xv 7)))
      (pss_one (xs_if (pt_not (xt_truK K (xv 6)))
      (pss_one (ps_expr (pe_bmK K PySem.F.plainAttrs_list PySem.F.slot_list_append PySem.F.type_list_append mt_append (xv 5) (pa_cons (xv 3) pa_nil))))
      pss_nil))))
      (pss_one (ps_ret (xv 5))))))), ?_⟩
    have ilt := (List.getElem?_eq_some_iff.mp hub).1
    refine ⟨m, rfl, ⟨us, (hm.same S.1).sq⟩, for_tup (xs := us) (fun j σ H' => ∃ (y2 : Option V) (G' : Hp), σ = [some (.ref l), some (.ref m), y2, none, none, none, none, none] ∧ Same G G' ∧ Sep G' M H' ∧ j ≤ i)
      ⟨_, G, rfl, Same.refl _, S, Nat.zero_le _⟩ (fun j σ H' _ p' => ?_) (fun j y σ H' hy p' => ?_) (fun σ H' p' => ?_)⟩
    · obtain ⟨_, G', _, s', S', _⟩ := p'
      exact ((hm.same s').same S'.1).sq
    · obtain ⟨y2, G', rfl, s', S', ji⟩ := p'
      by_cases e : j = i
      · subst e
        rw [hub] at hy
        cases hy
        exact .inr ⟨G', _, _, rfl, S', hbad.same s', (rz _ hub).same s'⟩
      · obtain ⟨x, rfl, hrow, hok⟩ := hgood j y (by omega) hy
        exact .inl ⟨G', _, x.1, x.2, rfl, S', (hrow.same s').tu, hok, fun G2 H2 s2 S2 => ⟨_, G2, rfl, s'.trans s2, S2, by omega⟩⟩
    · obtain ⟨y2, G', rfl, s', S', ji⟩ := p'
      omega

end
end K25
set_option Elab.async false
set_option linter.all false
set_option maxRecDepth 100000
set_option maxHeartbeats 4000000
namespace K25
open PySem PySem.Spec PyProof.Rows L2 XL
section
variable {P : Program} {w : World} {K : PySem.W.Frag} {mg : Str → Option Value} {base : Heap}
/-! ### makers -/
theorem fIs {G H : Hp} {M : List (Addr × HO)} {t : Addr} {n : Int} (S : Sep G M H) (nt : H t = none) : ∃ G', Same G G' ∧ Sep G' M (upd H t (.tup [.str "is", .int n])) ∧ FmAt G' (.ref t) (.is n) := ⟨_, S.grow nt, S.newG nt, .is upd_same⟩
theorem fGet {G H : Hp} {M : List (Addr × HO)} {t : Addr} {x : Str} (S : Sep G M H) (nt : H t = none) : ∃ G', Same G G' ∧ Sep G' M (upd H t (.tup [.str "get", .str x])) ∧ FmAt G' (.ref t) (.get x) := ⟨_, S.grow nt, S.newG nt, .get upd_same⟩
theorem fSum {G H : Hp} {M : List (Addr × HO)} {t : Addr} {v1 v2 : V} {a b : Fm} (S : Sep G M H) (nt : H t = none) (h1 : FmAt G v1 a) (h2 : FmAt G v2 b) : ∃ G', Same G G' ∧ Sep G' M (upd H t (.tup [.str "sum", v1, v2])) ∧ FmAt G' (.ref t) (.sum a b) :=
  ⟨_, S.grow nt, S.newG nt, .sum upd_same (h1.same' (S.grow nt)) (h2.same' (S.grow nt))⟩
theorem fSame {G H : Hp} {M : List (Addr × HO)} {t : Addr} {v1 v2 : V} {a b : Fm} (S : Sep G M H) (nt : H t = none) (h1 : FmAt G v1 a) (h2 : FmAt G v2 b) : ∃ G', Same G G' ∧ Sep G' M (upd H t (.tup [.str "same", v1, v2])) ∧ FmAt G' (.ref t) (.same a b) :=
  ⟨_, S.grow nt, S.newG nt, .same upd_same (h1.same' (S.grow nt)) (h2.same' (S.grow nt))⟩
theorem fPick {G H : Hp} {M : List (Addr × HO)} {t : Addr} {v1 v2 v3 : V} {a b c : Fm} (S : Sep G M H) (nt : H t = none) (h1 : FmAt G v1 a) (h2 : FmAt G v2 b) (h3 : FmAt G v3 c) : ∃ G', Same G G' ∧ Sep G' M (upd H t (.tup [.str "pick", v1, v2, v3])) ∧ FmAt G' (.ref t) (.pick a b c) :=
  ⟨_, S.grow nt, S.newG nt, .pick upd_same (h1.same' (S.grow nt)) (h2.same' (S.grow nt)) (h3.same' (S.grow nt))⟩
theorem in_ints {v : V} (xs : List Int) (hx : (xs.all fun n => decide (0 ≤ n) && decide (n ≤ 9)) = true) (hv : v ∈ xs.map V.int) : ∃ n, v = .int n ∧ 0 ≤ n ∧ n ≤ 9 := by
  obtain ⟨n, hn, rfl⟩ := List.mem_map.mp hv
  have z := List.all_eq_true.mp hx n hn
  rw [Bool.and_eq_true] at z
  exact ⟨n, rfl, of_decide_eq_true z.1, of_decide_eq_true z.2⟩
theorem cut_to (xs : List V) {r : Int} (h : 0 ≤ r) : cutV xs none (some r) = xs.take r.toNat := by
  obtain ⟨j, rfl⟩ : ∃ j : Nat, r = (j : Int) := ⟨r.toNat, by omega⟩
  unfold cutV
  rw [HT.sIx_nat, HT.sIx_none]
  show List.take (min j xs.length - 0) (List.drop 0 xs) = _
  rw [Nat.sub_zero, List.drop_zero, Int.toNat_natCast]
  by_cases hj : j ≤ xs.length
  · rw [Nat.min_eq_left hj]
  · rw [Nat.min_eq_right (by omega), List.take_length, List.take_of_length_le (by omega)]
def vInt : V → Int
  | .int i => i
  | _ => 0
theorem perm_ints {ys : List V} {xs : List Int} (h : ys.Perm (xs.map V.int)) : ∃ ms : List Int, ys = ms.map V.int ∧ ms.Perm xs := by
  refine ⟨ys.map vInt, ?_, ?_⟩
  · rw [List.map_map]
    have e : ∀ y ∈ ys, (V.int ∘ vInt) y = y := fun y hy => by
      obtain ⟨n, _, rfl⟩ := List.mem_map.mp (h.mem_iff.mp hy)
      rfl
    exact ((List.map_congr_left e).trans (List.map_id _)).symm
  · have z := h.map vInt
    rw [List.map_map] at z
    have e : xs.map (vInt ∘ V.int) = xs := List.map_id _
    rw [e] at z
    exact z
def dig : List Int := [0, 1, 2, 3, 4, 5, 6, 7, 8, 9]
theorem row_of {ms : List Int} {k j : Nat} (h : ms.Perm (dig.take k)) (hj : j ≤ 5) : RowOk (ms.take j) := by
  refine ⟨by rw [List.length_take]; omega, ?_, fun n hn => ?_⟩
  · have z : (dig.take k).Nodup := List.Nodup.sublist (List.take_sublist _ _) (by decide)
    exact List.Nodup.sublist (List.take_sublist _ _) (h.nodup_iff.mpr z)
  · have z : n ∈ dig := List.mem_of_mem_take (h.mem_iff.mp (List.mem_of_mem_take hn))
    have e : ∀ n ∈ dig, 0 ≤ n ∧ n ≤ 9 := by decide
    exact e n z

def spLRow (K : PySem.W.Frag) : Sp := fun vs H Q _ => ∃ (G : Hp) (M : List (Addr × HO)) (b : Addr) (o : HO) (n : Int), vs = [.ref b, .int n] ∧ Sep G ((b, o) :: M) H ∧ Bag G o ∧ 0 ≤ n ∧ n ≤ 5 ∧
  ∀ (r : Addr) (ns : List Int) (o' : HO) (G' H' : Hp), Same G G' → TupF G' r (ns.map V.int) → RowOk ns → Bag G' o' → Sep G' ((b, o') :: M) H' → Q (.ref r) H'
theorem ok_row (T : Top K mg w) {k : Nat} (G_pick : FnOk P w K mg base CX0 k T.a_pick T.d_pick ["_law_bag_here", "_law_many"] spPick) (G_mingled : FnOk P w K mg base CX0 k T.a_mingled T.d_mingled ["_law_bag_here", "_law_things"] (spMingled K)) :
    FnOk P w K mg base CX0 (k + 1) T.a_row T.d_row ["_law_bag_here", "_law_most"] (spLRow K) := by
  refine T.F_row.ok sc_row (fun vs H Q E h => ?_) (fun cdv A outer s H vs Q E hr h => ?_)
  · obtain ⟨G, M, b, o, n, rfl, _⟩ := h
    rfl
  · obtain ⟨G, M, b, o, n, rfl, S, B, n0, n5, q⟩ := h
    refine ⟨_, (pss_cons (ps_set (i := 2) sc_row.nd rfl (.inl rfl) (pe_call G_mingled (hr.mono (by omega)) (by rfl) T.g_mingled T.F_mingled.kp T.b_mingled .nil pass0 (pa_cons (xv 0) (pa_cons (pe_slice (sl_listK K) (pe_lst (pa_cons pe_int (pa_cons pe_int (pa_cons pe_int (pa_cons pe_int (pa_cons pe_int (pa_cons pe_int (pa_cons pe_int (pa_cons pe_int (pa_cons pe_int (pa_cons pe_int pa_nil))))))))))) po_none (po_some (pe_op op_addY pe_int (pe_call G_pick (hr.mono (by omega)) (by rfl) T.g_pick T.F_pick.kp T.b_pick .nil pass0 (pa_cons (xv 0) (pa_cons pe_int pa_nil)))))) pa_nil))))
      (pss_one (ps_ret (pe_callTy (call_tupleFK K) (by rfl) T.m_tuple (by decide +kernel) (pa_cons (pe_slice (sl_listK K) (xv 2) po_none (po_some (pe_call G_pick (hr.mono (by omega)) (by rfl) T.g_pick T.F_pick.kp T.b_pick .nil pass0 (pa_cons (xv 0) (pa_cons (pe_op op_addY (xv 1) pe_int) pa_nil))))) pa_nil))))), ?_⟩
    refine ⟨sz, fun l0 nl0 => ?_⟩
    obtain ⟨G1, s1, S1, h1⟩ := Sep.mk (o := .lst (dig.map V.int)) S nl0
    refine ⟨G1, M, b, o, 9, rfl, S1, B.same s1, by decide, by decide, fun r o2 H2 r0 r1 B2 S2 => ?_⟩
    refine ⟨_, rfl, l0, _, rfl, SqL.of (S2.st h1), fun p np => ?_⟩
    rw [cut_to _ (by omega), ← List.map_take]
    obtain ⟨G3, s3, S3, h3⟩ := Sep.mk (o := .lst ((dig.take (2 + r).toNat).map V.int)) S2 np
    refine ⟨G3, M, b, o2, p, _, rfl, S3, B2.same s3, SqL.of h3, ?_, fun a ys o4 G4 H4 s4 h4 pm B4 S4 => ?_⟩
    · rw [List.length_map, List.length_take]
      exact Nat.lt_of_le_of_lt (Nat.min_le_right _ _) (by decide)
    · obtain ⟨ms, rfl, pm'⟩ := perm_ints pm
      refine ⟨G4, M, b, o4, n + 1, rfl, S4, B4, by omega, by omega, fun r5 o5 H5 r50 r51 B5 S5 => ?_⟩
      refine ⟨_, rfl, a, _, rfl, SqL.of (S5.st h4), fun p2 np2 => ?_⟩
      rw [cut_to _ r50, ← List.map_take]
      obtain ⟨G6, s6, S6, h6⟩ := Sep.mk (o := .lst ((ms.take r5.toNat).map V.int)) S5 np2
      refine ⟨p2, _, rfl, .inl ⟨SqL.of (S6.st h6), fun t ob nt hob => ?_⟩⟩
      obtain ⟨G7, s7, S7, h7⟩ := Sep.mk (o := .frz ob (.tup ((ms.take r5.toNat).map V.int))) S6 nt
      exact q t _ o5 G7 _ (s1.trans (s3.trans (s4.trans (s6.trans s7)))) ⟨ob, hob, h7⟩ (row_of pm' (by omega)) (B5.same (s6.trans s7)) S7

/-! ### the law's forms -/
def Nam (x : V) : Prop := ∃ z : Str, x = .str z ∧ (z = "item" ∨ z = "at")
def spFormF (K : PySem.W.Frag) (d : Nat) : Sp := fun vs H Q _ => ∃ (G : Hp) (M : List (Addr × HO)) (b : Addr) (o : HO) (l : Addr) (xs : List V) (n : Int), vs = [.ref b, .ref l, .int n] ∧ Sep G ((b, o) :: M) H ∧ Bag G o ∧ SqL K G l xs ∧ 0 < xs.length ∧ xs.length < 100000 ∧ (∀ x ∈ xs, Nam x) ∧ 1 ≤ n ∧ n ≤ d ∧
  ∀ (v : V) (f : Fm) (o' : HO) (G' H' : Hp), Same G G' → FmAt G' v f → f.ok → f.dep ≤ n → Bag G' o' → Sep G' ((b, o') :: M) H' → Q v H'
theorem ok_formF (T : Top K mg w) {k : Nat} (G_pick : FnOk P w K mg base CX0 k T.a_pick T.d_pick ["_law_bag_here", "_law_many"] spPick) (G_choice : FnOk P w K mg base CX0 k T.a_choice T.d_choice ["_law_bag_here", "_law_things"] (spChoice K)) :
    ∀ d : Nat, FnOk P w K mg base CX0 (k + 1 + d) T.a_form T.d_form ["_law_bag_here", "_law_readable", "_law_levels"] (spFormF K d)
  | 0 => fn_false fun vs H Q E h => by
    obtain ⟨G, M, b, o, l, xs, n, _, _, _, _, _, _, _, h1, h2, _⟩ := h
    omega
  | d + 1 => by
    have G_form := ok_formF T G_pick G_choice d
    refine T.F_form.ok sc_form (fun vs H Q E h => ?_) (fun cdv A outer s H vs Q E hr h => ?_)
    · obtain ⟨G, M, b, o, l, xs, n, rfl, _⟩ := h
      rfl
    · obtain ⟨G, M, b, o, l, xs, n, rfl, S, B, hl, x0, x1, nm, n1, n2, q⟩ := h
      have hr : Room (k + 1 + d) (A.deeper (envOfC (Str.ofString "_law_form") (defScope s_form) s.heap.objs.size T.a_form cdv)) := hr
      refine ⟨_, (pss_cons (ps_set (i := 3) sc_form.nd rfl (.inl rfl) (pe_call G_pick (hr.mono (by omega)) (by rfl) T.g_pick T.F_pick.kp T.b_pick .nil pass0 (pa_cons (xv 0) (pa_cons pe_int pa_nil))))
      (pss_cons (xs_if (PW.pt (xw_or (xt_cmp op_leY (xv 2) pe_int (nomark _)) (pw_or1 (xt_cmp op_ltY (xv 3) pe_int (nomark _)))))
      (pss_cons (xs_if (PW.pt (xw_or (pt_not (xt_truK K (xv 1))) (pw_or1 (PW.pt (xw_and (xt_cmp (op_eqLK K hr.u190) (xv 3) pe_int (nomark _)) (pw_and1 (xt_cmp (op_eqLK K hr.u190) (pe_call G_pick (hr.mono (by omega)) (by rfl) T.g_pick T.F_pick.kp T.b_pick .nil pass0 (pa_cons (xv 0) (pa_cons pe_int pa_nil))) pe_int (nomark _))))))))
      (pss_one (ps_ret (pe_tup (pa_cons pe_str (pa_cons (pe_call G_pick (hr.mono (by omega)) (by rfl) T.g_pick T.F_pick.kp T.b_pick .nil pass0 (pa_cons (xv 0) (pa_cons pe_int pa_nil))) pa_nil)))))
      pss_nil)
      (pss_one (ps_ret (pe_tup (pa_cons pe_str (pa_cons (pe_call G_choice (hr.mono (by omega)) (by rfl) T.g_choice T.F_choice.kp T.b_choice .nil pass0 (pa_cons (xv 0) (pa_cons (xv 1) pa_nil))) pa_nil))))))
      pss_nil)
      (pss_cons (ps_set (i := 4) sc_form.nd rfl (.inl rfl) (pe_call G_form (hr.mono (by omega)) (by rfl) T.g_form T.F_form.kp T.b_form .nil pass0 (pa_cons (xv 0) (pa_cons (xv 1) (pa_cons (pe_op op_subY (xv 2) pe_int) pa_nil)))))
      (pss_cons (ps_set (i := 5) sc_form.nd rfl (.inl rfl) (pe_call G_form (hr.mono (by omega)) (by rfl) T.g_form T.F_form.kp T.b_form .nil pass0 (pa_cons (xv 0) (pa_cons (xv 1) (pa_cons (pe_op op_subY (xv 2) pe_int) pa_nil)))))
      (pss_cons (xs_if (xt_cmp op_ltY (xv 3) pe_int (nomark _))
      (pss_one (ps_ret (pe_tup (pa_cons (pe_ix (ix_k K) (pe_lst (pa_cons pe_str (pa_cons pe_str (pa_cons pe_str pa_nil)))) (pe_op op_subY (xv 3) pe_int) (fun _ _ => rfl)) (pa_cons (xv 4) (pa_cons (xv 5) pa_nil))))))
      pss_nil)
      (pss_one (ps_ret (pe_tup (pa_cons pe_str (pa_cons (xv 4) (pa_cons (xv 5) (pa_cons (pe_call G_form (hr.mono (by omega)) (by rfl) T.g_form T.F_form.kp T.b_form .nil pass0 (pa_cons (xv 0) (pa_cons (xv 1) (pa_cons (pe_op op_subY (xv 2) pe_int) pa_nil)))) pa_nil)))))))))))), ?_⟩
      refine ⟨G, M, b, o, 8, rfl, S, B, by decide, by decide, fun w1 o1 H1 w0 w8 B1 S1 => ?_⟩
      have isQ : ∀ o2 H2, Bag G o2 → Sep G ((b, o2) :: M) H2 → ∀ r : Int, 0 ≤ r → r < 10 → ∀ t, H2 t = none → Q (.ref t) (upd H2 t (.tup [.str "is", .int r])) := fun o2 H2 B2 S2 r r0 r1 t nt =>
        q _ (.is r) o2 _ _ (S2.grow nt) (.is upd_same) ⟨r0, by omega⟩ n1 (B2.same (S2.grow nt)) (S2.newG nt)
      refine ⟨fun e1 => ⟨fun _ => ?_, tt⟩, fun e1 => ⟨fun e2 => ?_, fun e2 => ?_⟩⟩
      rotate_left 2
      · have n2' : ¬ n ≤ 1 := of_decide_eq_false e1
        have w3 : ¬ w1 < 3 := of_decide_eq_false e2
        refine ⟨G, M, b, o1, l, xs, n - 1, rfl, S1, B1, hl, x0, x1, nm, by omega, by omega, fun v1 f1 o2 G2 H2 s2 hf1 ok1 d1 B2 S2 => ?_⟩
        refine ⟨G2, M, b, o2, l, xs, n - 1, rfl, S2, B2, same_l s2 hl, x0, x1, nm, by omega, by omega, fun v2 f2 o3 G3 H3 s3 hf2 ok2 d2 B3 S3 => ⟨fun e3 => ?_, fun e3 => ?_⟩⟩
        · have w6 : w1 < 6 := of_decide_eq_true e3
          refine ⟨sz, fun t0 nt0 => ?_⟩
          have S4 := S3.newG (o := .lst [.str "sum", .str "sum", .str "same"]) nt0
          have s4 := S3.grow (o := .lst [.str "sum", .str "sum", .str "same"]) nt0
          obtain rfl | rfl | rfl : w1 = 3 ∨ w1 = 4 ∨ w1 = 5 := by omega
          · refine ⟨_, _, .inl (SqL.of upd_same), rfl, sz, fun t nt => ?_⟩
            have s5 := s4.trans (S4.grow (o := .tup [.str "sum", v1, v2]) nt)
            exact q _ (.sum f1 f2) o3 _ _ (s2.trans (s3.trans s5)) (.sum upd_same (hf1.same' (s3.trans s5)) (hf2.same' s5)) ⟨ok1, ok2⟩ (by simp only [Fm.dep]; omega) (B3.same s5) (S4.newG nt)
          · refine ⟨_, _, .inl (SqL.of upd_same), rfl, sz, fun t nt => ?_⟩
            have s5 := s4.trans (S4.grow (o := .tup [.str "sum", v1, v2]) nt)
            exact q _ (.sum f1 f2) o3 _ _ (s2.trans (s3.trans s5)) (.sum upd_same (hf1.same' (s3.trans s5)) (hf2.same' s5)) ⟨ok1, ok2⟩ (by simp only [Fm.dep]; omega) (B3.same s5) (S4.newG nt)
          · refine ⟨_, _, .inl (SqL.of upd_same), rfl, sz, fun t nt => ?_⟩
            have s5 := s4.trans (S4.grow (o := .tup [.str "same", v1, v2]) nt)
            exact q _ (.same f1 f2) o3 _ _ (s2.trans (s3.trans s5)) (.same upd_same (hf1.same' (s3.trans s5)) (hf2.same' s5)) ⟨ok1, ok2⟩ (by simp only [Fm.dep]; omega) (B3.same s5) (S4.newG nt)
        · refine ⟨G3, M, b, o3, l, xs, n - 1, rfl, S3, B3, same_l (s2.trans s3) hl, x0, x1, nm, by omega, by omega, fun v3 f3 o4 G4 H4 s4 hf3 ok3 d3 B4 S4 => ⟨sz, fun t nt => ?_⟩⟩
          have s5 := S4.grow (o := .tup [.str "pick", v1, v2, v3]) nt
          exact q _ (.pick f1 f2 f3) o4 _ _ (s2.trans (s3.trans (s4.trans s5))) (.pick upd_same (hf1.same' (s3.trans (s4.trans s5))) (hf2.same' (s4.trans s5)) (hf3.same' s5)) ⟨ok1, ok2, ok3⟩ (by simp only [Fm.dep]; omega) (B4.same s5) (S4.newG nt)
      all_goals
        have getQ : ∀ o2 H2, Bag G o2 → Sep G ((b, o2) :: M) H2 → ∀ v, v ∈ xs → ∀ t, H2 t = none → Q (.ref t) (upd H2 t (.tup [.str "get", v])) := fun o2 H2 B2 S2 v hv t nt => by
          obtain ⟨z, rfl, hz⟩ := nm v hv
          exact q _ (.get z) o2 _ _ (S2.grow nt) (.get upd_same) hz n1 (B2.same (S2.grow nt)) (S2.newG nt)
        have ne : (!!xs.isEmpty) = false := by
          cases xs with
          | nil => simp at x0
          | cons _ _ => rfl
        refine ⟨!xs.isEmpty, .inl ⟨xs, S1.l hl, rfl⟩, fun e => absurd e (by rw [ne]; decide), fun _ => ⟨fun _ => ?_, fun _ => ⟨ff, fun _ => ?_⟩⟩⟩
        · refine ⟨G, M, b, o1, 2, rfl, S1, B1, by decide, by decide, fun r2 o2 H2 _ _ B2 S2 => ⟨fun _ => ?_, fun _ => ?_⟩⟩
          · exact ⟨G, M, b, o2, 10, rfl, S2, B2, by decide, by decide, fun r3 o3 H3 r30 r31 B3 S3 => ⟨sz, fun t nt => isQ o3 H3 B3 S3 r3 r30 r31 t nt⟩⟩
          · exact ⟨G, M, b, o2, l, xs, rfl, S2, B2, hl, x0, x1, fun v o3 H3 hv B3 S3 => ⟨sz, fun t nt => getQ o3 H3 B3 S3 v hv t nt⟩⟩
        · exact ⟨G, M, b, o1, l, xs, rfl, S1, B1, hl, x0, x1, fun v o3 H3 hv B3 S3 => ⟨sz, fun t nt => getQ o3 H3 B3 S3 v hv t nt⟩⟩

def spAnyKey : Sp := fun vs H Q _ => ∃ (G : Hp) (M : List (Addr × HO)) (b : Addr) (o : HO), vs = [.ref b] ∧ Sep G ((b, o) :: M) H ∧ Bag G o ∧
  ∀ (v : V) (f : Fm) (o' : HO) (G' H' : Hp), Same G G' → FmAt G' v f → f.ok → f.dep ≤ 5 → Bag G' o' → Sep G' ((b, o') :: M) H' → Q v H'
theorem ok_any_key (T : Top K mg w) {k : Nat} (G_pick : FnOk P w K mg base CX0 k T.a_pick T.d_pick ["_law_bag_here", "_law_many"] spPick) (G_choice : FnOk P w K mg base CX0 k T.a_choice T.d_choice ["_law_bag_here", "_law_things"] (spChoice K))
    (G_form : FnOk P w K mg base CX0 (k + 1 + 5) T.a_form T.d_form ["_law_bag_here", "_law_readable", "_law_levels"] (spFormF K 5)) :
    FnOk P w K mg base CX0 (k + 7) T.a_any_key T.d_any_key ["_law_bag_here"] spAnyKey := by
  refine T.F_any_key.ok sc_any_key (fun vs H Q E h => ?_) (fun cdv A outer s H vs Q E hr h => ?_)
  · obtain ⟨G, M, b, o, rfl, _⟩ := h
    rfl
  · obtain ⟨G, M, b, o, rfl, S, B, q⟩ := h
    refine ⟨_, (pss_cons (ps_set (i := 1) sc_any_key.nd rfl (.inl rfl) (pe_call G_pick (hr.mono (by omega)) (by rfl) T.g_pick T.F_pick.kp T.b_pick .nil pass0 (pa_cons (xv 0) (pa_cons pe_int pa_nil))))
      (pss_cons (ps_set (i := 2) sc_any_key.nd rfl (.inl rfl) (pe_call G_choice (hr.mono (by omega)) (by rfl) T.g_choice T.F_choice.kp T.b_choice .nil pass0 (pa_cons (xv 0) (pa_cons (pe_lst (pa_cons pe_int (pa_cons pe_int (pa_cons pe_int (pa_cons pe_int (pa_cons pe_int (pa_cons pe_int (pa_cons pe_int (pa_cons pe_int (pa_cons pe_int (pa_cons pe_int (pa_cons pe_int pa_nil)))))))))))) pa_nil))))
      (pss_cons (ps_set (i := 3) sc_any_key.nd rfl (.inl rfl) (pe_call G_choice (hr.mono (by omega)) (by rfl) T.g_choice T.F_choice.kp T.b_choice .nil pass0 (pa_cons (xv 0) (pa_cons (pe_lst (pa_cons pe_int (pa_cons pe_int (pa_cons pe_int (pa_cons pe_int (pa_cons pe_int (pa_cons pe_int pa_nil))))))) pa_nil))))
      (pss_cons (ps_set (i := 4) sc_any_key.nd rfl (.inl rfl) (pe_tup (pa_cons pe_str (pa_cons pe_str pa_nil))))
      (pss_cons (xs_if (xt_cmp (op_eqLK K hr.u190) (xv 1) pe_int (nomark _))
      (pss_one (ps_ret (xv 4)))
      pss_nil)
      (pss_cons (xs_if (xt_cmp (op_eqLK K hr.u190) (xv 1) pe_int (nomark _))
      (pss_one (ps_ret (pe_tup (pa_cons pe_str (pa_cons pe_str pa_nil)))))
      pss_nil)
      (pss_cons (xs_if (xt_cmp (op_eqLK K hr.u190) (xv 1) pe_int (nomark _))
      (pss_one (ps_ret (pe_tup (pa_cons pe_str (pa_cons (xv 2) pa_nil)))))
      pss_nil)
      (pss_cons (xs_if (xt_cmp (op_eqLK K hr.u190) (xv 1) pe_int (nomark _))
      (pss_one (ps_ret (pe_tup (pa_cons pe_str (pa_cons (xv 4) (pa_cons (pe_tup (pa_cons pe_str (pa_cons (xv 2) pa_nil))) pa_nil))))))
      pss_nil)
      (pss_cons (xs_if (xt_cmp (op_eqLK K hr.u190) (xv 1) pe_int (nomark _))
      (pss_one (ps_ret (pe_tup (pa_cons pe_str (pa_cons (xv 4) (pa_cons (xv 4) pa_nil))))))
      pss_nil)
      (pss_cons (xs_if (xt_cmp (op_eqLK K hr.u190) (xv 1) pe_int (nomark _))
      (pss_one (ps_ret (pe_tup (pa_cons pe_str (pa_cons (xv 4) (pa_cons (pe_tup (pa_cons pe_str (pa_cons (xv 2) pa_nil))) pa_nil))))))
      pss_nil)
      (pss_cons (xs_if (xt_cmp (op_eqLK K hr.u190) (xv 1) pe_int (nomark _))
      (pss_one (ps_ret (pe_tup (pa_cons pe_str (pa_cons (pe_tup (pa_cons pe_str (pa_cons (xv 4) (pa_cons (pe_tup (pa_cons pe_str (pa_cons (xv 2) pa_nil))) pa_nil)))) (pa_cons (pe_tup (pa_cons pe_str (pa_cons (pe_call G_pick (hr.mono (by omega)) (by rfl) T.g_pick T.F_pick.kp T.b_pick .nil pass0 (pa_cons (xv 0) (pa_cons pe_int pa_nil))) pa_nil))) (pa_cons (xv 4) pa_nil)))))))
      pss_nil)
      (pss_cons (xs_if (xt_cmp (op_eqLK K hr.u190) (xv 1) pe_int (nomark _))
      (pss_one (ps_ret (pe_tup (pa_cons pe_str (pa_cons (xv 4) (pa_cons (pe_tup (pa_cons pe_str (pa_cons pe_str pa_nil))) pa_nil))))))
      pss_nil)
      (pss_cons (xs_if (xt_cmp (op_eqLK K hr.u190) (xv 1) pe_int (nomark _))
      (pss_one (ps_ret (pe_tup (pa_cons pe_str (pa_cons (pe_tup (pa_cons pe_str (pa_cons (pe_tup (pa_cons pe_str (pa_cons pe_str pa_nil))) (pa_cons (pe_tup (pa_cons pe_str (pa_cons (xv 3) pa_nil))) pa_nil)))) (pa_cons (pe_tup (pa_cons pe_str (pa_cons (xv 2) pa_nil))) (pa_cons (xv 4) pa_nil)))))))
      pss_nil)
      (pss_one (ps_ret (pe_call G_form (hr.mono (by omega)) (by rfl) T.g_form T.F_form.kp T.b_form .nil pass0 (pa_cons (xv 0) (pa_cons (pe_lst (pa_cons pe_str (pa_cons pe_str pa_nil))) (pa_cons (pe_op op_addY pe_int (pe_call G_pick (hr.mono (by omega)) (by rfl) T.g_pick T.F_pick.kp T.b_pick .nil pass0 (pa_cons (xv 0) (pa_cons pe_int pa_nil)))) pa_nil))))))))))))))))))), ?_⟩
    refine ⟨G, M, b, o, 12, rfl, S, B, by decide, by decide, fun way o1 H1 w0 w1 B1 S1 => ?_⟩
    refine ⟨sz, fun l2 nl2 => ?_⟩
    obtain ⟨G2, s2, S2, h2⟩ := Sep.mk (o := .lst [.int 9, .int 9, .int 0, .int 1, .int 2, .int 3, .int 4, .int 5, .int 6, .int 7, .int 8]) S1 nl2
    refine ⟨G2, M, b, o1, l2, _, rfl, S2, B1.same s2, SqL.of h2, by decide, by decide, fun v3 o3 H3 hv3 B3 S3 => ?_⟩
    obtain ⟨n3, rfl, n30, n31⟩ := in_ints [9, 9, 0, 1, 2, 3, 4, 5, 6, 7, 8] (by decide) hv3
    refine ⟨sz, fun l4 nl4 => ?_⟩
    obtain ⟨G4, s4, S4, h4⟩ := Sep.mk (o := .lst [.int 4, .int 4, .int 0, .int 1, .int 2, .int 3]) S3 nl4
    refine ⟨G4, M, b, o3, l4, _, rfl, S4, B3.same s4, SqL.of h4, by decide, by decide, fun v5 o5 H5 hv5 B5 S5 => ?_⟩
    obtain ⟨n5, rfl, n50, n51⟩ := in_ints [4, 4, 0, 1, 2, 3] (by decide) hv5
    refine ⟨sz, fun t6 nt6 => ?_⟩
    obtain ⟨G6, s6, S6, f6⟩ := fGet (x := "item") S5 nt6
    have B6 := B5.same s6
    have s06 := s2.trans (s4.trans s6)
    have okI : Fm.ok (.get "item") := .inl rfl
    have okA : Fm.ok (.get "at") := .inr rfl
    have okW : Fm.ok (.is n3) := ⟨n30, n31⟩
    have okS : Fm.ok (.is n5) := ⟨n50, n51⟩
    refine ⟨fun _ => q _ _ _ _ _ s06 f6 okI (by decide) B6 S6, fun _ => ?_⟩
    refine ⟨fun _ => ⟨sz, fun t nt => ?_⟩, fun _ => ?_⟩
    · obtain ⟨G7, s7, S7, f7⟩ := fGet (x := "at") S6 nt
      exact q _ _ _ _ _ (s06.trans s7) f7 okA (by decide) (B6.same s7) S7
    refine ⟨fun _ => ⟨sz, fun t nt => ?_⟩, fun _ => ?_⟩
    · obtain ⟨G7, s7, S7, f7⟩ := fIs (n := n3) S6 nt
      exact q _ _ _ _ _ (s06.trans s7) f7 okW (by simp [Fm.dep]) (B6.same s7) S7
    refine ⟨fun _ => ⟨sz, fun t nt => ⟨sz, fun t2 nt2 => ?_⟩⟩, fun _ => ?_⟩
    · obtain ⟨G7, s7, S7, f7⟩ := fIs (n := n3) S6 nt
      obtain ⟨G8, s8, S8, f8⟩ := fSum S7 nt2 (f6.same' s7) f7
      exact q _ _ _ _ _ (s06.trans (s7.trans s8)) f8 ⟨okI, okW⟩ (by simp [Fm.dep]) (B6.same (s7.trans s8)) S8
    refine ⟨fun _ => ⟨sz, fun t nt => ?_⟩, fun _ => ?_⟩
    · obtain ⟨G7, s7, S7, f7⟩ := fSum S6 nt f6 f6
      exact q _ _ _ _ _ (s06.trans s7) f7 ⟨okI, okI⟩ (by simp [Fm.dep]) (B6.same s7) S7
    refine ⟨fun _ => ⟨sz, fun t nt => ⟨sz, fun t2 nt2 => ?_⟩⟩, fun _ => ?_⟩
    · obtain ⟨G7, s7, S7, f7⟩ := fIs (n := n3) S6 nt
      obtain ⟨G8, s8, S8, f8⟩ := fSame S7 nt2 (f6.same' s7) f7
      exact q _ _ _ _ _ (s06.trans (s7.trans s8)) f8 ⟨okI, okW⟩ (by simp [Fm.dep]) (B6.same (s7.trans s8)) S8
    refine ⟨fun _ => ⟨sz, fun t nt => ⟨sz, fun t2 nt2 => ?_⟩⟩, fun _ => ?_⟩
    · obtain ⟨G7, s7, S7, f7⟩ := fIs (n := n3) S6 nt
      obtain ⟨G8, s8, S8, f8⟩ := fSame S7 nt2 (f6.same' s7) f7
      refine ⟨G8, M, b, _, 10, rfl, S8, B6.same (s7.trans s8), by decide, by decide, fun r9 o9 H9 r90 r91 B9 S9 => ⟨sz, fun t3 nt3 => ⟨sz, fun t4 nt4 => ?_⟩⟩⟩
      obtain ⟨Ga, sa, Sa, fa⟩ := fIs (n := r9) S9 nt3
      obtain ⟨Gb, sb, Sb, fb⟩ := fPick Sa nt4 (f8.same' sa) fa (f6.same' (s7.trans (s8.trans sa)))
      exact q _ _ _ _ _ (s06.trans (s7.trans (s8.trans (sa.trans sb)))) fb ⟨⟨okI, okW⟩, ⟨r90, by omega⟩, okI⟩ (by simp [Fm.dep]) (B9.same (sa.trans sb)) Sb
    refine ⟨fun _ => ⟨sz, fun t nt => ⟨sz, fun t2 nt2 => ?_⟩⟩, fun _ => ?_⟩
    · obtain ⟨G7, s7, S7, f7⟩ := fGet (x := "at") S6 nt
      obtain ⟨G8, s8, S8, f8⟩ := fSum S7 nt2 (f6.same' s7) f7
      exact q _ _ _ _ _ (s06.trans (s7.trans s8)) f8 ⟨okI, okA⟩ (by simp [Fm.dep]) (B6.same (s7.trans s8)) S8
    refine ⟨fun _ => ⟨sz, fun t nt => ⟨sz, fun t2 nt2 => ⟨sz, fun t3 nt3 => ⟨sz, fun t4 nt4 => ⟨sz, fun t5 nt5 => ?_⟩⟩⟩⟩⟩, fun _ => ?_⟩
    · obtain ⟨G7, s7, S7, f7⟩ := fGet (x := "at") S6 nt
      obtain ⟨G8, s8, S8, f8⟩ := fIs (n := n5) S7 nt2
      obtain ⟨G9, s9, S9, f9⟩ := fSame S8 nt3 (f7.same' s8) f8
      obtain ⟨Ga, sa, Sa, fa⟩ := fIs (n := n3) S9 nt4
      obtain ⟨Gb, sb, Sb, fb⟩ := fPick Sa nt5 (f9.same' sa) fa (f6.same' (s7.trans (s8.trans (s9.trans sa))))
      exact q _ _ _ _ _ (s06.trans (s7.trans (s8.trans (s9.trans (sa.trans sb))))) fb ⟨⟨okA, okS⟩, okW, okI⟩ (by simp [Fm.dep]) (B6.same (s7.trans (s8.trans (s9.trans (sa.trans sb))))) Sb
    refine ⟨sz, fun l7 nl7 => ?_⟩
    obtain ⟨G7, s7, S7, h7⟩ := Sep.mk (o := .lst [.str "item", .str "at"]) S6 nl7
    refine ⟨G7, M, b, _, 4, rfl, S7, B6.same s7, by decide, by decide, fun r8 o8 H8 r80 r81 B8 S8 => ?_⟩
    refine ⟨G7, M, b, o8, l7, _, 2 + r8, rfl, S8, B8, SqL.of h7, by decide, by decide, fun x hx => ?_, by omega, by omega, fun v f o9 G9 H9 s9 f9 ok9 d9 B9 S9 => q _ _ _ _ _ (s06.trans (s7.trans s9)) f9 ok9 (by omega) B9 S9⟩
    rcases List.mem_cons.mp hx with rfl | hx
    · exact ⟨_, rfl, .inl rfl⟩
    · rw [List.mem_singleton.mp hx]
      exact ⟨_, rfl, .inr rfl⟩

end
end K25
set_option Elab.async false
set_option linter.all false
set_option maxRecDepth 100000
set_option maxHeartbeats 4000000
namespace K25
open PySem PySem.Spec PyProof.Rows L2 XL
section
variable {P : Program} {w : World} {K : PySem.W.Frag} {mg : Str → Option Value} {base : Heap}
/-! ### the six calls -/
theorem fn_anyC {CX : CXT} {k : Nat} {f : Addr} {fd : FuncData} {ps : List Str} {sp : Sp} (F : FnOk P w K mg base CX0 k f fd ps sp) : FnOk P w K mg base CX k f fd ps sp :=
  ⟨F.len, fun A outer s H args us vs Q E hr he hb hv q => codeAny_mono (F.run A outer s H args us vs Q E hr he hb hv q) fun r s' h => by
    cases r with
    | ok fl => cases fl <;> exact h
    | error e => exact h.elim⟩
/-- the rows are good, or the first bad one is told -/
def Rws (K : PySem.W.Frag) (CB : Addr) (G : Hp) (M : List (Addr × HO)) (us : List V) (E : XK) (W : Prop) : Prop := ((∃ xs, Paired (RowsAt G) us xs) ∧ W) ∨ ∃ i, BadM K G us i ∧ ∀ u, us[i]? = some u → Rz G M CB [("row", u)] E
theorem rws_two {K : PySem.W.Frag} {CB : Addr} {G : Hp} {M : List (Addr × HO)} {a b : V} {E : XK} {W : Prop} (h : Rws K CB G M [a, b] E W) : (∃ x y, RowsAt G a x ∧ RowsAt G b y ∧ W) ∨ ∃ u, Bad2 K G a b u ∧ Rz G M CB [("row", u)] E := by
  rcases h with ⟨⟨xs, pu⟩, q⟩ | ⟨i, ⟨⟨ub, hub, hbad⟩, hgood⟩, rz⟩
  · obtain ⟨x, _, hx⟩ := prd_get pu (show [a, b][0]? = some a from rfl)
    obtain ⟨y, _, hy⟩ := prd_get pu (show [a, b][1]? = some b from rfl)
    exact .inl ⟨x, y, hx, hy, q⟩
  · match i, hub, hgood, rz with
    | 0, hub, _, rz =>
      cases hub
      exact .inr ⟨_, .inl ⟨hbad, rfl⟩, rz _ rfl⟩
    | 1, hub, hgood, rz =>
      cases hub
      obtain ⟨x, rfl, hrx, rox⟩ := hgood 0 a (by decide) rfl
      exact .inr ⟨_, .inr ⟨x.1, x.2, rfl, hrx, rox, hbad, rfl⟩, rz _ rfl⟩
    | i + 2, hub, _, _ => exact nomatch hub
theorem BadM.same {K : PySem.W.Frag} {G G' : Hp} {us : List V} {i : Nat} (e : Same G G') (h : BadM K G us i) : BadM K G' us i := ⟨let ⟨u, h1, h2⟩ := h.1; ⟨u, h1, h2.same e⟩, fun j v hj hv => let ⟨x, hx⟩ := h.2 j v hj hv; ⟨x, hx.same e⟩⟩
def spCalled (K : PySem.W.Frag) (C CB : Addr) : Sp := fun vs H Q E => ∃ (G : Hp) (M : List (Addr × HO)) (wh many : Int) (kv : V) (f : Fm) (l : Addr) (us : List V), vs = [.int wh, kv, .int many, .ref l] ∧ Sep G M H ∧ 0 ≤ many ∧ many ≤ 2 ∧ KeyAt C G kv f ∧ G l = some (.lst us) ∧
  1 ≤ us.length ∧ us.length ≤ 4 ∧ (wh = 0 → us.length = 1) ∧ (wh = 1 ∨ wh = 2 ∨ wh = 3 → us.length = 2) ∧ Rws K CB G M us E (∀ v G' H', Same G G' → Sep G' M H' → Q v H')
theorem ok_called (T : Top K mg w) {k : Nat} (G_Key_idents : FnOk P w K mg base (L2.CX P w) k T.a_Key_idents T.d_Key_idents ["self", "row"] (fun vs H Q E => spKIdents T.C_Key vs H Q E ∨ spKIdX K T.C_Key T.C_BadRow vs H Q E))
    (G_matched : FnOk P w K mg base (L2.CX P w) k T.a_matched T.d_matched ["key", "old", "new"] (fun vs H Q E => spMatched T.C_Key vs H Q E ∨ spTwoX K T.C_Key T.C_BadRow vs H Q E))
    (G_slips : FnOk P w K mg base (L2.CX P w) k T.a_slips T.d_slips ["key", "old", "new"] (fun vs H Q E => spSlips T.C_Key vs H Q E ∨ spTwoX K T.C_Key T.C_BadRow vs H Q E))
    (G_losses : FnOk P w K mg base (L2.CX P w) k T.a_losses T.d_losses ["key", "old", "new"] (fun vs H Q E => spLosses T.C_Key vs H Q E ∨ spTwoX K T.C_Key T.C_BadRow vs H Q E))
    (G_faithful : FnOk P w K mg base (L2.CX P w) k T.a_faithful T.d_faithful ["key", "menu"] (fun vs H Q E => spFaithful K T.C_Key vs H Q E ∨ spMenuX K T.C_Key T.C_BadRow vs H Q E))
    (G_coarsest : FnOk P w K mg base (L2.CX P w) k T.a_coarsest T.d_coarsest ["keys", "menu"] (fun vs H Q E => spCoarsest K T.C_Key vs H Q E ∨ spCoarX K T.C_Key T.C_BadRow vs H Q E)) :
    FnOk P w K mg base (L2.CX P w) (k + 1) T.a_called T.d_called ["_law_which", "_law_key", "_law_many", "_law_rows"] (spCalled K T.C_Key T.C_BadRow) := by
  refine T.F_called.okX sc_called (fun vs H Q E h => ?_) (fun cdv A outer s H vs Q E hr h => ?_)
  · obtain ⟨G, M, wh, many, kv, f, l, us, rfl, _⟩ := h
    rfl
  · obtain ⟨G, M, wh, many, kv, f, l, us, rfl, S, m0, m2, hk, hl, l1, l4, c1, c2, hr2⟩ := h
    refine ⟨_, (pss_cons (xs_if (xt_cmp (op_eqLK K hr.u190) (xv 0) pe_int (nomark _))
      (pss_one (ps_ret (pe_meth (xv 1) T.cl_Key T.me_Key_idents G_Key_idents (hr.mono (by omega)) T.b_Key_idents .nil (passO (takes_of rfl rfl rfl rfl)) (pa_cons (pe_ix (ix_k K) (xv 3) pe_int (fun _ _ => rfl)) pa_nil))))
      pss_nil)
      (pss_cons (xs_if (xt_cmp (op_eqLK K hr.u190) (xv 0) pe_int (nomark _))
      (pss_one (ps_ret (pe_call G_matched (hr.mono (by omega)) (by rfl) T.g_matched T.F_matched.kp T.b_matched .nil (passO (takes_of rfl rfl rfl rfl)) (pa_cons (xv 1) (pa_cons (pe_ix (ix_k K) (xv 3) pe_int (fun _ _ => rfl)) (pa_cons (pe_ix (ix_k K) (xv 3) pe_int (fun _ _ => rfl)) pa_nil))))))
      pss_nil)
      (pss_cons (xs_if (xt_cmp (op_eqLK K hr.u190) (xv 0) pe_int (nomark _))
      (pss_one (ps_ret (pe_call G_slips (hr.mono (by omega)) (by rfl) T.g_slips T.F_slips.kp T.b_slips .nil (passO (takes_of rfl rfl rfl rfl)) (pa_cons (xv 1) (pa_cons (pe_ix (ix_k K) (xv 3) pe_int (fun _ _ => rfl)) (pa_cons (pe_ix (ix_k K) (xv 3) pe_int (fun _ _ => rfl)) pa_nil))))))
      pss_nil)
      (pss_cons (xs_if (xt_cmp (op_eqLK K hr.u190) (xv 0) pe_int (nomark _))
      (pss_one (ps_ret (pe_call G_losses (hr.mono (by omega)) (by rfl) T.g_losses T.F_losses.kp T.b_losses .nil (passO (takes_of rfl rfl rfl rfl)) (pa_cons (xv 1) (pa_cons (pe_ix (ix_k K) (xv 3) pe_int (fun _ _ => rfl)) (pa_cons (pe_ix (ix_k K) (xv 3) pe_int (fun _ _ => rfl)) pa_nil))))))
      pss_nil)
      (pss_cons (xs_if (xt_cmp (op_eqLK K hr.u190) (xv 0) pe_int (nomark _))
      (pss_one (ps_ret (pe_call G_faithful (hr.mono (by omega)) (by rfl) T.g_faithful T.F_faithful.kp T.b_faithful .nil (passO (takes_of rfl rfl rfl rfl)) (pa_cons (xv 1) (pa_cons (pe_callTy (call_tupleK K) (by rfl) T.m_tuple (by decide +kernel) (pa_cons (xv 3) pa_nil)) pa_nil)))))
      pss_nil)
      (pss_one (ps_ret (pe_call G_coarsest (hr.mono (by omega)) (by rfl) T.g_coarsest T.F_coarsest.kp T.b_coarsest .nil (passO (takes_of rfl rfl rfl rfl)) (pa_cons (pe_slice (sl_listK K) (pe_lst (pa_cons (xv 1) (pa_cons (xv 1) pa_nil))) po_none (po_some (xv 2))) (pa_cons (pe_callTy (call_tupleK K) (by rfl) T.m_tuple (by decide +kernel) (pa_cons (xv 3) pa_nil)) pa_nil)))))))))), ?_⟩
    obtain ⟨kx, kdx, ku, rfl, hkx, hku⟩ := id hk
    have sl : SqL K H l us := SqL.of (S.st hl)
    have at0 : ∀ {u}, us[0]? = some u → ∀ {P : V → Prop}, P u → True := fun _ _ _ => trivial
    -- two rows
    have two : us.length = 2 → ∃ a b, us = [a, b] := fun e => by
      match us, e with
      | [a, b], _ => exact ⟨a, b, rfl⟩
    -- one row
    refine ⟨fun e => ?_, fun e0 => ⟨fun e => ?_, fun e1 => ⟨fun e => ?_, fun e2 => ⟨fun e => ?_, fun e3 => ⟨fun e => ?_, fun e4 => ?_⟩⟩⟩⟩⟩
    · have e := c1 (of_decide_eq_true e)
      obtain ⟨u, rfl⟩ : ∃ u, us = [u] := by
        match us, e with
        | [u], _ => exact ⟨u, rfl⟩
      refine ⟨kx, kdx, _, rfl, S.st hkx, rfl, _, _, .inl sl, atI_nat (show [u][0]? = some u from rfl), ?_⟩
      rcases hr2 with ⟨⟨xs, pu⟩, q⟩ | ⟨i, ⟨⟨ub, hub, hbad⟩, hgood⟩, rz⟩
      · obtain ⟨x, hx, rfl, hrx, rox⟩ := prd_get pu (show [u][0]? = some u from rfl)
        exact .inl ⟨G, M, _, f, x.1, x.2, rfl, S, hk, hrx.tu, rox, fun p ws G1 H1 s1 S1 _ _ => q _ G1 H1 s1 S1⟩
      · have i0 : i = 0 := by
          have := (List.getElem?_eq_some_iff.mp hub).1
          simp at this
          exact this
        subst i0
        cases hub
        exact .inr ⟨G, M, _, _, f, rfl, S, hk, hbad, rz _ rfl⟩
    · obtain ⟨a, b, rfl⟩ := two (c2 (.inl (of_decide_eq_true e)))
      refine ⟨_, _, .inl sl, atI_nat (show [a, b][0]? = some a from rfl), _, _, .inl sl, atI_nat (show [a, b][1]? = some b from rfl), ?_⟩
      rcases rws_two hr2 with ⟨x, y, ⟨rfl, hx, rx⟩, ⟨rfl, hy, ry⟩, q⟩ | ⟨u, hb, rz⟩
      · exact .inl ⟨G, M, _, f, x.1, y.1, x.2, y.2, rfl, S, hk, hx.tu, rx, hy.tu, ry, fun p ws G1 H1 s1 S1 _ _ => q _ G1 H1 s1 S1⟩
      · exact .inr ⟨G, M, _, _, _, u, f, rfl, S, hk, hb, rz⟩
    · obtain ⟨a, b, rfl⟩ := two (c2 (.inr (.inl (of_decide_eq_true e))))
      refine ⟨_, _, .inl sl, atI_nat (show [a, b][0]? = some a from rfl), _, _, .inl sl, atI_nat (show [a, b][1]? = some b from rfl), ?_⟩
      rcases rws_two hr2 with ⟨x, y, ⟨rfl, hx, rx⟩, ⟨rfl, hy, ry⟩, q⟩ | ⟨u, hb, rz⟩
      · exact .inl ⟨G, M, _, f, x.1, y.1, x.2, y.2, rfl, S, hk, hx.tu, rx, hy.tu, ry, fun p ws G1 H1 s1 S1 _ _ => q _ G1 H1 s1 S1⟩
      · exact .inr ⟨G, M, _, _, _, u, f, rfl, S, hk, hb, rz⟩
    · obtain ⟨a, b, rfl⟩ := two (c2 (.inr (.inr (of_decide_eq_true e))))
      refine ⟨_, _, .inl sl, atI_nat (show [a, b][0]? = some a from rfl), _, _, .inl sl, atI_nat (show [a, b][1]? = some b from rfl), ?_⟩
      rcases rws_two hr2 with ⟨x, y, ⟨rfl, hx, rx⟩, ⟨rfl, hy, ry⟩, q⟩ | ⟨u, hb, rz⟩
      · exact .inl ⟨G, M, _, f, x.1, y.1, x.2, y.2, rfl, S, hk, hx, rx, hy, ry, fun p G1 H1 s1 S1 _ => q _ G1 H1 s1 S1⟩
      · exact .inr ⟨G, M, _, _, _, u, f, rfl, S, hk, hb, rz⟩
    · refine ⟨l, us, rfl, .inl ⟨sl, fun t nt => ?_⟩⟩
      obtain ⟨G1, s1, S1, ht⟩ := Sep.mk (o := .tup us) S nt
      rcases hr2 with ⟨⟨xs, pu⟩, q⟩ | ⟨i, hb, rz⟩
      · exact .inl ⟨f, G1, M, _, t, us, xs, rfl, S1, hk.same s1, .inl ht, prd_imp (fun _ _ => RowsAt.same s1) pu, by omega, fun G2 H2 _ s2 S2 => q _ G2 H2 (s1.trans s2) S2, fun i j x y t2 G2 H2 _ _ _ _ s2 S2 _ => q _ G2 H2 (s1.trans s2) S2⟩
      · exact .inr ⟨G1, M, _, t, us, i, f, rfl, S1, hk.same s1, .inl ht, by omega, hb.same s1, fun u hu => (rz u hu).same s1⟩
    · refine ⟨sz, fun l0 nl0 => ?_⟩
      obtain ⟨G1, s1, S1, hl0⟩ := Sep.mk (o := .lst [.ref kx, .ref kx]) S nl0
      refine ⟨_, rfl, l0, _, rfl, SqL.of (S1.st hl0), fun p np => ?_⟩
      rw [cut_to _ m0]
      obtain ⟨G2, s2, S2, hp⟩ := Sep.mk (o := .lst (([.ref kx, .ref kx] : List V).take many.toNat)) S1 np
      have s12 := s1.trans s2
      refine ⟨l, us, rfl, .inl ⟨SqL.of (S2.st (s12 _ _ hl)), fun t nt => ?_⟩⟩
      obtain ⟨G3, s3, S3, ht⟩ := Sep.mk (o := .tup us) S2 nt
      have s13 := s12.trans s3
      have pk : Paired (KeyAt T.C_Key G3) (([.ref kx, .ref kx] : List V).take many.toNat) (([f, f] : List Fm).take many.toNat) := prd_take _ (.cons (hk.same s13) (.cons (hk.same s13) .nil))
      rcases hr2 with ⟨⟨xs, pu⟩, q⟩ | ⟨i, hb, rz⟩
      · exact .inl ⟨G3, M, p, t, _, us, _, xs, rfl, S3, s3 _ _ hp, pk, by rw [List.length_take]; simp; omega, .inl ht, prd_imp (fun _ _ => RowsAt.same s13) pu, by omega, fun p2 G4 H4 s4 S4 => q _ G4 H4 (s13.trans s4) S4.drop⟩
      · exact .inr ⟨G3, M, p, t, us, i, rfl, S3, .inl ht, by omega, hb.same s13, fun u hu => (rz u hu).same s13⟩

end
end K25
set_option Elab.async false
set_option linter.all false
set_option maxRecDepth 100000
set_option maxHeartbeats 4000000
namespace K25
open PySem PySem.Spec PyProof.Rows L2 XL
section
variable {P : Program} {w : World} {K : PySem.W.Frag} {mg : Str → Option Value} {base : Heap}
/-! ### what a call tells -/
theorem kit_three {K : PySem.W.Frag} {t a b c : Value} (h1 : PySem.W.kitOne K t a = some false) (h2 : PySem.W.kitOne K t b = some false) (h3 : PySem.W.kitOne K t c = some false) : PySem.W.kitAny K t [a, b, c] = some false := by
  simp only [PySem.W.kitAny, h1, h2, h3]
def spRowTold (K : PySem.W.Frag) (C : Addr) : Sp := fun vs H Q _ => ∃ (G : Hp) (M : List (Addr × HO)) (wh many : Int) (kv : V) (f : Fm) (l : Addr) (us : List V), vs = [.int wh, kv, .int many, .ref l] ∧ Sep G M H ∧ 0 ≤ many ∧ many ≤ 2 ∧ KeyAt C G kv f ∧ G l = some (.lst us) ∧
  1 ≤ us.length ∧ us.length ≤ 4 ∧ (wh = 0 → us.length = 1) ∧ (wh = 1 ∨ wh = 2 ∨ wh = 3 → us.length = 2) ∧
  (((∃ xs, Paired (RowsAt G) us xs) ∧ ∀ t G' H', Same G G' → SqT K G' t [.str "good", .str ""] → Sep G' M H' → Q (.ref t) H') ∨
    ∃ (i : Nat) (u : V) (d : PyData), BadM K G us i ∧ us[i]? = some u ∧ Dp K G u d ∧ Fk 4000 60 d ∧ ∀ t G' H', Same G G' → SqT K G' t [.str "BadRow", .str d.shown] → Sep G' M H' → Q (.ref t) H')
theorem ok_row_told (T : Top K mg w) (pf : PySem.XExc.PF P T.x_file) {k : Nat} (G_called : FnOk P w K mg base (L2.CX P w) k T.a_called T.d_called ["_law_which", "_law_key", "_law_many", "_law_rows"] (spCalled K T.C_Key T.C_BadRow)) :
    FnG P w K mg base CX0 (k + 1) T.a_row_told T.d_row_told ["_law_which", "_law_key", "_law_many", "_law_rows"] (spRowTold K T.C_Key) := by
  refine okG T.F_row_told sc_row_told (fun vs H Q E h => ?_) (fun cdv A outer s H vs Q E hr hg h => ?_)
  · obtain ⟨G, M, wh, many, kv, f, l, us, rfl, _⟩ := h
    rfl
  · obtain ⟨G, M, wh, many, kv, f, l, us, rfl, S, m0, m2, hk, hl, l1, l4, c1, c2, q⟩ := h
    refine ⟨_, (pss_cons (ps_try_as (i := 4) (Wout := fun _ _ _ _ => False) rfl rfl sc_row_told.nd rfl rfl ⟨rfl, by decide, Or.inl T.g_ScreenError⟩ takes0
      (fun W pn xe tk _ => (pss_one (ps_expr (pe_callS G_called (hr.mono (by omega)) (by rfl) T.g_called T.F_called.kp T.b_called (fun σ => passAt tk σ) (pa_cons (xv 0) (pa_cons (xv 1) (pa_cons (xv 2) (pa_cons (xv 3) pa_nil))))))))
      (fun a oe cls d pn hz hf => (pss_cons (xs_if (PW.pt (xw_and (xt_truK K (pe_callB (call_isX hz hf) (by rfl) T.m_isinstance (by decide +kernel) (pa_cons (xv 4) (pa_cons (pe_glob (v := .ref T.C_BadRow) (by rfl) T.g_BadRow rfl) pa_nil)))) (xw_and (xt_truK K (pe_callB (call_isX hz hf) (by rfl) T.m_isinstance (by decide +kernel) (pa_cons (xv 4) (pa_cons (pe_bltn (v := .ty "ValueError") (by rfl) T.m_ValueError (by decide +kernel) rfl) pa_nil)))) (pw_and1 (pt_not (xt_truK K (pe_callB (call_isX hz hf) (by rfl) T.m_isinstance (by decide +kernel) (pa_cons (xv 4) (pa_cons (pe_tup (pa_cons (pe_glob (v := .ref T.C_BadForm) (by rfl) T.g_BadForm rfl) (pa_cons (pe_glob (v := .ref T.C_NoName) (by rfl) T.g_NoName rfl) (pa_cons (pe_glob (v := .ref T.C_NoItem) (by rfl) T.g_NoItem rfl) pa_nil)))) pa_nil)))))))))
      (pss_one (ps_ret (pe_tup (pa_cons pe_str (pa_cons (pe_callB (call_reprG K hg (by have z := u70 hr; exact z)) (by rfl) T.m_repr (by decide +kernel) (pa_cons (pe_xf T.xf_BadRow (T.x_BadRow P pf).noN hz hf (xv 4)) pa_nil)) pa_nil)))))
      pss_nil)
      (pss_one (ps_ret (pe_tup (pa_cons pe_str (pa_cons pe_str pa_nil))))))))
      (pss_one (ps_ret (pe_tup (pa_cons pe_str (pa_cons pe_str pa_nil)))))), ?_⟩
    refine ⟨G, M, wh, many, kv, f, l, us, rfl, S, m0, m2, hk, hl, l1, l4, c1, c2, ?_⟩
    rcases q with ⟨hp, q⟩ | ⟨i, u, d, hb, hu, hd, fk, q⟩
    · refine .inl ⟨hp, fun v G1 H1 s1 S1 => ?_⟩
      refine ⟨sz, fun t nt => ?_⟩
      obtain ⟨G2, s2, S2, ht⟩ := Sep.mk (o := .tup [.str "good", .str ""]) S1 nt
      exact q t G2 _ (s1.trans s2) (SqT.of ht) S2
    · refine .inr ⟨i, hb, fun u2 hu2 => ?_⟩
      rw [hu] at hu2
      cases hu2
      refine fun GE HE N dd sE SE ndd => ?_
      have S1 := SE.sub (M' := M) (List.sublist_append_right N _)
      have S2 := S1.newG (o := .xd [("row", u)]) ndd
      have s2 := S1.grow (o := .xd [("row", u)]) ndd
      have hd1 : (upd GE dd (.xd [("row", u)])) dd = some (.xd [("row", u)]) := upd_same
      refine ⟨true, T.em_BadRow_ScreenError, fun _ a na => ?_, tt⟩
      refine ⟨T.C_BadRow, dd, _, true, rfl, rfl, S2.st hd1, T.xc_BadRow, .inl ⟨_, _, rfl, fun u r => r, if_pos (beq_self_eq_true _)⟩, fun _ => ?_, tt⟩
      refine ⟨T.C_BadRow, dd, _, true, rfl, rfl, S2.st hd1, T.xc_BadRow, .inl ⟨_, _, rfl, fun u r => r, T.kv_BadRow⟩, fun _ => ?_, tt⟩
      refine ⟨sz, fun ct nct => ?_⟩
      obtain ⟨G3, s3, S3, h3⟩ := Sep.mk (o := .tup [.ref T.C_BadForm, .ref T.C_NoName, .ref T.C_NoItem]) S2 nct
      have hd3 := s3 _ _ hd1
      refine ⟨T.C_BadRow, dd, _, false, rfl, rfl, S3.st hd3, T.xc_BadRow, .inr ⟨ct, _, _, rfl, S3.st h3, .cons (.cons (.cons .nil)), kit_three T.ki_BadRow_BadForm T.ki_BadRow_NoName T.ki_BadRow_NoItem⟩, fun _ => ?_, tt⟩
      have sG : Same G G3 := sE.trans (s2.trans s3)
      refine ⟨rfl, rfl, dd, [("row", u)], u, rfl, S3.st hd3, lk_eq, ?_⟩
      unfold tNil
      show rRepr K [u] _ _
      refine rep_ok (dp_same S3.1 (dp_same sG hd)) fk ?_
      refine ⟨sz, fun t nt => ?_⟩
      obtain ⟨G4, s4, S4, ht⟩ := Sep.mk (o := .tup [.str "BadRow", .str d.shown]) S3 nt
      exact q t G4 _ (sG.trans s4) (SqT.of ht) S4

end
end K25
set_option Elab.async false
set_option linter.all false
set_option maxRecDepth 100000
set_option maxHeartbeats 4000000
namespace K25
open PySem PySem.Spec PyProof.Rows L2 XL
section
variable {P : Program} {w : World} {K : PySem.W.Frag} {mg : Str → Option Value} {base : Heap}
/-! ### the law's rows -/
def spSomeRow : Sp := fun vs H Q _ => ∃ (G : Hp) (M : List (Addr × HO)) (b : Addr) (o : HO), vs = [.ref b] ∧ Sep G ((b, o) :: M) H ∧ Bag G o ∧
  ∀ (v : V) (x : Addr × List Int) (o' : HO) (G' H' : Hp), Same G G' → RowsAt G' v x → Bag G' o' → Sep G' ((b, o') :: M) H' → Q v H'
theorem ok_some_row (T : Top K mg w) {k : Nat} (G_pick : FnOk P w K mg base CX0 k T.a_pick T.d_pick ["_law_bag_here", "_law_many"] spPick) (G_mingled : FnOk P w K mg base CX0 k T.a_mingled T.d_mingled ["_law_bag_here", "_law_things"] (spMingled K)) (G_row : FnOk P w K mg base CX0 k T.a_row T.d_row ["_law_bag_here", "_law_most"] (spLRow K)) :
    FnOk P w K mg base CX0 (k + 1) T.a_some_row T.d_some_row ["_law_bag_here"] spSomeRow := by
  refine T.F_some_row.ok sc_some_row (fun vs H Q E h => ?_) (fun cdv A outer s H vs Q E hr h => ?_)
  · obtain ⟨G, M, b, o, rfl, _⟩ := h
    rfl
  · obtain ⟨G, M, b, o, rfl, S, B, q⟩ := h
    refine ⟨_, (pss_cons (ps_set (i := 1) sc_some_row.nd rfl (.inl rfl) (pe_call G_pick (hr.mono (by omega)) (by rfl) T.g_pick T.F_pick.kp T.b_pick .nil pass0 (pa_cons (xv 0) (pa_cons pe_int pa_nil))))
      (pss_cons (xs_if (xt_cmp (op_eqLK K hr.u190) (xv 1) pe_int (nomark _))
      (pss_one (ps_ret (pe_tupF pa_nil)))
      pss_nil)
      (pss_cons (xs_if (xt_cmp (op_eqLK K hr.u190) (xv 1) pe_int (nomark _))
      (pss_one (ps_ret (pe_callTy (call_tupleFK K) (by rfl) T.m_tuple (by decide +kernel) (pa_cons (pe_slice (sl_listK K) (pe_call G_mingled (hr.mono (by omega)) (by rfl) T.g_mingled T.F_mingled.kp T.b_mingled .nil pass0 (pa_cons (xv 0) (pa_cons (pe_lst (pa_cons pe_int (pa_cons pe_int (pa_cons pe_int (pa_cons pe_int (pa_cons pe_int (pa_cons pe_int (pa_cons pe_int (pa_cons pe_int (pa_cons pe_int (pa_cons pe_int pa_nil))))))))))) pa_nil))) po_none (po_some pe_int)) pa_nil))))
      pss_nil)
      (pss_one (ps_ret (pe_call G_row (hr.mono (by omega)) (by rfl) T.g_row T.F_row.kp T.b_row .nil pass0 (pa_cons (xv 0) (pa_cons pe_int pa_nil)))))))), ?_⟩
    refine ⟨G, M, b, o, 4, rfl, S, B, by decide, by decide, fun way o1 H1 w0 w1 B1 S1 => ?_⟩
    refine ⟨fun _ => ?_, fun _ => ⟨fun _ => ?_, fun _ => ?_⟩⟩
    · refine ⟨sz, fun t ob nt hob => ?_⟩
      obtain ⟨G2, s2, S2, h2⟩ := Sep.mk (o := .frz ob (.tup [])) S1 nt
      exact q _ (t, []) o1 G2 _ s2 ⟨rfl, ⟨ob, hob, h2⟩, ⟨by simp, by simp, fun n hn => nomatch hn⟩⟩ (B1.same s2) S2
    · refine ⟨sz, fun l0 nl0 => ?_⟩
      obtain ⟨G1, s1, S2, h1⟩ := Sep.mk (o := .lst (dig.map V.int)) S1 nl0
      refine ⟨G1, M, b, o1, l0, _, rfl, S2, B1.same s1, SqL.of h1, by decide, fun a ys o4 G4 H4 s4 h4 pm B4 S4 => ?_⟩
      obtain ⟨ms, rfl, pm'⟩ := perm_ints pm
      refine ⟨_, rfl, a, _, rfl, SqL.of (S4.st h4), fun p2 np2 => ?_⟩
      rw [cut_to _ (by decide), ← List.map_take]
      obtain ⟨G6, s6, S6, h6⟩ := Sep.mk (o := .lst ((ms.take (5 : Int).toNat).map V.int)) S4 np2
      refine ⟨p2, _, rfl, .inl ⟨SqL.of (S6.st h6), fun t ob nt hob => ?_⟩⟩
      obtain ⟨G7, s7, S7, h7⟩ := Sep.mk (o := .frz ob (.tup ((ms.take (5 : Int).toNat).map V.int))) S6 nt
      exact q _ (t, ms.take (5 : Int).toNat) o4 G7 _ (s1.trans (s4.trans (s6.trans s7))) ⟨rfl, ⟨ob, hob, h7⟩, row_of (k := 10) pm' (by decide)⟩ (B4.same (s6.trans s7)) S7
    · exact ⟨G, M, b, o1, 5, rfl, S1, B1, by decide, by decide, fun r ns o2 G2 H2 s2 h2 ro B2 S2 => q _ (r, ns) o2 G2 H2 s2 ⟨rfl, h2, ro⟩ B2 S2⟩

end
end K25
set_option Elab.async false
set_option linter.all false
set_option maxRecDepth 100000
set_option maxHeartbeats 4000000
namespace K25
open PySem PySem.Spec PyProof.Rows L2 XL
section
variable {P : Program} {w : World} {K : PySem.W.Frag} {mg : Str → Option Value} {base : Heap}
/-! ### bad rows -/
theorem digA_all : ∀ (l : List PyData) (seen : List Int), digA l seen = true → ∀ d ∈ l, ∃ n, d = .int n ∧ 0 ≤ n ∧ n ≤ 9
  | [], _, _, _, hd => nomatch hd
  | .int n :: r, seen, h, d, hd => by
    have h2 : (decide (0 ≤ n ∧ n ≤ 9 ∧ n ∉ seen) && digA r (seen ++ [n])) = true := h
    rw [Bool.and_eq_true, decide_eq_true_eq] at h2
    rcases List.mem_cons.mp hd with rfl | hd
    · exact ⟨n, rfl, h2.1.1, h2.1.2.1⟩
    · exact digA_all r _ h2.2 d hd
theorem digA_ints : ∀ (l : List Int) (seen : List Int), digA (l.map PyData.int) seen = true → l.Nodup ∧ ∀ n ∈ l, n ∉ seen
  | [], _, _ => ⟨List.nodup_nil, fun _ h => nomatch h⟩
  | n :: r, seen, h => by
    have h2 : (decide (0 ≤ n ∧ n ≤ 9 ∧ n ∉ seen) && digA (r.map PyData.int) (seen ++ [n])) = true := h
    rw [Bool.and_eq_true, decide_eq_true_eq] at h2
    obtain ⟨a, b⟩ := digA_ints r _ h2.2
    refine ⟨List.nodup_cons.mpr ⟨fun hm => b n hm (by simp), a⟩, fun m hm => ?_⟩
    rcases List.mem_cons.mp hm with rfl | hm
    · exact h2.1.2.2
    · exact fun z => b m hm (List.mem_append_left _ z)
theorem dpa_ints {K : PySem.W.Frag} {G : Hp} : ∀ l : List Int, DpAll K G (l.map V.int) (l.map PyData.int)
  | [] => .nil
  | n :: r => .cons (.int n) (dpa_ints r)
/-- x put in at i -/
def put {α : Type} (l : List α) (i : Nat) (x : α) : List α := l.take i ++ [x] ++ l.drop i
theorem put_len {α : Type} (l : List α) (i : Nat) (x : α) : (put l i x).length = l.length + 1 := by
  unfold put
  simp only [List.length_append, List.length_take, List.length_drop, List.length_cons, List.length_nil]
  omega
theorem put_perm {α : Type} (l : List α) (i : Nat) (x : α) : (put l i x).Perm (x :: l) := by
  unfold put
  rw [List.append_assoc]
  have h : (l.take i ++ x :: l.drop i).Perm (x :: (l.take i ++ l.drop i)) := List.perm_middle
  rw [List.take_append_drop] at h
  exact h
theorem put_map {α β : Type} (f : α → β) (l : List α) (i : Nat) (x : α) : (put l i x).map f = put (l.map f) i (f x) := by
  unfold put
  simp only [List.map_append, List.map_take, List.map_drop, List.map_cons, List.map_nil]
theorem dpa_put {K : PySem.W.Frag} {G : Hp} {xs : List V} {ds : List PyData} {x : V} {d : PyData} (i : Nat) (h : DpAll K G xs ds) (hx : Dp K G x d) : DpAll K G (put xs i x) (put ds i d) :=
  dpa_app (dpa_app (dpa_take i h) (dpa_one hx)) (dpa_drop i h)
/-- twice the same item -/
theorem dup_bad {l : List Int} {i : Nat} {x : Int} (h : x ∈ l) : rowOk (.tuple ((put l i x).map PyData.int)) = false := by
  cases e : rowOk (.tuple ((put l i x).map PyData.int)) with
  | false => rfl
  | true =>
    have e2 : (decide (((put l i x).map PyData.int).length ≤ 5) && digA ((put l i x).map PyData.int) []) = true := e
    rw [Bool.and_eq_true] at e2
    obtain ⟨nd, _⟩ := digA_ints _ _ e2.2
    exact absurd h (List.nodup_cons.mp ((put_perm l i x).nodup_iff.mp nd)).1
/-- an odd item -/
theorem odd_bad {ds : List PyData} {d : PyData} (h : d ∈ ds) (hd : ∀ n, d = .int n → ¬ (0 ≤ n ∧ n ≤ 9)) : rowOk (.tuple ds) = false := by
  cases e : rowOk (.tuple ds) with
  | false => rfl
  | true =>
    have e2 : (decide (ds.length ≤ 5) && digA ds []) = true := e
    rw [Bool.and_eq_true] at e2
    obtain ⟨n, h1, h2, h3⟩ := digA_all _ _ e2.2 d h
    exact absurd ⟨h2, h3⟩ (hd n h1)
theorem long_bad {ds : List PyData} (h : 5 < ds.length) : rowOk (.tuple ds) = false := by
  show (decide (ds.length ≤ 5) && digA ds []) = false
  rw [decide_eq_false (by omega), Bool.false_and]
/-- few small parts -/
theorem fk_few {ds : List PyData} (h : ∀ d ∈ ds, Fk 19 1 d) (l : ds.length ≤ 12) : Fk 4000 60 (.tuple ds) := by
  have h3 := weightAll_le (n := 19) (xs := ds) fun e he => (h e he).ft.wt
  have h4 : ds.length * (19 + 1) ≤ 12 * (19 + 1) := Nat.mul_le_mul_right _ l
  exact (Fk.tup (w := 4000) (dp := 1) (by omega) fun d hd => ⟨_, h d hd⟩).mono (Nat.le_refl _) (by decide)
theorem fk_ints {l : List Int} (h : ∀ n ∈ l, 0 ≤ n ∧ n ≤ 9) : ∀ d ∈ l.map PyData.int, Fk 19 1 d := fun d hd => by
  obtain ⟨n, hn, rfl⟩ := List.mem_map.mp hd
  exact (Fk.digit (h n hn).1 (h n hn).2).mono (by decide) (by decide)
theorem fk_lst {l : List Int} (h : ∀ n ∈ l, 0 ≤ n ∧ n ≤ 9) (ll : l.length ≤ 12) : Fk 4000 60 (.list (l.map PyData.int)) := by
  have h3 := weightAll_le (n := 19) (xs := l.map PyData.int) fun e he => (fk_ints h e he).ft.wt
  rw [List.length_map] at h3
  have h4 : l.length * (19 + 1) ≤ 12 * (19 + 1) := Nat.mul_le_mul_right _ ll
  refine ⟨(Fit.lst (w := 4000) (dp := 1) (by omega) fun e he => ⟨_, (fk_ints h e he).ft⟩).mono (Nat.le_refl _) (by decide), ?_⟩
  simp only [okR]
  rw [List.all_eq_true]
  intro d hd
  obtain ⟨n, _, rfl⟩ := List.mem_map.mp hd
  rfl
theorem fk_small {d : PyData} (h1 : d.canLay0 = true) (h2 : d.showable = true) (h3 : d.leavesShort 8 = true) (h4 : d.depth ≤ 1) (h5 : d.weight ≤ 19) (h6 : okR d = true) : Fk 19 1 d := ⟨⟨h1, h2, h3, h4, h5⟩, h6⟩
/-- the odd items of a row -/
def oddI : List PyData := [.int 10, .int (-1), .bool true, .bool false, .none, .str "3", .tuple [.int 3], .int 100]
theorem oddI_ok : ∀ d ∈ oddI, Fk 19 1 d ∧ ∀ n, d = .int n → ¬ (0 ≤ n ∧ n ≤ 9) := by
  intro d hd
  simp only [oddI, List.mem_cons, List.not_mem_nil, or_false] at hd
  rcases hd with rfl | rfl | rfl | rfl | rfl | rfl | rfl | rfl
  · exact ⟨fk_small (by decide +kernel) (by decide +kernel) (by decide +kernel) (by decide +kernel) (by decide +kernel) (by decide +kernel), fun n h => by cases h; decide⟩
  · exact ⟨fk_small (by decide +kernel) (by decide +kernel) (by decide +kernel) (by decide +kernel) (by decide +kernel) (by decide +kernel), fun n h => by cases h; decide⟩
  · exact ⟨fk_small (by decide +kernel) (by decide +kernel) (by decide +kernel) (by decide +kernel) (by decide +kernel) (by decide +kernel), fun n h => nomatch h⟩
  · exact ⟨fk_small (by decide +kernel) (by decide +kernel) (by decide +kernel) (by decide +kernel) (by decide +kernel) (by decide +kernel), fun n h => nomatch h⟩
  · exact ⟨fk_small (by decide +kernel) (by decide +kernel) (by decide +kernel) (by decide +kernel) (by decide +kernel) (by decide +kernel), fun n h => nomatch h⟩
  · exact ⟨fk_small (by decide +kernel) (by decide +kernel) (by decide +kernel) (by decide +kernel) (by decide +kernel) (by decide +kernel), fun n h => nomatch h⟩
  · exact ⟨fk_small (by decide +kernel) (by decide +kernel) (by decide +kernel) (by decide +kernel) (by decide +kernel) (by decide +kernel), fun n h => nomatch h⟩
  · exact ⟨fk_small (by decide +kernel) (by decide +kernel) (by decide +kernel) (by decide +kernel) (by decide +kernel) (by decide +kernel), fun n h => by cases h; decide⟩
theorem nonrow_ok : ∀ d ∈ ([.none, .int 5, .str "12", .bool true] : List PyData), Fk 4000 60 d ∧ rowOk d = false := by
  intro d hd
  simp only [List.mem_cons, List.not_mem_nil, or_false] at hd
  rcases hd with rfl | rfl | rfl | rfl
  · exact ⟨(fk_small (by decide +kernel) (by decide +kernel) (by decide +kernel) (by decide +kernel) (by decide +kernel) (by decide +kernel)).mono (by decide) (by decide), rfl⟩
  · exact ⟨(fk_small (by decide +kernel) (by decide +kernel) (by decide +kernel) (by decide +kernel) (by decide +kernel) (by decide +kernel)).mono (by decide) (by decide), rfl⟩
  · exact ⟨(fk_small (by decide +kernel) (by decide +kernel) (by decide +kernel) (by decide +kernel) (by decide +kernel) (by decide +kernel)).mono (by decide) (by decide), rfl⟩
  · exact ⟨(fk_small (by decide +kernel) (by decide +kernel) (by decide +kernel) (by decide +kernel) (by decide +kernel) (by decide +kernel)).mono (by decide) (by decide), rfl⟩
def spBadRow (K : PySem.W.Frag) : Sp := fun vs H Q _ => ∃ (G : Hp) (M : List (Addr × HO)) (b : Addr) (o : HO) (r : Addr) (ns : List Int), vs = [.ref b, .ref r] ∧ Sep G ((b, o) :: M) H ∧ Bag G o ∧ TupF G r (ns.map V.int) ∧ RowOk ns ∧
  ∀ (v : V) (d : PyData) (o' : HO) (G' H' : Hp), Same G G' → Dp K G' v d → Fk 4000 60 d → rowOk d = false → Bag G' o' → Sep G' ((b, o') :: M) H' → Q v H'
theorem ok_bad_row (T : Top K mg w) {k : Nat} (G_pick : FnOk P w K mg base CX0 k T.a_pick T.d_pick ["_law_bag_here", "_law_many"] spPick) (G_mingled : FnOk P w K mg base CX0 k T.a_mingled T.d_mingled ["_law_bag_here", "_law_things"] (spMingled K)) (G_choice : FnOk P w K mg base CX0 k T.a_choice T.d_choice ["_law_bag_here", "_law_things"] (spChoice K)) :
    FnOk P w K mg base CX0 (k + 1) T.a_bad_row T.d_bad_row ["_law_bag_here", "_law_row_here"] (spBadRow K) := by
  refine T.F_bad_row.ok sc_bad_row (fun vs H Q E h => ?_) (fun cdv A outer s H vs Q E hr h => ?_)
  · obtain ⟨G, M, b, o, r, ns, rfl, _⟩ := h
    rfl
  · obtain ⟨G, M, b, o, r, ns, rfl, S, B, hrow, ro, q⟩ := h
    refine ⟨_, (pss_cons (ps_set (i := 2) sc_bad_row.nd rfl (.inl rfl) (pe_call G_pick (hr.mono (by omega)) (by rfl) T.g_pick T.F_pick.kp T.b_pick .nil pass0 (pa_cons (xv 0) (pa_cons pe_int pa_nil))))
      (pss_cons (ps_set (i := 3) sc_bad_row.nd rfl (.inl rfl) (pe_callTy (call_listK K) (by rfl) T.m_list (by decide +kernel) (pa_cons (pe_slice (sl_tupAK K) (xv 1) po_none (po_some pe_int)) pa_nil)))
      (pss_cons (xs_if (xt_cmp (op_eqLK K hr.u190) (xv 2) pe_int (nomark _))
      (pss_one (ps_ret (pe_callTy (call_listK K) (by rfl) T.m_list (by decide +kernel) (pa_cons (xv 1) pa_nil))))
      pss_nil)
      (pss_cons (xs_if (xt_cmp (op_eqLK K hr.u190) (xv 2) pe_int (nomark _))
      (pss_one (ps_ret (pe_callTy (call_tupleK K) (by rfl) T.m_tuple (by decide +kernel) (pa_cons (pe_slice (sl_listK K) (pe_call G_mingled (hr.mono (by omega)) (by rfl) T.g_mingled T.F_mingled.kp T.b_mingled .nil pass0 (pa_cons (xv 0) (pa_cons (pe_lst (pa_cons pe_int (pa_cons pe_int (pa_cons pe_int (pa_cons pe_int (pa_cons pe_int (pa_cons pe_int (pa_cons pe_int (pa_cons pe_int (pa_cons pe_int (pa_cons pe_int pa_nil))))))))))) pa_nil))) po_none (po_some (pe_op op_addY pe_int (pe_call G_pick (hr.mono (by omega)) (by rfl) T.g_pick T.F_pick.kp T.b_pick .nil pass0 (pa_cons (xv 0) (pa_cons pe_int pa_nil)))))) pa_nil))))
      pss_nil)
      (pss_cons (xs_if (xt_cmp (op_eqLK K hr.u190) (xv 2) pe_int (nomark _))
      (pss_one (ps_ret (pe_call G_choice (hr.mono (by omega)) (by rfl) T.g_choice T.F_choice.kp T.b_choice .nil pass0 (pa_cons (xv 0) (pa_cons (pe_lst (pa_cons pe_non (pa_cons pe_int (pa_cons pe_str (pa_cons pe_bl pa_nil))))) pa_nil)))))
      pss_nil)
      (pss_cons (xs_if (PW.pt (xw_and (xt_cmp (op_eqLK K hr.u190) (xv 2) pe_int (nomark _)) (pw_and1 (xt_truK K (xv 3)))))
      (pss_cons (ps_expr (pe_bmK K PySem.F.plainAttrs_list PySem.F.slot_list_insert PySem.F.type_list_insert mt_insert (xv 3) (pa_cons (pe_call G_pick (hr.mono (by omega)) (by rfl) T.g_pick T.F_pick.kp T.b_pick .nil pass0 (pa_cons (xv 0) (pa_cons (pe_op op_addY (pe_callB (cr_lenK K) (by rfl) T.m_len (by decide +kernel) (pa_cons (xv 3) pa_nil)) pe_int) pa_nil))) (pa_cons (pe_ix (ix_k K) (xv 3) (pe_call G_pick (hr.mono (by omega)) (by rfl) T.g_pick T.F_pick.kp T.b_pick .nil pass0 (pa_cons (xv 0) (pa_cons (pe_callB (cr_lenK K) (by rfl) T.m_len (by decide +kernel) (pa_cons (xv 3) pa_nil)) pa_nil))) (fun _ _ => rfl)) pa_nil))))
      (pss_one (ps_ret (pe_callTy (call_tupleK K) (by rfl) T.m_tuple (by decide +kernel) (pa_cons (xv 3) pa_nil)))))
      pss_nil)
      (pss_cons (ps_set (i := 4) sc_bad_row.nd rfl (.inl rfl) (pe_call G_choice (hr.mono (by omega)) (by rfl) T.g_choice T.F_choice.kp T.b_choice .nil pass0 (pa_cons (xv 0) (pa_cons (pe_lst (pa_cons pe_int (pa_cons (pe_un un_neg pe_int) (pa_cons pe_bl (pa_cons pe_bl (pa_cons pe_non (pa_cons pe_str (pa_cons (pe_tup (pa_cons pe_int pa_nil)) (pa_cons pe_int pa_nil))))))))) pa_nil))))
      (pss_cons (ps_expr (pe_bmK K PySem.F.plainAttrs_list PySem.F.slot_list_insert PySem.F.type_list_insert mt_insert (xv 3) (pa_cons (pe_call G_pick (hr.mono (by omega)) (by rfl) T.g_pick T.F_pick.kp T.b_pick .nil pass0 (pa_cons (xv 0) (pa_cons (pe_op op_addY (pe_callB (cr_lenK K) (by rfl) T.m_len (by decide +kernel) (pa_cons (xv 3) pa_nil)) pe_int) pa_nil))) (pa_cons (xv 4) pa_nil))))
      (pss_one (ps_ret (pe_callTy (call_tupleK K) (by rfl) T.m_tuple (by decide +kernel) (pa_cons (xv 3) pa_nil)))))))))))), ?_⟩
    refine ⟨G, M, b, o, 6, rfl, S, B, by decide, by decide, fun way o1 H1 w0 w1 B1 S1 => ?_⟩
    unfold tNoPart
    refine ⟨_, rfl, cutA_ok S1 (tu_of hrow) fun c1 G2 H2 s2 hc1 S2 => ?_⟩
    rw [cut_to _ (by decide), ← List.map_take] at hc1
    refine ⟨c1, _, rfl, .inr (S2.t hc1), fun L nL => ?_⟩
    have S3 := S2.new (o := .lst ((ns.take (4 : Int).toNat).map V.int)) nL
    have B3 := B1.same s2
    have tl : (ns.take (4 : Int).toNat).length ≤ 4 := by
      rw [List.length_take]
      exact Nat.min_le_left _ _
    have nb : ∀ n ∈ ns.take (4 : Int).toNat, 0 ≤ n ∧ n ≤ 9 := fun n hn => ro.lo n (List.mem_of_mem_take hn)
    generalize ns.take (4 : Int).toNat = t at *
    refine ⟨fun _ => ?_, fun _ => ⟨fun _ => ?_, fun _ => ⟨fun _ => ?_, fun _ => ?_⟩⟩⟩
    · -- a list
      refine ⟨r, _, rfl, .inr (S3.t (tu_of (hrow.same s2))), fun L2 nL2 => ?_⟩
      obtain ⟨G4, s4, S4, h4⟩ := Sep.mk (o := .lst (ns.map V.int)) S3 nL2
      exact q _ (.list (ns.map PyData.int)) o1 G4 _ (s2.trans s4) (.lst (SqL.of h4) (dpa_ints ns)) (fk_lst ro.lo (by have := ro.len; omega)) rfl (B3.same s4) S4.drop
    · -- too long
      refine ⟨sz, fun l0 nl0 => ?_⟩
      obtain ⟨G4, s4, S4, h4⟩ := Sep.mk (o := .lst (dig.map V.int)) S3 nl0
      refine ⟨G4, _, b, o1, l0, _, rfl, S4.sw, B3.same s4, SqL.of h4, by decide, fun a ys o5 G5 H5 s5 h5 pm B5 S5 => ?_⟩
      obtain ⟨ms, rfl, pm'⟩ := perm_ints pm
      refine ⟨G5, _, b, o5, 5, rfl, S5, B5, by decide, by decide, fun r6 o6 H6 r60 r61 B6 S6 => ?_⟩
      refine ⟨_, rfl, a, _, rfl, SqL.of (S6.st h5), fun p2 np2 => ?_⟩
      rw [cut_to _ (by omega), ← List.map_take]
      obtain ⟨G7, s7, S7, h7⟩ := Sep.mk (o := .lst ((ms.take (6 + r6).toNat).map V.int)) S6 np2
      refine ⟨p2, _, rfl, .inl ⟨SqL.of (S7.st h7), fun u nu => ?_⟩⟩
      obtain ⟨G8, s8, S8, h8⟩ := Sep.mk (o := .tup ((ms.take (6 + r6).toNat).map V.int)) S7 nu
      have ml : ms.length = 10 := pm'.length_eq
      have tl2 : (ms.take (6 + r6).toNat).length = (6 + r6).toNat := by rw [List.length_take]; omega
      have mb : ∀ n ∈ ms.take (6 + r6).toNat, 0 ≤ n ∧ n ≤ 9 := fun n hn => by
        have z : n ∈ dig := pm'.mem_iff.mp (List.mem_of_mem_take hn)
        have e : ∀ n ∈ dig, 0 ≤ n ∧ n ≤ 9 := by decide
        exact e n z
      exact q _ (.tuple ((ms.take (6 + r6).toNat).map PyData.int)) o6 G8 _ (s2.trans (s4.trans (s5.trans (s7.trans s8)))) (.tup (SqT.of h8) (dpa_ints _)) (fk_few (fk_ints mb) (by rw [List.length_map]; omega)) (long_bad (by rw [List.length_map]; omega)) (B6.same (s7.trans s8)) S8.sw.drop
    · -- no row at all
      refine ⟨sz, fun l0 nl0 => ?_⟩
      obtain ⟨G4, s4, S4, h4⟩ := Sep.mk (o := .lst [.non, .int 5, .str "12", .bl true]) S3 nl0
      refine ⟨G4, _, b, o1, l0, _, rfl, S4.sw, B3.same s4, SqL.of h4, by decide, by decide, fun v o5 H5 hv B5 S5 => ?_⟩
      have hd : DpAll K G4 [.non, .int 5, .str "12", .bl true] [.none, .int 5, .str "12", .bool true] := .cons .non (.cons (.int _) (.cons (.str _) (.cons (.bl _) .nil)))
      obtain ⟨i, hi⟩ := List.mem_iff_getElem?.mp hv
      obtain ⟨d, hdi, hdd⟩ := dpa_get hd hi
      obtain ⟨f1, f2⟩ := nonrow_ok d (List.mem_of_getElem? hdi)
      exact q _ d o5 G4 _ (s2.trans s4) hdd f1 f2 B5 S5.sw.drop
    -- what stands in the list, told as a row
    have told : ∀ (ys : List V) (ds : List PyData) (o2 : HO) (G4 H4 : Hp), Same G2 G4 → Sep G4 ((L, .lst ys) :: (b, o2) :: M) H4 → Bag G4 o2 → DpAll K G4 ys ds → Fk 4000 60 (.tuple ds) → rowOk (.tuple ds) = false →
        yTup K [.ref L] H4 fun x H5 => Q x H5 := fun ys ds o2 G4 H4 s4 S4 B4 hd fk bad => by
      refine ⟨L, _, rfl, .inl ⟨SqL.of S4.hd, fun u nu => ?_⟩⟩
      obtain ⟨G5, s5, S5, h5⟩ := Sep.mk (o := .tup ys) S4 nu
      exact q _ (.tuple ds) o2 G5 _ (s2.trans (s4.trans s5)) (.tup (SqT.of h5) (dpa_same s5 hd)) fk bad (B4.same s5) S5.drop
    refine ⟨fun _ => ⟨!(t.map V.int).isEmpty, .inl ⟨_, SqL.of S3.hd, rfl⟩, fun e => ?_, fun _ => ?f1⟩, fun _ => ⟨ff, fun _ => ?f2⟩⟩
    · -- an item twice
      have t0 : 0 < t.length := by
        cases t with
        | nil => exact nomatch e
        | cons x r => simp
      refine ⟨.inl ⟨rfl, _, SqL.of S3.hd⟩, _, .inl (SqL.of S3.hd), G2, _, b, o1, _, rfl, S3.sw, B3, by rw [List.length_map]; omega, by rw [List.length_map]; omega, fun i o4 H4 i0 i1 B4 S4 => ?_⟩
      refine ⟨_, .inl (SqL.of S4.sw.hd), G2, _, b, o4, _, rfl, S4, B4, by rw [List.length_map]; omega, by rw [List.length_map]; omega, fun j o5 H5 j0 j1 B5 S5 => ?_⟩
      rw [List.length_map] at i1 j1
      obtain ⟨j, rfl⟩ : ∃ n : Nat, j = (n : Int) := ⟨j.toNat, by omega⟩
      have jl : j < t.length := by omega
      refine ⟨_, _, .inl (SqL.of S5.sw.hd), atI_nat (show (t.map V.int)[j]? = some (V.int t[j]) by rw [List.getElem?_map, List.getElem?_eq_getElem jl]; rfl), ?_⟩
      refine ⟨L, _, i, _, rfl, rfl, S5.sw.hd, by rw [List.length_map]; exact smallL (by omega), i0, by omega, ?_⟩
      have S6 : Sep G2 ((L, .lst (put (t.map V.int) i.toNat (.int t[j]))) :: (b, o5) :: M) _ := S5.sw.set
      refine told _ ((put t i.toNat t[j]).map PyData.int) o5 G2 _ (Same.refl _) S6 B5 ?_ (fk_few (fk_ints fun n hn => ?_) ?_) (dup_bad (List.getElem_mem jl))
      · rw [put_map]
        exact dpa_put _ (dpa_ints t) (.int _)
      · rcases List.mem_cons.mp ((put_perm t _ _).mem_iff.mp hn) with rfl | h
        · exact nb _ (List.getElem_mem jl)
        · exact nb n h
      · rw [List.length_map, put_len]
        omega
    case f1 | f2 =>
      refine ⟨_, rfl, sz, fun t9 nt9 => ?_⟩
      obtain ⟨G4, s4, S4, h4⟩ := Sep.mk (o := .tup [.int 3]) S3 nt9
      refine ⟨sz, fun l0 nl0 => ?_⟩
      obtain ⟨G5, s5, S5, h5⟩ := Sep.mk (o := .lst [.int 10, .int (-1), .bl true, .bl false, .non, .str "3", .ref t9, .int 100]) S4 nl0
      refine ⟨G5, _, b, o1, l0, _, rfl, S5.sw, B3.same (s4.trans s5), SqL.of h5, (by simp), (by simp), fun v o6 H6 hv B6 S6 => ?_⟩
      have hd : DpAll K G5 [.int 10, .int (-1), .bl true, .bl false, .non, .str "3", .ref t9, .int 100] oddI := .cons (.int _) (.cons (.int _) (.cons (.bl _) (.cons (.bl _) (.cons .non (.cons (.str _) (.cons (.tup (SqT.of (s5 _ _ h4)) (.cons (.int _) .nil)) (.cons (.int _) .nil)))))))
      obtain ⟨x, hx⟩ := List.mem_iff_getElem?.mp hv
      obtain ⟨d, hdx, hdd⟩ := dpa_get hd hx
      obtain ⟨f1, f2⟩ := oddI_ok d (List.mem_of_getElem? hdx)
      refine ⟨.inl ⟨rfl, _, SqL.of S6.sw.hd⟩, _, .inl (SqL.of S6.sw.hd), G5, _, b, o6, _, rfl, S6, B6, by rw [List.length_map]; omega, by rw [List.length_map]; omega, fun i o7 H7 i0 i1 B7 S7 => ?_⟩
      rw [List.length_map] at i1
      refine ⟨L, _, i, _, rfl, rfl, S7.sw.hd, by rw [List.length_map]; exact smallL (by omega), i0, by omega, ?_⟩
      have S8 : Sep G5 ((L, .lst (put (t.map V.int) i.toNat v)) :: (b, o7) :: M) _ := S7.sw.set
      refine told _ (put (t.map PyData.int) i.toNat d) o7 G5 _ (s4.trans s5) S8 B7 (dpa_put _ (dpa_ints t) hdd) (fk_few (fun e he => ?_) ?_) (odd_bad ((put_perm _ _ _).mem_iff.mpr List.mem_cons_self) f2)
      · rcases List.mem_cons.mp ((put_perm _ _ _).mem_iff.mp he) with rfl | h
        · exact f1
        · exact fk_ints nb e h
      · rw [put_len, List.length_map]
        omega

end
end K25
set_option Elab.async false
set_option linter.all false
set_option maxRecDepth 100000
set_option maxHeartbeats 4000000
namespace K25
open PySem PySem.Spec PyProof.Rows L2 XL
section
variable {P : Program} {w : World} {K : PySem.W.Frag} {mg : Str → Option Value} {base : Heap}
/-! ### the law -/
theorem pair_low {x y : Str} (h1 : lowS x) (h2 : lowS y) : (PyData.tuple [.str x, .str y]).canLay0 = true ∧ (PyData.tuple [.str x, .str y]).depth ≤ 190 := by
  refine ⟨?_, ?_⟩
  · simp only [PyData.canLay0]
    exact layAll fun d hd => by
      simp only [List.mem_cons, List.not_mem_nil, or_false] at hd
      rcases hd with rfl | rfl
      · exact low_ok h1
      · exact low_ok h2
  · simp only [PyData.depth, PyData.depthAll]
    omega
theorem count_at {r1 r2 : Int} (h1 : 0 ≤ r1) (k1 : r1 < 4) (h2 : 0 ≤ r2) (k2 : r2 < 4) : ∀ j : Nat, j < 6 → ∃ c : Nat, atI [V.int 1, .int 2, .int 2, .int 2, .int (1 + r1), .int (1 + r2)] ((j : Nat) : Int) = some (.int (c : Nat)) ∧ 1 ≤ c ∧ c ≤ 4 ∧ (((j : Nat) : Int) = 0 → c = 1) ∧ (((j : Nat) : Int) = 1 ∨ ((j : Nat) : Int) = 2 ∨ ((j : Nat) : Int) = 3 → c = 2)
  | 0, _ => ⟨1, atI_nat (j := 0) rfl, by decide, by decide, fun _ => rfl, fun h => by omega⟩
  | 1, _ => ⟨2, atI_nat (j := 1) rfl, by decide, by decide, fun h => by omega, fun _ => rfl⟩
  | 2, _ => ⟨2, atI_nat (j := 2) rfl, by decide, by decide, fun h => by omega, fun _ => rfl⟩
  | 3, _ => ⟨2, atI_nat (j := 3) rfl, by decide, by decide, fun h => by omega, fun _ => rfl⟩
  | 4, _ => ⟨(1 + r1).toNat, by rw [show (((1 + r1).toNat : Nat) : Int) = 1 + r1 by omega]; exact atI_nat (j := 4) rfl, by omega, by omega, fun h => by omega, fun h => by omega⟩
  | 5, _ => ⟨(1 + r2).toNat, by rw [show (((1 + r2).toNat : Nat) : Int) = 1 + r2 by omega]; exact atI_nat (j := 5) rfl, by omega, by omega, fun h => by omega, fun h => by omega⟩
  | j + 6, h => by omega
theorem ixN_at {n j : Nat} (hj : j < n) : ixN n (j : Int) = some j := by
  unfold ixN
  rw [if_pos (by omega), if_pos (by omega), Int.toNat_natCast]
def spLaw (K : PySem.W.Frag) : Sp := fun vs H Q _ => ∃ (a : Addr) (ns : List Int), vs = [.ref a] ∧ SqL K H a (ns.map V.int) ∧ ns.length ≤ 63 ∧ ∀ H', Q (.bl true) H'
theorem ok_law (T : Top K mg w) {k : Nat} (G_bag : FnOk P w K mg base CX0 k T.a_bag T.d_bag ["_law_script"] (spBag K)) (G_pick : FnOk P w K mg base CX0 k T.a_pick T.d_pick ["_law_bag_here", "_law_many"] spPick)
    (G_forms_refused : FnG P w K mg base CX0 k T.a_forms_refused T.d_forms_refused ["_law_bag_here"] (spForms K)) (G_any_key : FnOk P w K mg base CX0 k T.a_any_key T.d_any_key ["_law_bag_here"] spAnyKey)
    (G_Key_init : FnOk P w K mg base (L2.CX P w) k T.a_Key_init T.d_Key_init ["self", "form"] (spKInit T.C_Key)) (G_some_row : FnOk P w K mg base CX0 k T.a_some_row T.d_some_row ["_law_bag_here"] spSomeRow)
    (G_bad_row : FnOk P w K mg base CX0 k T.a_bad_row T.d_bad_row ["_law_bag_here", "_law_row_here"] (spBadRow K)) (G_row_told : FnG P w K mg base CX0 k T.a_row_told T.d_row_told ["_law_which", "_law_key", "_law_many", "_law_rows"] (spRowTold K T.C_Key)) :
    FnG P w K mg base CX0 (k + 2) T.a_law T.d_law ["_law_script"] (spLaw K) := by
  refine okG T.F_law sc_law (fun vs H Q E h => ?_) (fun cdv A outer s H vs Q E hr hg h => ?_)
  · obtain ⟨a, ns, rfl, _⟩ := h
    rfl
  · obtain ⟨a, nn, rfl, ha, hl, q⟩ := h
    refine ⟨_, (pss_cons (ps_set (i := 1) sc_law.nd rfl (.inr rfl) (pe_call G_bag (hr.mono (by omega)) (by rfl) T.g_bag T.F_bag.kp T.b_bag .nil pass0 (pa_cons (xv 0) pa_nil)))
      (pss_cons (xs_if (pt_not (xt_truK K (pe_callG G_forms_refused (hr.mono (by omega)) hg (by rfl) T.g_forms_refused T.F_forms_refused.kp T.b_forms_refused pass0 (pa_cons (xv 1) pa_nil))))
      (pss_one (ps_ret pe_bl))
      pss_nil)
      (pss_cons (ps_set (i := 2) sc_law.nd rfl (.inl rfl) (pe_make T.mk_Key G_Key_init (hr.mono (by omega)) (by rfl) T.g_Key T.b_Key_init .nil passL (pa_cons (pe_call G_any_key (hr.mono (by omega)) (by rfl) T.g_any_key T.F_any_key.kp T.b_any_key .nil pass0 (pa_cons (xv 1) pa_nil)) pa_nil)))
      (pss_cons (ps_set (i := 3) sc_law.nd rfl (.inl rfl) (pe_call G_pick (hr.mono (by omega)) (by rfl) T.g_pick T.F_pick.kp T.b_pick .nil pass0 (pa_cons (xv 1) (pa_cons pe_int pa_nil))))
      (pss_cons (ps_for PassesOwn.never rfl (pi_range1 (by rfl) T.m_range (pa_cons pe_int pa_nil)) (pg_name (i := 4) sc_law.nd rfl (.inl rfl))
      (pss_cons (ps_set (i := 5) sc_law.nd rfl (.inl rfl) (pe_ix (ix_k K) (pe_lst (pa_cons pe_int (pa_cons pe_int (pa_cons pe_int (pa_cons pe_int (pa_cons (pe_op op_addY pe_int (pe_call G_pick (hr.mono (by omega)) (by rfl) T.g_pick T.F_pick.kp T.b_pick .nil pass0 (pa_cons (xv 1) (pa_cons pe_int pa_nil)))) (pa_cons (pe_op op_addY pe_int (pe_call G_pick (hr.mono (by omega)) (by rfl) T.g_pick T.F_pick.kp T.b_pick .nil pass0 (pa_cons (xv 1) (pa_cons pe_int pa_nil)))) pa_nil))))))) (xv 4) (fun _ _ => rfl)))
      (pss_cons (ps_setLc (i := 6) (own := [("_law_step", 9)]) (by rfl) sc_law.nd rfl rfl (sw_true rfl rfl rfl (by decide +kernel)) (pi_range1 (by rfl) T.m_range (pa_cons (xv 5) pa_nil)) (blkOk_by (N := ["_law_script", "_law_bag_here", "_law_key", "_law_many", "_law_which", "_law_count", "_law_rows", "_law_bad", "_law_at", "_law_step"]) (sc := defScope s_law) (by decide +kernel)) (fun _ _ _ _ _ => (pg_name (i := 9) sc_law.nd rfl (.inl rfl))) (fun _ _ _ _ _ => pts_nil) (fun _ _ _ _ _ => (pe_call G_some_row (hr.mono (by omega)) (by rfl) T.g_some_row T.F_some_row.kp T.b_some_row .nil pass0 (pa_cons (xv 1) pa_nil))))
      (pss_cons (ps_set (i := 7) sc_law.nd rfl (.inl rfl) (pe_callTy (call_listK K) (by rfl) T.m_list (by decide +kernel) (pa_cons (xv 6) pa_nil)))
      (pss_cons (ps_set (i := 8) sc_law.nd rfl (.inl rfl) (pe_call G_pick (hr.mono (by omega)) (by rfl) T.g_pick T.F_pick.kp T.b_pick .nil pass0 (pa_cons (xv 1) (pa_cons (xv 5) pa_nil))))
      (pss_cons (ps_asg (pe_call G_bad_row (hr.mono (by omega)) (by rfl) T.g_bad_row T.F_bad_row.kp T.b_bad_row .nil pass0 (pa_cons (xv 1) (pa_cons (pe_ix (ix_k K) (xv 6) (xv 8) (fun _ _ => rfl)) pa_nil))) (pg_sub (xv 7) (xv 8) set_list))
      (xss_cut (xs_if (PW.pt (xw_and (xt_cmp op_ltY (pe_op op_addY (xv 8) pe_int) (xv 5) (nomark _)) (pw_and1 (xt_cmp (op_eqLK K hr.u190) (pe_call G_pick (hr.mono (by omega)) (by rfl) T.g_pick T.F_pick.kp T.b_pick .nil pass0 (pa_cons (xv 1) (pa_cons pe_int pa_nil))) pe_int (nomark _)))))
      (pss_one (ps_asg (pe_call G_bad_row (hr.mono (by omega)) (by rfl) T.g_bad_row T.F_bad_row.kp T.b_bad_row .nil pass0 (pa_cons (xv 1) (pa_cons (pe_ix (ix_k K) (xv 6) (pe_op op_subY (xv 5) pe_int) (fun _ _ => rfl)) pa_nil))) (pg_sub (xv 7) (pe_op op_subY (xv 5) pe_int) set_list)))
      pss_nil)
      (pss_cons (xs_if (xt_cmp (op_neLK K hr.u190) (pe_callG G_row_told (hr.mono (by omega)) hg (by rfl) T.g_row_told T.F_row_told.kp T.b_row_told pass0 (pa_cons (xv 4) (pa_cons (xv 2) (pa_cons (xv 3) (pa_cons (xv 6) pa_nil))))) (pe_tup (pa_cons pe_str (pa_cons pe_str pa_nil))) (nomark _))
      (pss_one (ps_ret pe_bl))
      pss_nil)
      (pss_cons (xs_if (xt_cmp (op_neLK K hr.u190) (pe_callG G_row_told (hr.mono (by omega)) hg (by rfl) T.g_row_told T.F_row_told.kp T.b_row_told pass0 (pa_cons (xv 4) (pa_cons (xv 2) (pa_cons (xv 3) (pa_cons (xv 7) pa_nil))))) (pe_tup (pa_cons pe_str (pa_cons (pe_callB (call_reprG K hg (by have z := u70 hr; exact z)) (by rfl) T.m_repr (by decide +kernel) (pa_cons (pe_ix (ix_k K) (xv 7) (xv 8) (fun _ _ => rfl)) pa_nil)) pa_nil))) (nomark _))
      (pss_one (ps_ret pe_bl))
      pss_nil)
      (pss_one (xs_if (xt_cmp (op_neLK K hr.u190) (pe_callG G_row_told (hr.mono (by omega)) hg (by rfl) T.g_row_told T.F_row_told.kp T.b_row_told pass0 (pa_cons (xv 4) (pa_cons (xv 2) (pa_cons (xv 3) (pa_cons (xv 6) pa_nil))))) (pe_tup (pa_cons pe_str (pa_cons pe_str pa_nil))) (nomark _))
      (pss_one (ps_ret pe_bl))
      pss_nil)))))))))))
      (pss_one (ps_ret pe_bl))))))), ?_⟩
    refine ⟨H, [], a, nn, rfl, sep0, ha, hl, fun b o1 G1 H1 _ B1 S1 => ?_⟩
    refine ⟨G1, [], b, o1, rfl, S1, B1, fun o2 G2 H2 s2 B2 S2 => ⟨ff, fun _ => ?_⟩⟩
    -- the key
    refine ⟨G2, [], b, o2, rfl, S2, B2, fun fv f o3 G3 H3 s3 hf fo fd B3 S3 => fun y dy ny ndy ne => ?_⟩
    refine ⟨G3, _, y, dy, fv, f, rfl, S3.new2 ny ndy ne, hf, fo, fd, fun G4 H4 s4 S4 => ⟨rfl, ?_⟩⟩
    have S5 := S4.frz.drop
    have s5 := S4.frzS
    have hk : KeyAt T.C_Key (upd G4 y (.ins T.C_Key dy [("form", fv)])) (.ref y) f := ⟨y, dy, fv, rfl, upd_same, hf.same' (s4.trans s5), fo, fd⟩
    have B5 := B3.same (s4.trans s5)
    generalize upd G4 y (.ins T.C_Key dy [("form", fv)]) = G5 at *
    refine ⟨G5, [], b, o3, 3, rfl, S5, B5, by decide, by decide, fun many o6 H6 m0 m2 B6 S6 => ?_⟩
    -- the six calls
    refine ⟨6, rfl, by decide, by decide, for_range (lo := 0) (n := (6 : Int).toNat) (fun i σ H' => ∃ (y4 y5 y6 y7 y8 y9 : Option V) (G' : Hp) (o' : HO), σ = [some (.ref a), some (.ref b), some (.ref y), some (.int many), y4, y5, y6, y7, y8, y9] ∧ Same G5 G' ∧ Bag G' o' ∧ Sep G' [(b, o')] H')
      ⟨_, _, _, _, _, _, G5, o6, rfl, Same.refl _, B6, S6⟩ (fun i σ H' hi h => ?_) (fun σ H' h => q _)⟩
    obtain ⟨y4, y5, y6, y7, y8, y9, G7, o7, rfl, s7, B7, S7⟩ := h
    have i6 : i < 6 := hi
    refine ⟨G7, [], b, o7, 4, rfl, S7, B7, by decide, by decide, fun r1 o8 H8 r10 r11 B8 S8 => ?_⟩
    refine ⟨G7, [], b, o8, 4, rfl, S8, B8, by decide, by decide, fun r2 o9 H9 r20 r21 B9 S9 => ?_⟩
    refine ⟨sz, fun l0 nl0 => ?_⟩
    obtain ⟨G8, s8, S10, h0⟩ := Sep.mk (o := .lst [.int 1, .int 2, .int 2, .int 2, .int (1 + r1), .int (1 + r2)]) S9 nl0
    obtain ⟨c, hc, c1, c4, ca, cb⟩ := count_at r10 r11 r20 r21 i i6
    rw [Int.zero_add]
    refine ⟨_, _, .inl (SqL.of (S10.st h0)), hc, ?_⟩
    -- the rows
    refine ⟨_, rfl, by omega, by omega, fun D nD => lc_range (lo := 0) (n := ((c : Nat) : Int).toNat) (fun j H' => ∃ (us : List V) (xs : List (Addr × List Int)) (o' : HO) (G' : Hp), Same G8 G' ∧ us.length = j ∧ Paired (RowsAt G') us xs ∧ Bag G' o' ∧ Sep G' [(D, .lst us), (b, o')] H') ⟨[], [], o9, G8, Same.refl _, rfl, .nil, B9.same s8, S10.new nD⟩ (fun j H' hj p => ?_) (fun H' p => ?_)⟩
    · obtain ⟨us, xs, o', G', s', ul, pu, B', S'⟩ := p
      have jc : j < c := hj
      refine ⟨rfl, G', _, b, o', rfl, S'.sw, B', fun v x o2 G2 H2 s2 hx B2 S2 => ?_⟩
      exact ⟨us, S2.sw.hd, smallL (by omega), us ++ [v], xs ++ [x], o2, G2, s'.trans s2, by rw [List.length_append, ul]; rfl, prd_app (prd_imp (fun _ _ => RowsAt.same s2) pu) (.cons hx .nil), B2, S2.sw.set⟩
    obtain ⟨us, xs, o11, G11, s11, ul, pu, B11, S11⟩ := p
    have ul : us.length = c := ul
    have s12 := S11.frzS
    have S12 := S11.frz
    have B12 := B11.same s12
    have hD : (upd G11 D (.lst us)) D = some (.lst us) := upd_same
    have pu := prd_imp (fun _ _ => RowsAt.same s12) pu
    have s512 : Same G5 (upd G11 D (.lst us)) := s7.trans (s8.trans (s11.trans s12))
    generalize upd G11 D (.lst us) = G12 at *
    -- the same rows again
    refine ⟨D, _, rfl, .inl (SqL.of (S12.st hD)), fun L nL => ?_⟩
    have S13 := S12.new (o := .lst us) nL
    refine ⟨G12, _, b, o11, (c : Nat), rfl, S13.sw, B12, by omega, by omega, fun r o14 H14 r0 r1' B14 S14 => ?_⟩
    obtain ⟨r, rfl⟩ : ∃ n : Nat, r = (n : Int) := ⟨r.toNat, by omega⟩
    have rl : r < us.length := by omega
    obtain ⟨x, hx, hxr⟩ := prd_get pu (List.getElem?_eq_getElem rl)
    refine ⟨_, us[r], .inl (SqL.of (S14.st hD)), atI_nat (List.getElem?_eq_getElem rl), ?_⟩
    refine ⟨G12, _, b, o14, x.1, x.2, by rw [hxr.1]; rfl, S14, B14, hxr.2.1, hxr.2.2, fun v d o15 G15 H15 s15 hd fk bad B15 S15 => ?_⟩
    refine ⟨L, _, _, r, rfl, rfl, S15.sw.hd, ixN_at rl, ?_⟩
    have S16 : Sep G15 [(L, .lst (us.set r v)), (b, o15)] _ := S15.sw.set
    -- a second bad row
    refine ⟨fun σ H' => ∃ (ys : List V) (o' : HO) (G' : Hp), σ = [some (.ref a), some (.ref b), some (.ref y), some (.int many), some (.int (i : Nat)), some (.int (c : Nat)), some (.ref D), some (.ref L), some (.int (r : Nat)), y9] ∧ Same G15 G' ∧ ys.length = us.length ∧ ys[r]? = some v ∧ (∀ j, j < r → ys[j]? = us[j]?) ∧ Bag G' o' ∧ Sep G' [(L, .lst ys), (b, o')] H', ?_, fun σ H' h => ?_⟩
    · have same : ∃ (ys : List V) (o' : HO) (G' : Hp), [some (V.ref a), some (.ref b), some (.ref y), some (.int many), some (.int (i : Nat)), some (.int (c : Nat)), some (.ref D), some (.ref L), some (.int (r : Nat)), y9] = [some (V.ref a), some (.ref b), some (.ref y), some (.int many), some (.int (i : Nat)), some (.int (c : Nat)), some (.ref D), some (.ref L), some (.int (r : Nat)), y9] ∧ Same G15 G' ∧ ys.length = us.length ∧ ys[r]? = some v ∧ (∀ j, j < r → ys[j]? = us[j]?) ∧ Bag G' o' ∧ Sep G' [(L, .lst ys), (b, o')] (upd H15 L (HO.lst (us.set r v))) :=
        ⟨us.set r v, o15, G15, rfl, Same.refl _, List.length_set, List.getElem?_set_self rl, fun j hj => List.getElem?_set_ne (by omega), B15, S16⟩
      refine ⟨fun e3 => ?_, fun _ => ⟨ff, fun _ => same⟩⟩
      have e3 : (r : Int) + 1 < (c : Nat) := of_decide_eq_true e3
      refine ⟨G15, _, b, o15, 2, rfl, S16.sw, B15, by decide, by decide, fun r17 o17 H17 _ _ B17 S17 => ⟨fun _ => ?_, fun _ => ?_⟩⟩
      · have c1l : c - 1 < us.length := by omega
        have ec : (c : Int) - 1 = ((c - 1 : Nat) : Int) := by omega
        obtain ⟨x2, hx2, hxr2⟩ := prd_get (prd_imp (fun _ _ => RowsAt.same s15) pu) (List.getElem?_eq_getElem c1l)
        refine ⟨_, us[c - 1], .inl (SqL.of (S17.st (s15 _ _ hD))), by rw [ec]; exact atI_nat (List.getElem?_eq_getElem c1l), ?_⟩
        refine ⟨G15, _, b, o17, x2.1, x2.2, by rw [hxr2.1]; rfl, S17, B17, hxr2.2.1, hxr2.2.2, fun v2 d2 o18 G18 H18 s18 _ _ _ B18 S18 => ?_⟩
        refine ⟨L, _, _, c - 1, rfl, rfl, S18.sw.hd, by rw [ec, List.length_set]; exact ixN_at c1l, ?_⟩
        have nr : c - 1 ≠ r := by omega
        exact ⟨(us.set r v).set (c - 1) v2, o18, G18, rfl, s18, by rw [List.length_set, List.length_set], by rw [List.getElem?_set_ne nr, List.getElem?_set_self rl], fun j hj => by rw [List.getElem?_set_ne (by omega), List.getElem?_set_ne (by omega)], B18, S18.sw.set⟩
      · exact ⟨us.set r v, o17, G15, rfl, Same.refl _, List.length_set, List.getElem?_set_self rl, fun j hj => List.getElem?_set_ne (by omega), B17, S17.sw⟩
    obtain ⟨ys, o16, G16, rfl, s16, yl, yr, yj, B16, S16⟩ := h
    have s17 := S16.frzS
    have S17 := S16.frz
    have B17 := B16.same s17
    have hL : (upd G16 L (.lst ys)) L = some (.lst ys) := upd_same
    have s1217 : Same G12 (upd G16 L (.lst ys)) := s15.trans (s16.trans s17)
    have s1517 : Same G15 (upd G16 L (.lst ys)) := s16.trans s17
    generalize upd G16 L (.lst ys) = G17 at *
    have hk17 := hk.same (s512.trans s1217)
    have hD17 := s1217 _ _ hD
    have pu17 := prd_imp (fun _ _ => RowsAt.same s1217) pu
    have e0 : ((i : Nat) : Int) = 0 → us.length = 1 := fun e => by have := ca e; omega
    have e1 : ((i : Nat) : Int) = 1 ∨ ((i : Nat) : Int) = 2 ∨ ((i : Nat) : Int) = 3 → us.length = 2 := fun e => by have := cb e; omega
    obtain ⟨clg, dpg⟩ := pair_low (low_lit (z := "good") (by decide +kernel)) (low_lit (z := "") (by decide +kernel))
    -- good
    refine ⟨G17, _, _, many, _, f, D, us, rfl, S17, m0, by omega, hk17, hD17, by omega, by omega, e0, e1, .inl ⟨⟨xs, pu17⟩, fun t18 G18 H18 s18 ht18 S18 => ?_⟩⟩
    refine ⟨sz, fun t19 nt19 => ?_⟩
    obtain ⟨G19, s19, S19, ht19⟩ := Sep.mk (o := .tup [.str "good", .str ""]) S18 nt19
    refine ⟨.tuple [.str "good", .str ""], .tuple [.str "good", .str ""], .tup (S19.t (same_t s19 ht18)) (.cons (.str _) (.cons (.str _) .nil)), .tup (S19.t (SqT.of ht19)) (.cons (.str _) (.cons (.str _) .nil)), clg, clg, dpg, ?_⟩
    rw [SeqAt.eqv_refl _ clg]
    refine ⟨ff, fun _ => ?_⟩
    have s1719 := s18.trans s19
    -- bad
    have okd : Okd d := (fk.okd (Nat.le_refl _) (by decide)).1
    have hd19 : Dp K G19 v d := dp_same (s1517.trans s1719) hd
    have hbad : BadM K G19 ys r := ⟨⟨v, yr, d, hd19, okd, bad⟩, fun j v' hj hv' => by
      rw [yj j hj] at hv'
      obtain ⟨x', hx', hxr'⟩ := prd_get pu17 hv'
      exact ⟨x', hxr'.same s1719⟩⟩
    refine ⟨G19, _, _, many, _, f, L, ys, rfl, S19, m0, by omega, hk17.same s1719, s1719 _ _ hL, by omega, by omega, fun e => by rw [yl]; exact e0 e, fun e => by rw [yl]; exact e1 e, .inr ⟨r, v, d, hbad, yr, hd19, fk, fun t20 G20 H20 s20 ht20 S20 => ?_⟩⟩
    refine ⟨_, v, .inl (SqL.of (S20.st (s20 _ _ (s1719 _ _ hL)))), atI_nat yr, ?_⟩
    unfold tNil
    show rRepr K [v] _ _
    refine rep_ok (dp_same (s20.trans S20.1) hd19) fk ?_
    refine ⟨sz, fun t21 nt21 => ?_⟩
    obtain ⟨G21, s21, S21, ht21⟩ := Sep.mk (o := .tup [.str "BadRow", .str d.shown]) S20 nt21
    obtain ⟨clb, dpb⟩ := pair_low (low_lit (z := "BadRow") (by decide +kernel)) (shown_low d fk.ft.cl (PyData.hasDict_of_canLay _ fk.ft.cl))
    refine ⟨.tuple [.str "BadRow", .str d.shown], .tuple [.str "BadRow", .str d.shown], .tup (S21.t (same_t s21 ht20)) (.cons (.str _) (.cons (.str _) .nil)), .tup (S21.t (SqT.of ht21)) (.cons (.str _) (.cons (.str _) .nil)), clb, clb, dpb, ?_⟩
    rw [SeqAt.eqv_refl _ clb]
    refine ⟨ff, fun _ => ?_⟩
    have s1721 := s1719.trans (s20.trans s21)
    -- good again
    refine ⟨G21, _, _, many, _, f, D, us, rfl, S21, m0, by omega, hk17.same s1721, s1721 _ _ hD17, by omega, by omega, e0, e1, .inl ⟨⟨xs, prd_imp (fun _ _ => RowsAt.same s1721) pu17⟩, fun t22 G22 H22 s22 ht22 S22 => ?_⟩⟩
    refine ⟨sz, fun t23 nt23 => ?_⟩
    obtain ⟨G23, s23, S23, ht23⟩ := Sep.mk (o := .tup [.str "good", .str ""]) S22 nt23
    refine ⟨.tuple [.str "good", .str ""], .tuple [.str "good", .str ""], .tup (S23.t (same_t s23 ht22)) (.cons (.str _) (.cons (.str _) .nil)), .tup (S23.t (SqT.of ht23)) (.cons (.str _) (.cons (.str _) .nil)), clg, clg, dpg, ?_⟩
    rw [SeqAt.eqv_refl _ clg]
    refine ⟨ff, fun _ => ?_⟩
    have s1723 := s1721.trans (s22.trans s23)
    exact ⟨_, _, _, _, _, _, G23, _, rfl, s512.trans (s1217.trans s1723), B17.same s1723, S23⟩

end
end K25
set_option Elab.async false
set_option linter.all false
set_option maxRecDepth 100000
set_option maxHeartbeats 4000000
namespace K25
open PySem PySem.Spec PyProof.Rows L2 XL
theorem law_end {l : PySem.W.OpenLaw} {w : World} {K : PySem.W.Frag} {h : Heap} {mg : Str → Option Value} {fa f : Addr} {file : Str} (X : K.In h) (G : h.Ns mainGlobals mg) (hfa : mg "law" = some (.ref fa))
    (t : ∃ T : Top K mg w, T.a_law = f ∧ T.x_file = file ∧ ∀ (s : Shared) (v : Value), BindsTo s T.d_law ⟨[v], []⟩ [("_law_script", v)]) (pf0 : PySem.XExc.PF l.prog file) :
    ∃ fd : FuncData, (∀ (s : Shared) (v : Value), BindsTo s fd ⟨[v], []⟩ [("_law_script", v)]) ∧ ∀ base : Heap, K.In base → base.Ns mainGlobals mg → FnG l.prog w K mg base CX0 22 fa fd ["_law_script"] (spLaw K) := by
  obtain ⟨T, _, ef, hb⟩ := t
  have pf : PySem.XExc.PF l.prog T.x_file := by rw [ef]; exact pf0
  have e := hfa.symm.trans T.g_law
  cases e
  refine ⟨T.d_law, hb, fun base _ _ => ?_⟩
  have Gp : ∀ k, FnOk l.prog w K mg base CX0 (k + 2) T.a_pick T.d_pick _ spPick := fun k => ok_pick T (k := k) (ok_mixed T)
  have Gch : ∀ k, FnOk l.prog w K mg base CX0 (k + 3) T.a_choice T.d_choice _ (spChoice K) := fun k => ok_choice T (k := k + 2) (Gp k)
  have Gmi : ∀ k, FnOk l.prog w K mg base CX0 (k + 3) T.a_mingled T.d_mingled _ (spMingled K) := fun k => ok_mingled T (k := k + 2) (Gp k)
  -- the forms that are refused
  have Gfo : FnOk l.prog w K mg base CX0 19 T.a_form T.d_form _ (spForm K 4) := ok_form T (k := 14) (Gp 12) (Gch 11) 4
  have Gsp : FnOk l.prog w K mg base CX0 19 T.a_spoilt T.d_spoilt _ (spSpoilt K 4) := ok_spoilt T (k := 14) (Gp 12) 4
  have Grd : FnOk l.prog w K mg base CX0 19 T.a_read T.d_read _ (spRead K 4) := (ok_read T 4).mono (by decide)
  have Gno : FnOk l.prog w K mg base CX0 15 T.a_names_of T.d_names_of _ (spNamesG K 5) := (ok_names_ofG T 5).mono (by decide)
  have Gki := ok_Key_initG T pf (P := l.prog) (base := base) (k := 14) (ok_check_formG T pf (k := 13) (ok_is_partG T (k := 12) (ok_is_numberG T) (ok_is_nameG T))) Gno
  have Gkt := ok_key_told T pf (k := 16) Gki (ok_Key_parts T)
  have Gfr := ok_forms_refused T (k := 19) (ok_new_name T (k := 18) (Gp 16)) Gfo (ok_odd_part T (k := 18) (Gch 15)) Gsp Grd (ok_tower T (k := 18) (Gch 15)) Gkt
  -- the key
  have Gak : FnOk l.prog w K mg base CX0 20 T.a_any_key T.d_any_key _ spAnyKey := ok_any_key T (k := 13) (Gp 11) (Gch 10) (ok_formF T (k := 13) (Gp 11) (Gch 10) 5)
  have Gk0 : FnOk l.prog w K mg base CX0 20 T.a_Key_init T.d_Key_init _ (spKInit T.C_Key) := (ok_Key_init T (ok_check_form T (k := 5) (ok_is_part T (k := 3) (ok_is_number T) (ok_is_name T))) (ok_names_of T 5)).mono (by decide)
  -- the good calls
  have Gvo := ok_value_of (P := l.prog) (base := base) T 5
  have Gcr : FnOk l.prog w K mg base CX0 7 T.a_check_row T.d_check_row _ (spRow K) := ok_check_row T (k := 6)
  have Gio := ok_idents_of T Gvo
  have Gid := ok_Key_idents T Gcr Gio
  have Gma := ok_matched T Gid
  have Gsl := ok_slips T Gma
  have Glo := ok_losses T Gma
  have Gfw : ∀ k, FnOk l.prog w K mg base CX0 (k + 2) T.a_first_going_wrong T.d_first_going_wrong _ (spFirst K) := fun k => ok_first_going_wrong T (k := k + 1) (ok_goes_wrong T)
  have Gfa := ok_faithful T Gid (Gfw 6)
  have Gle := ok_Key_le T (ok_at_most T Gvo)
  have Gco := ok_coarsest T Gcr Gfa Gle
  -- the calls with a bad row
  have GcrX : ∀ k, FnOk l.prog w K mg base (L2.CX l.prog w) (k + 2) T.a_check_row T.d_check_row _ (spRowX K T.C_BadRow) := fun k => ok_check_rowX T pf
  have GidX : ∀ k, FnOk l.prog w K mg base (L2.CX l.prog w) (k + 8) T.a_Key_idents T.d_Key_idents _ (spKIdX K T.C_Key T.C_BadRow) := fun k => ok_Key_identsX T (k := k + 7) (GcrX (k + 5)) (Gio.mono (by omega))
  have Uid : ∀ k, FnOk l.prog w K mg base (L2.CX l.prog w) (k + 8) T.a_Key_idents T.d_Key_idents _ (fun vs H Q E => spKIdents T.C_Key vs H Q E ∨ spKIdX K T.C_Key T.C_BadRow vs H Q E) := fun k => fn_or (fn_anyC (Gid.mono (by omega))) (GidX k)
  have GmaX : ∀ k, FnOk l.prog w K mg base (L2.CX l.prog w) (k + 9) T.a_matched T.d_matched _ (spTwoX K T.C_Key T.C_BadRow) := fun k => ok_matchedX T (k := k + 8) (Uid k)
  have GslX := ok_slipsX T (k := 17) (GmaX 8)
  have GloX := ok_lossesX T (k := 17) (GmaX 8)
  have GfaX : ∀ k, FnOk l.prog w K mg base (L2.CX l.prog w) (k + 9) T.a_faithful T.d_faithful _ (spMenuX K T.C_Key T.C_BadRow) := fun k => ok_faithfulX T (k := k + 8) (Uid k) (Gfw (k + 6))
  have GcoX := ok_coarsestX T (k := 17) (fn_or (fn_anyC (Gcr.mono (by decide))) (GcrX 15)) (fn_or (fn_anyC (Gfa.mono (by decide))) (GfaX 8)) (Gle.mono (by decide))
  have Gcl := ok_called T (k := 18) (Uid 10) (fn_or (fn_anyC (Gma.mono (by decide))) (GmaX 9)) (fn_or (fn_anyC (Gsl.mono (by decide))) GslX) (fn_or (fn_anyC (Glo.mono (by decide))) GloX) (fn_or (fn_anyC (Gfa.mono (by decide))) (GfaX 9)) (fn_or (fn_anyC (Gco.mono (by decide))) GcoX)
  have Grt := ok_row_told T pf (k := 19) Gcl
  exact ok_law T (k := 20) (ok_bag T) (Gp 18) Gfr Gak (fn_anyC Gk0) (ok_some_row T (k := 19) (Gp 17) (Gmi 16) (ok_row T (k := 18) (Gp 16) (Gmi 15))) (ok_bad_row T (k := 19) (Gp 17) (Gmi 16) (Gch 16)) Grt
end K25
set_option Elab.async false
set_option linter.all false
set_option maxRecDepth 100000
set_option maxHeartbeats 4000000
namespace K25
open PySem PySem.Spec PyProof.Rows L2 XL
theorem top_mk {K : PySem.W.Frag} {W : World} {h : Heap} {mg : Str → Option Value} (X : K.In h) (G : h.Ns mainGlobals mg)
    {C0 : Addr}
    (ca0 : PySem.W.nsIn K mainGlobals "Key" = some (some (.ref C0)))
    {f0 : Addr} {od0 an0 : Option Addr} {sl0 : Array (Option Value)} {oc0 kV0 dc0 pm0 cd0 ct0 : Value}
    (a0 : PySem.W.nsIn K mainGlobals "is_name" = some (some (.ref f0)))
    (l0 : K.lookup f0 = some ⟨oc0, od0, .func (PySem.W.fnOf "is_name" "is_name" (defArgs s_is_name) (defBody s_is_name) (defScope s_is_name) .none kV0 dc0 pm0 an0 cd0 ct0), sl0⟩)
    (c0 : PySem.W.codeIn K cd0 "is_name" = true)
    (k0 : PySem.W.keepIn K (.ref f0) = true)
    {f1 : Addr} {od1 an1 : Option Addr} {sl1 : Array (Option Value)} {oc1 kV1 dc1 pm1 cd1 ct1 : Value}
    (a1 : PySem.W.nsIn K mainGlobals "is_number" = some (some (.ref f1)))
    (l1 : K.lookup f1 = some ⟨oc1, od1, .func (PySem.W.fnOf "is_number" "is_number" (defArgs s_is_number) (defBody s_is_number) (defScope s_is_number) .none kV1 dc1 pm1 an1 cd1 ct1), sl1⟩)
    (c1 : PySem.W.codeIn K cd1 "is_number" = true)
    (k1 : PySem.W.keepIn K (.ref f1) = true)
    {f2 : Addr} {od2 an2 : Option Addr} {sl2 : Array (Option Value)} {oc2 kV2 dc2 pm2 cd2 ct2 : Value}
    (a2 : PySem.W.nsIn K mainGlobals "is_part" = some (some (.ref f2)))
    (l2 : K.lookup f2 = some ⟨oc2, od2, .func (PySem.W.fnOf "is_part" "is_part" (defArgs s_is_part) (defBody s_is_part) (defScope s_is_part) .none kV2 dc2 pm2 an2 cd2 ct2), sl2⟩)
    (c2 : PySem.W.codeIn K cd2 "is_part" = true)
    (k2 : PySem.W.keepIn K (.ref f2) = true)
    {f3 : Addr} {od3 an3 : Option Addr} {sl3 : Array (Option Value)} {oc3 kV3 dc3 pm3 cd3 ct3 : Value}
    (a3 : PySem.W.nsIn K mainGlobals "check_form" = some (some (.ref f3)))
    (l3 : K.lookup f3 = some ⟨oc3, od3, .func (PySem.W.fnOf "check_form" "check_form" (defArgs s_check_form) (defBody s_check_form) (defScope s_check_form) .none kV3 dc3 pm3 an3 cd3 ct3), sl3⟩)
    (c3 : PySem.W.codeIn K cd3 "check_form" = true)
    (k3 : PySem.W.keepIn K (.ref f3) = true)
    {f4 : Addr} {od4 an4 : Option Addr} {sl4 : Array (Option Value)} {oc4 kV4 dc4 pm4 cd4 ct4 : Value}
    (a4 : PySem.W.nsIn K mainGlobals "value_of" = some (some (.ref f4)))
    (l4 : K.lookup f4 = some ⟨oc4, od4, .func (PySem.W.fnOf "value_of" "value_of" (defArgs s_value_of) (defBody s_value_of) (defScope s_value_of) .none kV4 dc4 pm4 an4 cd4 ct4), sl4⟩)
    (c4 : PySem.W.codeIn K cd4 "value_of" = true)
    (k4 : PySem.W.keepIn K (.ref f4) = true)
    {f5 : Addr} {od5 an5 : Option Addr} {sl5 : Array (Option Value)} {oc5 kV5 dc5 pm5 cd5 ct5 : Value}
    (a5 : PySem.W.nsIn K mainGlobals "names_of" = some (some (.ref f5)))
    (l5 : K.lookup f5 = some ⟨oc5, od5, .func (PySem.W.fnOf "names_of" "names_of" (defArgs s_names_of) (defBody s_names_of) (defScope s_names_of) .none kV5 dc5 pm5 an5 cd5 ct5), sl5⟩)
    (c5 : PySem.W.codeIn K cd5 "names_of" = true)
    (k5 : PySem.W.keepIn K (.ref f5) = true)
    {f6 : Addr} {od6 an6 : Option Addr} {sl6 : Array (Option Value)} {oc6 kV6 dc6 pm6 cd6 ct6 : Value}
    (a6 : PySem.W.nsIn K mainGlobals "check_row" = some (some (.ref f6)))
    (l6 : K.lookup f6 = some ⟨oc6, od6, .func (PySem.W.fnOf "check_row" "check_row" (defArgs s_check_row) (defBody s_check_row) (defScope s_check_row) .none kV6 dc6 pm6 an6 cd6 ct6), sl6⟩)
    (c6 : PySem.W.codeIn K cd6 "check_row" = true)
    (k6 : PySem.W.keepIn K (.ref f6) = true)
    {f7 : Addr} {od7 an7 : Option Addr} {sl7 : Array (Option Value)} {oc7 kV7 dc7 pm7 cd7 ct7 : Value}
    (a7 : PySem.W.nsIn K mainGlobals "idents_of" = some (some (.ref f7)))
    (l7 : K.lookup f7 = some ⟨oc7, od7, .func (PySem.W.fnOf "idents_of" "idents_of" (defArgs s_idents_of) (defBody s_idents_of) (defScope s_idents_of) .none kV7 dc7 pm7 an7 cd7 ct7), sl7⟩)
    (c7 : PySem.W.codeIn K cd7 "idents_of" = true)
    (k7 : PySem.W.keepIn K (.ref f7) = true)
    {f8 : Addr} {od8 an8 : Option Addr} {sl8 : Array (Option Value)} {oc8 kV8 dc8 pm8 cd8 ct8 : Value}
    (a8 : PySem.W.nsIn K mainGlobals "at_most" = some (some (.ref f8)))
    (l8 : K.lookup f8 = some ⟨oc8, od8, .func (PySem.W.fnOf "at_most" "at_most" (defArgs s_at_most) (defBody s_at_most) (defScope s_at_most) .none kV8 dc8 pm8 an8 cd8 ct8), sl8⟩)
    (c8 : PySem.W.codeIn K cd8 "at_most" = true)
    (k8 : PySem.W.keepIn K (.ref f8) = true)
    {f9 : Addr} {od9 an9 : Option Addr} {sl9 : Array (Option Value)} {oc9 kV9 dc9 pm9 cd9 ct9 : Value}
    (a9 : PySem.W.findIn K (.ref C0) "__init__" = some (some (.ref f9)))
    (i9 : PySem.W.isFn K (.ref f9) = true)
    (l9 : K.lookup f9 = some ⟨oc9, od9, .func (PySem.W.fnOf "__init__" "Key.__init__" (defArgs s_Key_init) (defBody s_Key_init) (defScope s_Key_init) .none kV9 dc9 pm9 an9 cd9 ct9), sl9⟩)
    (c9 : PySem.W.codeIn K cd9 "Key.__init__" = true)
    (k9 : PySem.W.keepIn K (.ref f9) = true)
    {f10 : Addr} {od10 an10 : Option Addr} {sl10 : Array (Option Value)} {oc10 kV10 dc10 pm10 cd10 ct10 : Value}
    {p10 : Addr} {pr10 : List Value}
    (a10 : PySem.W.findIn K (.ref C0) "parts" = some (some (.ref p10)))
    (pg10 : PySem.W.specialIn K (.ref p10) "__get__" = some (some (.builtin "property.__get__")))
    (pt10 : PySem.W.takesIn K (.ref p10) = some true)
    (pc10 : PySem.W.recIn K p10 "property" = some (.ref f10 :: pr10))
    (l10 : K.lookup f10 = some ⟨oc10, od10, .func (PySem.W.fnOf "parts" "Key.parts" (defArgs s_Key_parts) (defBody s_Key_parts) (defScope s_Key_parts) .none kV10 dc10 pm10 an10 cd10 ct10), sl10⟩)
    (c10 : PySem.W.codeIn K cd10 "Key.parts" = true)
    (k10 : PySem.W.keepIn K (.ref f10) = true)
    {f11 : Addr} {od11 an11 : Option Addr} {sl11 : Array (Option Value)} {oc11 kV11 dc11 pm11 cd11 ct11 : Value}
    (a11 : PySem.W.findIn K (.ref C0) "__call__" = some (some (.ref f11)))
    (i11 : PySem.W.isFn K (.ref f11) = true)
    (fi11 : PySem.W.fnIn K f11 = true)
    (l11 : K.lookup f11 = some ⟨oc11, od11, .func (PySem.W.fnOf "__call__" "Key.__call__" (defArgs s_Key_call) (defBody s_Key_call) (defScope s_Key_call) .none kV11 dc11 pm11 an11 cd11 ct11), sl11⟩)
    (c11 : PySem.W.codeIn K cd11 "Key.__call__" = true)
    (k11 : PySem.W.keepIn K (.ref f11) = true)
    {f12 : Addr} {od12 an12 : Option Addr} {sl12 : Array (Option Value)} {oc12 kV12 dc12 pm12 cd12 ct12 : Value}
    (a12 : PySem.W.findIn K (.ref C0) "__le__" = some (some (.ref f12)))
    (i12 : PySem.W.isFn K (.ref f12) = true)
    (l12 : K.lookup f12 = some ⟨oc12, od12, .func (PySem.W.fnOf "__le__" "Key.__le__" (defArgs s_Key_le) (defBody s_Key_le) (defScope s_Key_le) .none kV12 dc12 pm12 an12 cd12 ct12), sl12⟩)
    (c12 : PySem.W.codeIn K cd12 "Key.__le__" = true)
    (k12 : PySem.W.keepIn K (.ref f12) = true)
    {f13 : Addr} {od13 an13 : Option Addr} {sl13 : Array (Option Value)} {oc13 kV13 dc13 pm13 cd13 ct13 : Value}
    (a13 : PySem.W.findIn K (.ref C0) "idents" = some (some (.ref f13)))
    (i13 : PySem.W.isFn K (.ref f13) = true)
    (l13 : K.lookup f13 = some ⟨oc13, od13, .func (PySem.W.fnOf "idents" "Key.idents" (defArgs s_Key_idents) (defBody s_Key_idents) (defScope s_Key_idents) .none kV13 dc13 pm13 an13 cd13 ct13), sl13⟩)
    (c13 : PySem.W.codeIn K cd13 "Key.idents" = true)
    (k13 : PySem.W.keepIn K (.ref f13) = true)
    {f14 : Addr} {od14 an14 : Option Addr} {sl14 : Array (Option Value)} {oc14 kV14 dc14 pm14 cd14 ct14 : Value}
    (a14 : PySem.W.nsIn K mainGlobals "matched" = some (some (.ref f14)))
    (l14 : K.lookup f14 = some ⟨oc14, od14, .func (PySem.W.fnOf "matched" "matched" (defArgs s_matched) (defBody s_matched) (defScope s_matched) .none kV14 dc14 pm14 an14 cd14 ct14), sl14⟩)
    (c14 : PySem.W.codeIn K cd14 "matched" = true)
    (k14 : PySem.W.keepIn K (.ref f14) = true)
    {f15 : Addr} {od15 an15 : Option Addr} {sl15 : Array (Option Value)} {oc15 kV15 dc15 pm15 cd15 ct15 : Value}
    (a15 : PySem.W.nsIn K mainGlobals "slips" = some (some (.ref f15)))
    (l15 : K.lookup f15 = some ⟨oc15, od15, .func (PySem.W.fnOf "slips" "slips" (defArgs s_slips) (defBody s_slips) (defScope s_slips) .none kV15 dc15 pm15 an15 cd15 ct15), sl15⟩)
    (c15 : PySem.W.codeIn K cd15 "slips" = true)
    (k15 : PySem.W.keepIn K (.ref f15) = true)
    {f16 : Addr} {od16 an16 : Option Addr} {sl16 : Array (Option Value)} {oc16 kV16 dc16 pm16 cd16 ct16 : Value}
    (a16 : PySem.W.nsIn K mainGlobals "losses" = some (some (.ref f16)))
    (l16 : K.lookup f16 = some ⟨oc16, od16, .func (PySem.W.fnOf "losses" "losses" (defArgs s_losses) (defBody s_losses) (defScope s_losses) .none kV16 dc16 pm16 an16 cd16 ct16), sl16⟩)
    (c16 : PySem.W.codeIn K cd16 "losses" = true)
    (k16 : PySem.W.keepIn K (.ref f16) = true)
    {f17 : Addr} {od17 an17 : Option Addr} {sl17 : Array (Option Value)} {oc17 kV17 dc17 pm17 cd17 ct17 : Value}
    (a17 : PySem.W.nsIn K mainGlobals "goes_wrong" = some (some (.ref f17)))
    (l17 : K.lookup f17 = some ⟨oc17, od17, .func (PySem.W.fnOf "goes_wrong" "goes_wrong" (defArgs s_goes_wrong) (defBody s_goes_wrong) (defScope s_goes_wrong) .none kV17 dc17 pm17 an17 cd17 ct17), sl17⟩)
    (c17 : PySem.W.codeIn K cd17 "goes_wrong" = true)
    (k17 : PySem.W.keepIn K (.ref f17) = true)
    {f18 : Addr} {od18 an18 : Option Addr} {sl18 : Array (Option Value)} {oc18 kV18 dc18 pm18 cd18 ct18 : Value}
    (a18 : PySem.W.nsIn K mainGlobals "first_going_wrong" = some (some (.ref f18)))
    (l18 : K.lookup f18 = some ⟨oc18, od18, .func (PySem.W.fnOf "first_going_wrong" "first_going_wrong" (defArgs s_first_going_wrong) (defBody s_first_going_wrong) (defScope s_first_going_wrong) .none kV18 dc18 pm18 an18 cd18 ct18), sl18⟩)
    (c18 : PySem.W.codeIn K cd18 "first_going_wrong" = true)
    (k18 : PySem.W.keepIn K (.ref f18) = true)
    {f19 : Addr} {od19 an19 : Option Addr} {sl19 : Array (Option Value)} {oc19 kV19 dc19 pm19 cd19 ct19 : Value}
    (a19 : PySem.W.nsIn K mainGlobals "faithful" = some (some (.ref f19)))
    (l19 : K.lookup f19 = some ⟨oc19, od19, .func (PySem.W.fnOf "faithful" "faithful" (defArgs s_faithful) (defBody s_faithful) (defScope s_faithful) .none kV19 dc19 pm19 an19 cd19 ct19), sl19⟩)
    (c19 : PySem.W.codeIn K cd19 "faithful" = true)
    (k19 : PySem.W.keepIn K (.ref f19) = true)
    {f20 : Addr} {od20 an20 : Option Addr} {sl20 : Array (Option Value)} {oc20 kV20 dc20 pm20 cd20 ct20 : Value}
    (a20 : PySem.W.nsIn K mainGlobals "coarsest" = some (some (.ref f20)))
    (l20 : K.lookup f20 = some ⟨oc20, od20, .func (PySem.W.fnOf "coarsest" "coarsest" (defArgs s_coarsest) (defBody s_coarsest) (defScope s_coarsest) .none kV20 dc20 pm20 an20 cd20 ct20), sl20⟩)
    (c20 : PySem.W.codeIn K cd20 "coarsest" = true)
    (k20 : PySem.W.keepIn K (.ref f20) = true)
    {f21 : Addr} {od21 an21 : Option Addr} {sl21 : Array (Option Value)} {oc21 kV21 dc21 pm21 cd21 ct21 : Value}
    (a21 : PySem.W.nsIn K mainGlobals "_law_mixed" = some (some (.ref f21)))
    (l21 : K.lookup f21 = some ⟨oc21, od21, .func (PySem.W.fnOf "_law_mixed" "_law_mixed" (defArgs s_mixed) (defBody s_mixed) (defScope s_mixed) .none kV21 dc21 pm21 an21 cd21 ct21), sl21⟩)
    (c21 : PySem.W.codeIn K cd21 "_law_mixed" = true)
    (k21 : PySem.W.keepIn K (.ref f21) = true)
    {f22 : Addr} {od22 an22 : Option Addr} {sl22 : Array (Option Value)} {oc22 kV22 dc22 pm22 cd22 ct22 : Value}
    (a22 : PySem.W.nsIn K mainGlobals "_law_bag" = some (some (.ref f22)))
    (l22 : K.lookup f22 = some ⟨oc22, od22, .func (PySem.W.fnOf "_law_bag" "_law_bag" (defArgs s_bag) (defBody s_bag) (defScope s_bag) .none kV22 dc22 pm22 an22 cd22 ct22), sl22⟩)
    (c22 : PySem.W.codeIn K cd22 "_law_bag" = true)
    (k22 : PySem.W.keepIn K (.ref f22) = true)
    {f23 : Addr} {od23 an23 : Option Addr} {sl23 : Array (Option Value)} {oc23 kV23 dc23 pm23 cd23 ct23 : Value}
    (a23 : PySem.W.nsIn K mainGlobals "_law_pick" = some (some (.ref f23)))
    (l23 : K.lookup f23 = some ⟨oc23, od23, .func (PySem.W.fnOf "_law_pick" "_law_pick" (defArgs s_pick) (defBody s_pick) (defScope s_pick) .none kV23 dc23 pm23 an23 cd23 ct23), sl23⟩)
    (c23 : PySem.W.codeIn K cd23 "_law_pick" = true)
    (k23 : PySem.W.keepIn K (.ref f23) = true)
    {f24 : Addr} {od24 an24 : Option Addr} {sl24 : Array (Option Value)} {oc24 kV24 dc24 pm24 cd24 ct24 : Value}
    (a24 : PySem.W.nsIn K mainGlobals "_law_choice" = some (some (.ref f24)))
    (l24 : K.lookup f24 = some ⟨oc24, od24, .func (PySem.W.fnOf "_law_choice" "_law_choice" (defArgs s_choice) (defBody s_choice) (defScope s_choice) .none kV24 dc24 pm24 an24 cd24 ct24), sl24⟩)
    (c24 : PySem.W.codeIn K cd24 "_law_choice" = true)
    (k24 : PySem.W.keepIn K (.ref f24) = true)
    {f25 : Addr} {od25 an25 : Option Addr} {sl25 : Array (Option Value)} {oc25 kV25 dc25 pm25 cd25 ct25 : Value}
    (a25 : PySem.W.nsIn K mainGlobals "_law_mingled" = some (some (.ref f25)))
    (l25 : K.lookup f25 = some ⟨oc25, od25, .func (PySem.W.fnOf "_law_mingled" "_law_mingled" (defArgs s_mingled) (defBody s_mingled) (defScope s_mingled) .none kV25 dc25 pm25 an25 cd25 ct25), sl25⟩)
    (c25 : PySem.W.codeIn K cd25 "_law_mingled" = true)
    (k25 : PySem.W.keepIn K (.ref f25) = true)
    {f26 : Addr} {od26 an26 : Option Addr} {sl26 : Array (Option Value)} {oc26 kV26 dc26 pm26 cd26 ct26 : Value}
    (a26 : PySem.W.nsIn K mainGlobals "_law_form" = some (some (.ref f26)))
    (l26 : K.lookup f26 = some ⟨oc26, od26, .func (PySem.W.fnOf "_law_form" "_law_form" (defArgs s_form) (defBody s_form) (defScope s_form) .none kV26 dc26 pm26 an26 cd26 ct26), sl26⟩)
    (c26 : PySem.W.codeIn K cd26 "_law_form" = true)
    (k26 : PySem.W.keepIn K (.ref f26) = true)
    {f27 : Addr} {od27 an27 : Option Addr} {sl27 : Array (Option Value)} {oc27 kV27 dc27 pm27 cd27 ct27 : Value}
    (a27 : PySem.W.nsIn K mainGlobals "_law_row" = some (some (.ref f27)))
    (l27 : K.lookup f27 = some ⟨oc27, od27, .func (PySem.W.fnOf "_law_row" "_law_row" (defArgs s_row) (defBody s_row) (defScope s_row) .none kV27 dc27 pm27 an27 cd27 ct27), sl27⟩)
    (c27 : PySem.W.codeIn K cd27 "_law_row" = true)
    (k27 : PySem.W.keepIn K (.ref f27) = true)
    {f28 : Addr} {od28 an28 : Option Addr} {sl28 : Array (Option Value)} {oc28 kV28 dc28 pm28 cd28 ct28 : Value}
    (a28 : PySem.W.nsIn K mainGlobals "_law_new_name" = some (some (.ref f28)))
    (l28 : K.lookup f28 = some ⟨oc28, od28, .func (PySem.W.fnOf "_law_new_name" "_law_new_name" (defArgs s_new_name) (defBody s_new_name) (defScope s_new_name) .none kV28 dc28 pm28 an28 cd28 ct28), sl28⟩)
    (c28 : PySem.W.codeIn K cd28 "_law_new_name" = true)
    (k28 : PySem.W.keepIn K (.ref f28) = true)
    {f29 : Addr} {od29 an29 : Option Addr} {sl29 : Array (Option Value)} {oc29 kV29 dc29 pm29 cd29 ct29 : Value}
    (a29 : PySem.W.nsIn K mainGlobals "_law_read" = some (some (.ref f29)))
    (l29 : K.lookup f29 = some ⟨oc29, od29, .func (PySem.W.fnOf "_law_read" "_law_read" (defArgs s_read) (defBody s_read) (defScope s_read) .none kV29 dc29 pm29 an29 cd29 ct29), sl29⟩)
    (c29 : PySem.W.codeIn K cd29 "_law_read" = true)
    (k29 : PySem.W.keepIn K (.ref f29) = true)
    {f30 : Addr} {od30 an30 : Option Addr} {sl30 : Array (Option Value)} {oc30 kV30 dc30 pm30 cd30 ct30 : Value}
    (a30 : PySem.W.nsIn K mainGlobals "_law_any_key" = some (some (.ref f30)))
    (l30 : K.lookup f30 = some ⟨oc30, od30, .func (PySem.W.fnOf "_law_any_key" "_law_any_key" (defArgs s_any_key) (defBody s_any_key) (defScope s_any_key) .none kV30 dc30 pm30 an30 cd30 ct30), sl30⟩)
    (c30 : PySem.W.codeIn K cd30 "_law_any_key" = true)
    (k30 : PySem.W.keepIn K (.ref f30) = true)
    {f31 : Addr} {od31 an31 : Option Addr} {sl31 : Array (Option Value)} {oc31 kV31 dc31 pm31 cd31 ct31 : Value}
    (a31 : PySem.W.nsIn K mainGlobals "_law_odd_part" = some (some (.ref f31)))
    (l31 : K.lookup f31 = some ⟨oc31, od31, .func (PySem.W.fnOf "_law_odd_part" "_law_odd_part" (defArgs s_odd_part) (defBody s_odd_part) (defScope s_odd_part) .none kV31 dc31 pm31 an31 cd31 ct31), sl31⟩)
    (c31 : PySem.W.codeIn K cd31 "_law_odd_part" = true)
    (k31 : PySem.W.keepIn K (.ref f31) = true)
    {f32 : Addr} {od32 an32 : Option Addr} {sl32 : Array (Option Value)} {oc32 kV32 dc32 pm32 cd32 ct32 : Value}
    (a32 : PySem.W.nsIn K mainGlobals "_law_spoilt" = some (some (.ref f32)))
    (l32 : K.lookup f32 = some ⟨oc32, od32, .func (PySem.W.fnOf "_law_spoilt" "_law_spoilt" (defArgs s_spoilt) (defBody s_spoilt) (defScope s_spoilt) .none kV32 dc32 pm32 an32 cd32 ct32), sl32⟩)
    (c32 : PySem.W.codeIn K cd32 "_law_spoilt" = true)
    (k32 : PySem.W.keepIn K (.ref f32) = true)
    {f33 : Addr} {od33 an33 : Option Addr} {sl33 : Array (Option Value)} {oc33 kV33 dc33 pm33 cd33 ct33 : Value}
    (a33 : PySem.W.nsIn K mainGlobals "_law_tower" = some (some (.ref f33)))
    (l33 : K.lookup f33 = some ⟨oc33, od33, .func (PySem.W.fnOf "_law_tower" "_law_tower" (defArgs s_tower) (defBody s_tower) (defScope s_tower) .none kV33 dc33 pm33 an33 cd33 ct33), sl33⟩)
    (c33 : PySem.W.codeIn K cd33 "_law_tower" = true)
    (k33 : PySem.W.keepIn K (.ref f33) = true)
    {f34 : Addr} {od34 an34 : Option Addr} {sl34 : Array (Option Value)} {oc34 kV34 dc34 pm34 cd34 ct34 : Value}
    (a34 : PySem.W.nsIn K mainGlobals "_law_key_told" = some (some (.ref f34)))
    (l34 : K.lookup f34 = some ⟨oc34, od34, .func (PySem.W.fnOf "_law_key_told" "_law_key_told" (defArgs s_key_told) (defBody s_key_told) (defScope s_key_told) .none kV34 dc34 pm34 an34 cd34 ct34), sl34⟩)
    (c34 : PySem.W.codeIn K cd34 "_law_key_told" = true)
    (k34 : PySem.W.keepIn K (.ref f34) = true)
    {f35 : Addr} {od35 an35 : Option Addr} {sl35 : Array (Option Value)} {oc35 kV35 dc35 pm35 cd35 ct35 : Value}
    (a35 : PySem.W.nsIn K mainGlobals "_law_forms_refused" = some (some (.ref f35)))
    (l35 : K.lookup f35 = some ⟨oc35, od35, .func (PySem.W.fnOf "_law_forms_refused" "_law_forms_refused" (defArgs s_forms_refused) (defBody s_forms_refused) (defScope s_forms_refused) .none kV35 dc35 pm35 an35 cd35 ct35), sl35⟩)
    (c35 : PySem.W.codeIn K cd35 "_law_forms_refused" = true)
    (k35 : PySem.W.keepIn K (.ref f35) = true)
    {f36 : Addr} {od36 an36 : Option Addr} {sl36 : Array (Option Value)} {oc36 kV36 dc36 pm36 cd36 ct36 : Value}
    (a36 : PySem.W.nsIn K mainGlobals "_law_some_row" = some (some (.ref f36)))
    (l36 : K.lookup f36 = some ⟨oc36, od36, .func (PySem.W.fnOf "_law_some_row" "_law_some_row" (defArgs s_some_row) (defBody s_some_row) (defScope s_some_row) .none kV36 dc36 pm36 an36 cd36 ct36), sl36⟩)
    (c36 : PySem.W.codeIn K cd36 "_law_some_row" = true)
    (k36 : PySem.W.keepIn K (.ref f36) = true)
    {f37 : Addr} {od37 an37 : Option Addr} {sl37 : Array (Option Value)} {oc37 kV37 dc37 pm37 cd37 ct37 : Value}
    (a37 : PySem.W.nsIn K mainGlobals "_law_bad_row" = some (some (.ref f37)))
    (l37 : K.lookup f37 = some ⟨oc37, od37, .func (PySem.W.fnOf "_law_bad_row" "_law_bad_row" (defArgs s_bad_row) (defBody s_bad_row) (defScope s_bad_row) .none kV37 dc37 pm37 an37 cd37 ct37), sl37⟩)
    (c37 : PySem.W.codeIn K cd37 "_law_bad_row" = true)
    (k37 : PySem.W.keepIn K (.ref f37) = true)
    {f38 : Addr} {od38 an38 : Option Addr} {sl38 : Array (Option Value)} {oc38 kV38 dc38 pm38 cd38 ct38 : Value}
    (a38 : PySem.W.nsIn K mainGlobals "_law_called" = some (some (.ref f38)))
    (l38 : K.lookup f38 = some ⟨oc38, od38, .func (PySem.W.fnOf "_law_called" "_law_called" (defArgs s_called) (defBody s_called) (defScope s_called) .none kV38 dc38 pm38 an38 cd38 ct38), sl38⟩)
    (c38 : PySem.W.codeIn K cd38 "_law_called" = true)
    (k38 : PySem.W.keepIn K (.ref f38) = true)
    {f39 : Addr} {od39 an39 : Option Addr} {sl39 : Array (Option Value)} {oc39 kV39 dc39 pm39 cd39 ct39 : Value}
    (a39 : PySem.W.nsIn K mainGlobals "_law_row_told" = some (some (.ref f39)))
    (l39 : K.lookup f39 = some ⟨oc39, od39, .func (PySem.W.fnOf "_law_row_told" "_law_row_told" (defArgs s_row_told) (defBody s_row_told) (defScope s_row_told) .none kV39 dc39 pm39 an39 cd39 ct39), sl39⟩)
    (c39 : PySem.W.codeIn K cd39 "_law_row_told" = true)
    (k39 : PySem.W.keepIn K (.ref f39) = true)
    {f40 : Addr} {od40 an40 : Option Addr} {sl40 : Array (Option Value)} {oc40 kV40 dc40 pm40 cd40 ct40 : Value}
    (a40 : PySem.W.nsIn K mainGlobals "law" = some (some (.ref f40)))
    (l40 : K.lookup f40 = some ⟨oc40, od40, .func (PySem.W.fnOf "law" "law" (defArgs s_law) (defBody s_law) (defScope s_law) .none kV40 dc40 pm40 an40 cd40 ct40), sl40⟩)
    (c40 : PySem.W.codeIn K cd40 "law" = true)
    (k40 : PySem.W.keepIn K (.ref f40) = true)
    (z0 : PySem.W.nsIn K mainGlobals "NotImplemented" = some none)
    (z1 : PySem.W.nsIn K mainGlobals "ValueError" = some none)
    (z2 : PySem.W.nsIn K mainGlobals "abs" = some none)
    (z3 : PySem.W.nsIn K mainGlobals "all" = some none)
    (z4 : PySem.W.nsIn K mainGlobals "bool" = some none)
    (z5 : PySem.W.nsIn K mainGlobals "enumerate" = some none)
    (z6 : PySem.W.nsIn K mainGlobals "int" = some none)
    (z7 : PySem.W.nsIn K mainGlobals "isinstance" = some none)
    (z8 : PySem.W.nsIn K mainGlobals "len" = some none)
    (z9 : PySem.W.nsIn K mainGlobals "list" = some none)
    (z10 : PySem.W.nsIn K mainGlobals "range" = some none)
    (z11 : PySem.W.nsIn K mainGlobals "repr" = some none)
    (z12 : PySem.W.nsIn K mainGlobals "str" = some none)
    (z13 : PySem.W.nsIn K mainGlobals "tuple" = some none)
    {w0 : Value}
    (y0 : PySem.W.nsIn K mainGlobals "LETTERS" = some (some w0))
    (x0 : ∃ t, w0 = .str "abcdefghijklmnopqrstuvwxyz" t)
    {w1 : Value}
    (y1 : PySem.W.nsIn K mainGlobals "MOST_LEVELS" = some (some w1))
    (x1 : ∃ t, w1 = .int 5 t)
    {w2 : Value}
    (y2 : PySem.W.nsIn K mainGlobals "MOST_ITEMS" = some (some w2))
    (x2 : ∃ t, w2 = .int 5 t)
    {D0 : Addr} {de0 : Array DictEntry} {dn0 : Nat}
    (da0 : PySem.W.nsIn K mainGlobals "COUNTS" = some (some (.ref D0)))
    (dl0 : K.lookup D0 = some ⟨.type "dict", none, .dict de0 dn0, #[]⟩)
    (dk0 : PySem.W.KeysLit W.params de0.toList)
    (dw0 : (D0 == sysModules) = false)
    {dt0_0 : Tok}
    (dv0_0 : PySem.W.nsIn K D0 "is" = some (some (.int 2 dt0_0)))
    {dt0_1 : Tok}
    (dv0_1 : PySem.W.nsIn K D0 "get" = some (some (.int 2 dt0_1)))
    {dt0_2 : Tok}
    (dv0_2 : PySem.W.nsIn K D0 "sum" = some (some (.int 3 dt0_2)))
    {dt0_3 : Tok}
    (dv0_3 : PySem.W.nsIn K D0 "same" = some (some (.int 3 dt0_3)))
    {dt0_4 : Tok}
    (dv0_4 : PySem.W.nsIn K D0 "pick" = some (some (.int 4 dt0_4)))
    {dj0_0 : Tok} {dj0_1 : Tok} {dj0_2 : Tok} {dj0_3 : Tok} {dj0_4 : Tok}
    (dm0 : de0.toList.map (fun e => e.key) = [.str "is" dj0_0, .str "get" dj0_1, .str "sum" dj0_2, .str "same" dj0_3, .str "pick" dj0_4])
    (cg0 : PySem.W.plainGet K C0 Str.empty = true)
    (ch0 : PySem.W.hasDictIn K C0 = true)
    (co0 : PySem.W.plainOver K C0 = true)
    (cs0 : PySem.W.findIn K (.ref C0) "__setattr__" = some (some (.builtin "object.__setattr__")))
    (cf0_0 : PySem.W.findIn K (.ref C0) "form" = some none)
    (cm0 : PySem.W.makesIn K C0 = true)
    (ck0 : PySem.W.keepIn K (.ref C0) = true)
    (ct0_a : PySem.W.findIn K (.ref C0) "__class__" = some (some (.builtin "object.__class__")))
    (ct0_b : PySem.W.specialIn K (.builtin "object.__class__") "__get__" = some (some (.builtin "getset_descriptor.__get__")))
    (ct0_c : PySem.W.takesIn K (.builtin "object.__class__") = some true)
    (ct0_d : PySem.W.mroIn K C0 (.type "object") = some true)
    {file : Str}
    {E0 E1 E2 : Addr}
    (xa0 : PySem.W.nsIn K mainGlobals "BadForm" = some (some (.ref E0)))
    (xa1 : PySem.W.nsIn K mainGlobals "NoName" = some (some (.ref E1)))
    (xa2 : PySem.W.nsIn K mainGlobals "BadRow" = some (some (.ref E2)))
    {R0 : Addr}
    (ra0 : PySem.W.nsIn K mainGlobals "ScreenError" = some (some (.ref R0)))
    (rb0 : PySem.W.isClsIn K R0 = true)
    (rc0 : PySem.W.typeIn K (.ref R0) = some (.type "type"))
    (rd0 : PySem.W.subIn K (.ref R0) (.type "BaseException") = some true)
    {R1 : Addr}
    (ra1 : PySem.W.nsIn K mainGlobals "NoItem" = some (some (.ref R1)))
    (rb1 : PySem.W.isClsIn K R1 = true)
    (rc1 : PySem.W.typeIn K (.ref R1) = some (.type "type"))
    {J0 : Addr}
    {xnm0 xq0 : Str} {xN0 : Addr} {xbs0 xbm0 xsub0 : List Value} {xsn0 : List Str} {xab0 : Bool} {xcol0 : Option Bool} {xdd0 : Option Addr} {xm00 xm10 xm20 xm30 xm50 : Option Value}
    (xL0 : K.lookup E0 = some (excClassObj xnm0 xq0 E0 xN0 xbs0 xbm0 true xsn0 xsub0 xab0 xcol0 xdd0 xm00 xm10 xm20 xm30 xm50 "ValueError.__new__"))
    (xr0 : PySem.HandSPX.refsVE xbm0 = true)
    (xs0 : PySem.W.findIn K (.ref E0) "__setattr__" = some (some (.builtin "object.__setattr__")))
    (xg0 : PySem.W.findIn K (.ref E0) "__getattribute__" = some (some (.builtin "BaseException.__getattribute__")))
    (xh0 : PySem.W.findIn K (.ref E0) "__getattr__" = some none)
    (xf0 : PySem.W.findIn K (.ref E0) "part" = some none)
    (xi0 : PySem.W.findIn K (.ref E0) "__init__" = some (some (.ref J0)))
    (xt0 : PySem.W.typeIn K (.ref J0) = some (.type "function"))
    {xoc0 xkV0 xdc0 xpm0 xct0 xccl0 xcl0 : Value} {xod0 xan0 xcdd0 xcld0 : Option Addr} {xsl0 xccs0 xcsl0 : Array (Option Value)} {cda0 cc0 : Addr} {xvs0 : Array Value} {xtf0 : Tok}
    (xl0 : K.lookup J0 = some ⟨xoc0, xod0, .func (PySem.W.ksFn "__init__" "BadForm.__init__" (defArgs s_BadForm_init) (defBody s_BadForm_init) (defScope s_BadForm_init) .none xkV0 xdc0 xpm0 xan0 (.ref cda0) xct0 cc0), xsl0⟩)
    (xd0 : PySem.W.codeIn K (.ref cda0) "BadForm.__init__" = true)
    (xe0 : K.lookup cda0 = some ⟨xccl0, xcdd0, .fields xvs0, xccs0⟩)
    (xv0 : xvs0[2]? = some (.str file xtf0))
    (xc0 : K.lookup cc0 = some ⟨xcl0, xcld0, .cell (some (.ref E0)), xcsl0⟩)
    (xk0 : PySem.W.keepIn K (.ref E0) = true)
    (xb0 : PySem.W.subIn K (.ref E0) (.type "BaseException") = some true)
    (xy0 : PySem.W.typeIn K (.ref E0) = some (.type "type"))
    (xj0 : PySem.W.hasDictIn K E0 = true)
    (xp0 : PySem.W.ks_superIn K E0 E0 "__init__" = some (some (.builtin "ValueError.__init__")))
    (xw0 : PySem.W.subIn K (.ref E0) (.type "ValueError") = some true)
    (xz0 : PySem.W.mroIn K E0 (.ref E0) = some true)
    (xo0 : PySem.W.nsIn K cStatics "thirdparty.any" = some none)
    (xu0 : PySem.W.nsIn K mainGlobals "super" = some none)
    (xca0 : PySem.W.findIn K (.ref E0) "__class__" = some (some (.builtin "object.__class__")))
    (xcb0 : PySem.W.specialIn K (.builtin "object.__class__") "__get__" = some (some (.builtin "getset_descriptor.__get__")))
    (xcc0 : PySem.W.takesIn K (.builtin "object.__class__") = some true)
    (xcd0 : PySem.W.mroIn K E0 (.type "object") = some true)
    (xn0_E1 : PySem.W.subIn K (.ref E0) (.ref E1) = some false)
    (xq0_E1 : (Value.ref E0 == Value.ref E1) = false)
    (xn0_E2 : PySem.W.subIn K (.ref E0) (.ref E2) = some false)
    (xq0_E2 : (Value.ref E0 == Value.ref E2) = false)
    (xn0_R1 : PySem.W.subIn K (.ref E0) (.ref R1) = some false)
    (xq0_R1 : (Value.ref E0 == Value.ref R1) = false)
    (xm0_0 : PySem.W.subIn K (.ref E0) (.ref R0) = some true)
    (xsc0 : PySem.W.isClsIn K E0 = true)
    (xss0 : PySem.W.subIn K (.ref E0) (.ref E0) = some true)
    {J1 : Addr}
    {xnm1 xq1 : Str} {xN1 : Addr} {xbs1 xbm1 xsub1 : List Value} {xsn1 : List Str} {xab1 : Bool} {xcol1 : Option Bool} {xdd1 : Option Addr} {xm01 xm11 xm21 xm31 xm51 : Option Value}
    (xL1 : K.lookup E1 = some (excClassObj xnm1 xq1 E1 xN1 xbs1 xbm1 true xsn1 xsub1 xab1 xcol1 xdd1 xm01 xm11 xm21 xm31 xm51 "ValueError.__new__"))
    (xr1 : PySem.HandSPX.refsVE xbm1 = true)
    (xs1 : PySem.W.findIn K (.ref E1) "__setattr__" = some (some (.builtin "object.__setattr__")))
    (xg1 : PySem.W.findIn K (.ref E1) "__getattribute__" = some (some (.builtin "BaseException.__getattribute__")))
    (xh1 : PySem.W.findIn K (.ref E1) "__getattr__" = some none)
    (xf1 : PySem.W.findIn K (.ref E1) "name" = some none)
    (xi1 : PySem.W.findIn K (.ref E1) "__init__" = some (some (.ref J1)))
    (xt1 : PySem.W.typeIn K (.ref J1) = some (.type "function"))
    {xoc1 xkV1 xdc1 xpm1 xct1 xccl1 xcl1 : Value} {xod1 xan1 xcdd1 xcld1 : Option Addr} {xsl1 xccs1 xcsl1 : Array (Option Value)} {cda1 cc1 : Addr} {xvs1 : Array Value} {xtf1 : Tok}
    (xl1 : K.lookup J1 = some ⟨xoc1, xod1, .func (PySem.W.ksFn "__init__" "NoName.__init__" (defArgs s_NoName_init) (defBody s_NoName_init) (defScope s_NoName_init) .none xkV1 xdc1 xpm1 xan1 (.ref cda1) xct1 cc1), xsl1⟩)
    (xd1 : PySem.W.codeIn K (.ref cda1) "NoName.__init__" = true)
    (xe1 : K.lookup cda1 = some ⟨xccl1, xcdd1, .fields xvs1, xccs1⟩)
    (xv1 : xvs1[2]? = some (.str file xtf1))
    (xc1 : K.lookup cc1 = some ⟨xcl1, xcld1, .cell (some (.ref E1)), xcsl1⟩)
    (xk1 : PySem.W.keepIn K (.ref E1) = true)
    (xb1 : PySem.W.subIn K (.ref E1) (.type "BaseException") = some true)
    (xy1 : PySem.W.typeIn K (.ref E1) = some (.type "type"))
    (xj1 : PySem.W.hasDictIn K E1 = true)
    (xp1 : PySem.W.ks_superIn K E1 E1 "__init__" = some (some (.builtin "ValueError.__init__")))
    (xw1 : PySem.W.subIn K (.ref E1) (.type "ValueError") = some true)
    (xz1 : PySem.W.mroIn K E1 (.ref E1) = some true)
    (xo1 : PySem.W.nsIn K cStatics "thirdparty.any" = some none)
    (xu1 : PySem.W.nsIn K mainGlobals "super" = some none)
    (xca1 : PySem.W.findIn K (.ref E1) "__class__" = some (some (.builtin "object.__class__")))
    (xcb1 : PySem.W.specialIn K (.builtin "object.__class__") "__get__" = some (some (.builtin "getset_descriptor.__get__")))
    (xcc1 : PySem.W.takesIn K (.builtin "object.__class__") = some true)
    (xcd1 : PySem.W.mroIn K E1 (.type "object") = some true)
    (xn1_E0 : PySem.W.subIn K (.ref E1) (.ref E0) = some false)
    (xq1_E0 : (Value.ref E1 == Value.ref E0) = false)
    (xn1_E2 : PySem.W.subIn K (.ref E1) (.ref E2) = some false)
    (xq1_E2 : (Value.ref E1 == Value.ref E2) = false)
    (xn1_R1 : PySem.W.subIn K (.ref E1) (.ref R1) = some false)
    (xq1_R1 : (Value.ref E1 == Value.ref R1) = false)
    (xm1_0 : PySem.W.subIn K (.ref E1) (.ref R0) = some true)
    (xsc1 : PySem.W.isClsIn K E1 = true)
    (xss1 : PySem.W.subIn K (.ref E1) (.ref E1) = some true)
    {J2 : Addr}
    {xnm2 xq2 : Str} {xN2 : Addr} {xbs2 xbm2 xsub2 : List Value} {xsn2 : List Str} {xab2 : Bool} {xcol2 : Option Bool} {xdd2 : Option Addr} {xm02 xm12 xm22 xm32 xm52 : Option Value}
    (xL2 : K.lookup E2 = some (excClassObj xnm2 xq2 E2 xN2 xbs2 xbm2 true xsn2 xsub2 xab2 xcol2 xdd2 xm02 xm12 xm22 xm32 xm52 "ValueError.__new__"))
    (xr2 : PySem.HandSPX.refsVE xbm2 = true)
    (xs2 : PySem.W.findIn K (.ref E2) "__setattr__" = some (some (.builtin "object.__setattr__")))
    (xg2 : PySem.W.findIn K (.ref E2) "__getattribute__" = some (some (.builtin "BaseException.__getattribute__")))
    (xh2 : PySem.W.findIn K (.ref E2) "__getattr__" = some none)
    (xf2 : PySem.W.findIn K (.ref E2) "row" = some none)
    (xi2 : PySem.W.findIn K (.ref E2) "__init__" = some (some (.ref J2)))
    (xt2 : PySem.W.typeIn K (.ref J2) = some (.type "function"))
    {xoc2 xkV2 xdc2 xpm2 xct2 xccl2 xcl2 : Value} {xod2 xan2 xcdd2 xcld2 : Option Addr} {xsl2 xccs2 xcsl2 : Array (Option Value)} {cda2 cc2 : Addr} {xvs2 : Array Value} {xtf2 : Tok}
    (xl2 : K.lookup J2 = some ⟨xoc2, xod2, .func (PySem.W.ksFn "__init__" "BadRow.__init__" (defArgs s_BadRow_init) (defBody s_BadRow_init) (defScope s_BadRow_init) .none xkV2 xdc2 xpm2 xan2 (.ref cda2) xct2 cc2), xsl2⟩)
    (xd2 : PySem.W.codeIn K (.ref cda2) "BadRow.__init__" = true)
    (xe2 : K.lookup cda2 = some ⟨xccl2, xcdd2, .fields xvs2, xccs2⟩)
    (xv2 : xvs2[2]? = some (.str file xtf2))
    (xc2 : K.lookup cc2 = some ⟨xcl2, xcld2, .cell (some (.ref E2)), xcsl2⟩)
    (xk2 : PySem.W.keepIn K (.ref E2) = true)
    (xb2 : PySem.W.subIn K (.ref E2) (.type "BaseException") = some true)
    (xy2 : PySem.W.typeIn K (.ref E2) = some (.type "type"))
    (xj2 : PySem.W.hasDictIn K E2 = true)
    (xp2 : PySem.W.ks_superIn K E2 E2 "__init__" = some (some (.builtin "ValueError.__init__")))
    (xw2 : PySem.W.subIn K (.ref E2) (.type "ValueError") = some true)
    (xz2 : PySem.W.mroIn K E2 (.ref E2) = some true)
    (xo2 : PySem.W.nsIn K cStatics "thirdparty.any" = some none)
    (xu2 : PySem.W.nsIn K mainGlobals "super" = some none)
    (xca2 : PySem.W.findIn K (.ref E2) "__class__" = some (some (.builtin "object.__class__")))
    (xcb2 : PySem.W.specialIn K (.builtin "object.__class__") "__get__" = some (some (.builtin "getset_descriptor.__get__")))
    (xcc2 : PySem.W.takesIn K (.builtin "object.__class__") = some true)
    (xcd2 : PySem.W.mroIn K E2 (.type "object") = some true)
    (xn2_E0 : PySem.W.subIn K (.ref E2) (.ref E0) = some false)
    (xq2_E0 : (Value.ref E2 == Value.ref E0) = false)
    (xn2_E1 : PySem.W.subIn K (.ref E2) (.ref E1) = some false)
    (xq2_E1 : (Value.ref E2 == Value.ref E1) = false)
    (xn2_R1 : PySem.W.subIn K (.ref E2) (.ref R1) = some false)
    (xq2_R1 : (Value.ref E2 == Value.ref R1) = false)
    (xm2_0 : PySem.W.subIn K (.ref E2) (.ref R0) = some true)
    (xsc2 : PySem.W.isClsIn K E2 = true)
    (xss2 : PySem.W.subIn K (.ref E2) (.ref E2) = some true)
    : ∃ T : Top K mg W, T.a_law = f40 ∧ T.x_file = file ∧ ∀ (s : Shared) (v : Value), BindsTo s T.d_law ⟨[v], []⟩ [("_law_script", v)] := by
  have F0 := fun_mk (st := s_is_name) l0 c0 k0
  have F1 := fun_mk (st := s_is_number) l1 c1 k1
  have F2 := fun_mk (st := s_is_part) l2 c2 k2
  have F3 := fun_mk (st := s_check_form) l3 c3 k3
  have F4 := fun_mk (st := s_value_of) l4 c4 k4
  have F5 := fun_mk (st := s_names_of) l5 c5 k5
  have F6 := fun_mk (st := s_check_row) l6 c6 k6
  have F7 := fun_mk (st := s_idents_of) l7 c7 k7
  have F8 := fun_mk (st := s_at_most) l8 c8 k8
  have F9 := fun_mk (st := s_Key_init) l9 c9 k9
  have F10 := fun_mk (st := s_Key_parts) l10 c10 k10
  have F11 := fun_mk (st := s_Key_call) l11 c11 k11
  have F12 := fun_mk (st := s_Key_le) l12 c12 k12
  have F13 := fun_mk (st := s_Key_idents) l13 c13 k13
  have F14 := fun_mk (st := s_matched) l14 c14 k14
  have F15 := fun_mk (st := s_slips) l15 c15 k15
  have F16 := fun_mk (st := s_losses) l16 c16 k16
  have F17 := fun_mk (st := s_goes_wrong) l17 c17 k17
  have F18 := fun_mk (st := s_first_going_wrong) l18 c18 k18
  have F19 := fun_mk (st := s_faithful) l19 c19 k19
  have F20 := fun_mk (st := s_coarsest) l20 c20 k20
  have F21 := fun_mk (st := s_mixed) l21 c21 k21
  have F22 := fun_mk (st := s_bag) l22 c22 k22
  have F23 := fun_mk (st := s_pick) l23 c23 k23
  have F24 := fun_mk (st := s_choice) l24 c24 k24
  have F25 := fun_mk (st := s_mingled) l25 c25 k25
  have F26 := fun_mk (st := s_form) l26 c26 k26
  have F27 := fun_mk (st := s_row) l27 c27 k27
  have F28 := fun_mk (st := s_new_name) l28 c28 k28
  have F29 := fun_mk (st := s_read) l29 c29 k29
  have F30 := fun_mk (st := s_any_key) l30 c30 k30
  have F31 := fun_mk (st := s_odd_part) l31 c31 k31
  have F32 := fun_mk (st := s_spoilt) l32 c32 k32
  have F33 := fun_mk (st := s_tower) l33 c33 k33
  have F34 := fun_mk (st := s_key_told) l34 c34 k34
  have F35 := fun_mk (st := s_forms_refused) l35 c35 k35
  have F36 := fun_mk (st := s_some_row) l36 c36 k36
  have F37 := fun_mk (st := s_bad_row) l37 c37 k37
  have F38 := fun_mk (st := s_called) l38 c38 k38
  have F39 := fun_mk (st := s_row_told) l39 c39 k39
  have F40 := fun_mk (st := s_law) l40 c40 k40
  exact ⟨⟨PySem.W.mg_none_of X G z0,
    PySem.W.mg_none_of X G z1,
    PySem.W.mg_none_of X G z2,
    PySem.W.mg_none_of X G z3,
    PySem.W.mg_none_of X G z4,
    PySem.W.mg_none_of X G z5,
    PySem.W.mg_none_of X G z6,
    PySem.W.mg_none_of X G z7,
    PySem.W.mg_none_of X G z8,
    PySem.W.mg_none_of X G z9,
    PySem.W.mg_none_of X G z10,
    PySem.W.mg_none_of X G z11,
    PySem.W.mg_none_of X G z12,
    PySem.W.mg_none_of X G z13,
    (by obtain ⟨t, e⟩ := x0; exact ⟨t, e ▸ PySem.W.mg_of X G y0⟩),
    (by obtain ⟨t, e⟩ := x1; exact ⟨t, e ▸ PySem.W.mg_of X G y1⟩),
    (by obtain ⟨t, e⟩ := x2; exact ⟨t, e ▸ PySem.W.mg_of X G y2⟩),
    f0,
    _,
    F0,
    F0.binds (ps := ["thing"]) (fun _ _ _ _ _ _ us hl => match us, hl with | [_], _ => rfl),
    PySem.W.mg_of X G a0,
    f1,
    _,
    F1,
    F1.binds (ps := ["thing", "low", "high"]) (fun _ _ _ _ _ _ us hl => match us, hl with | [_, _, _], _ => rfl),
    PySem.W.mg_of X G a1,
    f2,
    _,
    F2,
    F2.binds (ps := ["part"]) (fun _ _ _ _ _ _ us hl => match us, hl with | [_], _ => rfl),
    PySem.W.mg_of X G a2,
    f3,
    _,
    F3,
    F3.binds (ps := ["parts"]) (fun _ _ _ _ _ _ us hl => match us, hl with | [_], _ => rfl),
    PySem.W.mg_of X G a3,
    f4,
    _,
    F4,
    F4.binds (ps := ["parts", "values"]) (fun _ _ _ _ _ _ us hl => match us, hl with | [_, _], _ => rfl),
    PySem.W.mg_of X G a4,
    f5,
    _,
    F5,
    F5.binds (ps := ["parts"]) (fun _ _ _ _ _ _ us hl => match us, hl with | [_], _ => rfl),
    PySem.W.mg_of X G a5,
    f6,
    _,
    F6,
    F6.binds (ps := ["row"]) (fun _ _ _ _ _ _ us hl => match us, hl with | [_], _ => rfl),
    PySem.W.mg_of X G a6,
    f7,
    _,
    F7,
    F7.binds (ps := ["parts", "row"]) (fun _ _ _ _ _ _ us hl => match us, hl with | [_, _], _ => rfl),
    PySem.W.mg_of X G a7,
    f8,
    _,
    F8,
    F8.binds (ps := ["first", "second"]) (fun _ _ _ _ _ _ us hl => match us, hl with | [_, _], _ => rfl),
    PySem.W.mg_of X G a8,
    f9,
    _,
    F9,
    F9.binds (ps := ["self", "form"]) (fun _ _ _ _ _ _ us hl => match us, hl with | [_, _], _ => rfl),
    f10,
    _,
    F10,
    F10.binds (ps := ["self"]) (fun _ _ _ _ _ _ us hl => match us, hl with | [_], _ => rfl),
    f11,
    _,
    F11,
    F11.binds (ps := ["self", "item", "at"]) (fun _ _ _ _ _ _ us hl => match us, hl with | [_, _, _], _ => rfl),
    f12,
    _,
    F12,
    F12.binds (ps := ["self", "other"]) (fun _ _ _ _ _ _ us hl => match us, hl with | [_, _], _ => rfl),
    f13,
    _,
    F13,
    F13.binds (ps := ["self", "row"]) (fun _ _ _ _ _ _ us hl => match us, hl with | [_, _], _ => rfl),
    f14,
    _,
    F14,
    F14.binds (ps := ["key", "old", "new"]) (fun _ _ _ _ _ _ us hl => match us, hl with | [_, _, _], _ => rfl),
    PySem.W.mg_of X G a14,
    f15,
    _,
    F15,
    F15.binds (ps := ["key", "old", "new"]) (fun _ _ _ _ _ _ us hl => match us, hl with | [_, _, _], _ => rfl),
    PySem.W.mg_of X G a15,
    f16,
    _,
    F16,
    F16.binds (ps := ["key", "old", "new"]) (fun _ _ _ _ _ _ us hl => match us, hl with | [_, _, _], _ => rfl),
    PySem.W.mg_of X G a16,
    f17,
    _,
    F17,
    F17.binds (ps := ["old", "before", "new", "behind"]) (fun _ _ _ _ _ _ us hl => match us, hl with | [_, _, _, _], _ => rfl),
    PySem.W.mg_of X G a17,
    f18,
    _,
    F18,
    F18.binds (ps := ["olds", "news"]) (fun _ _ _ _ _ _ us hl => match us, hl with | [_, _], _ => rfl),
    PySem.W.mg_of X G a18,
    f19,
    _,
    F19,
    F19.binds (ps := ["key", "menu"]) (fun _ _ _ _ _ _ us hl => match us, hl with | [_, _], _ => rfl),
    PySem.W.mg_of X G a19,
    f20,
    _,
    F20,
    F20.binds (ps := ["keys", "menu"]) (fun _ _ _ _ _ _ us hl => match us, hl with | [_, _], _ => rfl),
    PySem.W.mg_of X G a20,
    f21,
    _,
    F21,
    F21.binds (ps := ["_law_number", "_law_turn"]) (fun _ _ _ _ _ _ us hl => match us, hl with | [_, _], _ => rfl),
    PySem.W.mg_of X G a21,
    f22,
    _,
    F22,
    F22.binds (ps := ["_law_script"]) (fun _ _ _ _ _ _ us hl => match us, hl with | [_], _ => rfl),
    PySem.W.mg_of X G a22,
    f23,
    _,
    F23,
    F23.binds (ps := ["_law_bag_here", "_law_many"]) (fun _ _ _ _ _ _ us hl => match us, hl with | [_, _], _ => rfl),
    PySem.W.mg_of X G a23,
    f24,
    _,
    F24,
    F24.binds (ps := ["_law_bag_here", "_law_things"]) (fun _ _ _ _ _ _ us hl => match us, hl with | [_, _], _ => rfl),
    PySem.W.mg_of X G a24,
    f25,
    _,
    F25,
    F25.binds (ps := ["_law_bag_here", "_law_things"]) (fun _ _ _ _ _ _ us hl => match us, hl with | [_, _], _ => rfl),
    PySem.W.mg_of X G a25,
    f26,
    _,
    F26,
    F26.binds (ps := ["_law_bag_here", "_law_readable", "_law_levels"]) (fun _ _ _ _ _ _ us hl => match us, hl with | [_, _, _], _ => rfl),
    PySem.W.mg_of X G a26,
    f27,
    _,
    F27,
    F27.binds (ps := ["_law_bag_here", "_law_most"]) (fun _ _ _ _ _ _ us hl => match us, hl with | [_, _], _ => rfl),
    PySem.W.mg_of X G a27,
    f28,
    _,
    F28,
    F28.binds (ps := ["_law_bag_here", "_law_used"]) (fun _ _ _ _ _ _ us hl => match us, hl with | [_, _], _ => rfl),
    PySem.W.mg_of X G a28,
    f29,
    _,
    F29,
    F29.binds (ps := ["_law_form_here"]) (fun _ _ _ _ _ _ us hl => match us, hl with | [_], _ => rfl),
    PySem.W.mg_of X G a29,
    f30,
    _,
    F30,
    F30.binds (ps := ["_law_bag_here"]) (fun _ _ _ _ _ _ us hl => match us, hl with | [_], _ => rfl),
    PySem.W.mg_of X G a30,
    f31,
    _,
    F31,
    F31.binds (ps := ["_law_bag_here", "_law_good"]) (fun _ _ _ _ _ _ us hl => match us, hl with | [_, _], _ => rfl),
    PySem.W.mg_of X G a31,
    f32,
    _,
    F32,
    F32.binds (ps := ["_law_bag_here", "_law_form_here", "_law_odd"]) (fun _ _ _ _ _ _ us hl => match us, hl with | [_, _, _], _ => rfl),
    PySem.W.mg_of X G a32,
    f33,
    _,
    F33,
    F33.binds (ps := ["_law_bag_here", "_law_levels", "_law_readable"]) (fun _ _ _ _ _ _ us hl => match us, hl with | [_, _, _], _ => rfl),
    PySem.W.mg_of X G a33,
    f34,
    _,
    F34,
    F34.binds (ps := ["_law_form_here"]) (fun _ _ _ _ _ _ us hl => match us, hl with | [_], _ => rfl),
    PySem.W.mg_of X G a34,
    f35,
    _,
    F35,
    F35.binds (ps := ["_law_bag_here"]) (fun _ _ _ _ _ _ us hl => match us, hl with | [_], _ => rfl),
    PySem.W.mg_of X G a35,
    f36,
    _,
    F36,
    F36.binds (ps := ["_law_bag_here"]) (fun _ _ _ _ _ _ us hl => match us, hl with | [_], _ => rfl),
    PySem.W.mg_of X G a36,
    f37,
    _,
    F37,
    F37.binds (ps := ["_law_bag_here", "_law_row_here"]) (fun _ _ _ _ _ _ us hl => match us, hl with | [_, _], _ => rfl),
    PySem.W.mg_of X G a37,
    f38,
    _,
    F38,
    F38.binds (ps := ["_law_which", "_law_key", "_law_many", "_law_rows"]) (fun _ _ _ _ _ _ us hl => match us, hl with | [_, _, _, _], _ => rfl),
    PySem.W.mg_of X G a38,
    f39,
    _,
    F39,
    F39.binds (ps := ["_law_which", "_law_key", "_law_many", "_law_rows"]) (fun _ _ _ _ _ _ us hl => match us, hl with | [_, _, _, _], _ => rfl),
    PySem.W.mg_of X G a39,
    f40,
    _,
    F40,
    F40.binds (ps := ["_law_script"]) (fun _ _ _ _ _ _ us hl => match us, hl with | [_], _ => rfl),
    PySem.W.mg_of X G a40,
    D0,
    de0,
    dn0,
    PySem.W.mg_of X G da0,
    dl0,
    dk0,
    dw0,
    ⟨_, dv0_0⟩,
    ⟨_, dv0_1⟩,
    ⟨_, dv0_2⟩,
    ⟨_, dv0_3⟩,
    ⟨_, dv0_4⟩,
    ⟨_, _, _, _, _, dm0⟩,
    C0,
    PySem.W.mg_of X G ca0,
    ⟨cg0, ch0, co0, cs0⟩,
    cf0_0,
    ⟨cm0, a9, i9, ck0⟩,
    ⟨a11, i11, fi11⟩,
    ⟨a12, i12⟩,
    ⟨a13, i13, k13⟩,
    p10,
    ⟨a10, pg10, pt10, ⟨_, pc10⟩⟩,
    ⟨ct0_a, ct0_b, ct0_c, ct0_d, if_pos (beq_self_eq_true _)⟩,
    file,
    R0,
    PySem.W.mg_of X G ra0,
    R1,
    PySem.W.mg_of X G ra1,
    E0,
    J0,
    PySem.W.mg_of X G xa0,
    fun P pf => { gC := PySem.W.mg_of X G xa0, cls := ⟨_, _, _, _, _, _, _, _, _, _, _, _, _, _, _, xL0, xr0⟩, sa := xs0, ga := xg0, gg := xh0, noN := xf0, iC := xi0, tC := xt0, kC := xk0, exC := xb0, tyC := xy0, hdC := xj0, fn := ⟨_, _, _, _, _, _, _, _, _, _, _, ⟨6, 17, 6, 21⟩, ⟨6, 23, 6, 27⟩, ⟨⟨7, 8, 7, 13⟩, ⟨7, 8, 7, 15⟩, ⟨7, 8, 7, 24⟩, ⟨7, 27, 7, 39⟩, ⟨7, 40, 7, 44⟩, ⟨7, 39, 7, 47⟩, ⟨7, 25, 7, 48⟩, ⟨7, 8, 7, 49⟩, ⟨7, 8, 7, 49⟩, ⟨8, 8, 8, 12⟩, ⟨8, 8, 8, 17⟩, ⟨8, 20, 8, 24⟩, ⟨8, 8, 8, 24⟩, 114, .inl rfl⟩, _, _, _, _, _, _, _, _, _, xl0, xd0, xe0, xv0, pf.1, xc0, ⟨_, fun _ => rfl⟩, fun _ _ => rfl⟩, sup := xp0, subV := xw0, mroS := xz0, opq := xo0, htop := pf.2, hsup := PySem.W.mg_none_of X G xu0, f1 := by decide, f2 := by decide, f3 := by decide, f4 := by decide, ml := by decide +kernel },
    ⟨_, xl0, rfl⟩,
    ⟨xg0, xh0, xb0, xj0, xca0, xcb0, xcc0, xcd0⟩,
    ⟨xg0, xh0, xb0, xj0⟩,
    kit_of xq0_R1 rb1 rc1 xn0_R1,
    kit_ty_of (by decide +kernel) xw0,
    exm_of rd0 rb0 rc0 xm0_0,
    exm_of xb0 xsc0 xy0 xss0,
    E1,
    J1,
    PySem.W.mg_of X G xa1,
    fun P pf => { gC := PySem.W.mg_of X G xa1, cls := ⟨_, _, _, _, _, _, _, _, _, _, _, _, _, _, _, xL1, xr1⟩, sa := xs1, ga := xg1, gg := xh1, noN := xf1, iC := xi1, tC := xt1, kC := xk1, exC := xb1, tyC := xy1, hdC := xj1, fn := ⟨_, _, _, _, _, _, _, _, _, _, _, ⟨11, 17, 11, 21⟩, ⟨11, 23, 11, 27⟩, ⟨⟨12, 8, 12, 13⟩, ⟨12, 8, 12, 15⟩, ⟨12, 8, 12, 24⟩, ⟨12, 27, 12, 41⟩, ⟨12, 42, 12, 46⟩, ⟨12, 41, 12, 49⟩, ⟨12, 25, 12, 50⟩, ⟨12, 8, 12, 51⟩, ⟨12, 8, 12, 51⟩, ⟨13, 8, 13, 12⟩, ⟨13, 8, 13, 17⟩, ⟨13, 20, 13, 24⟩, ⟨13, 8, 13, 24⟩, 114, .inl rfl⟩, _, _, _, _, _, _, _, _, _, xl1, xd1, xe1, xv1, pf.1, xc1, ⟨_, fun _ => rfl⟩, fun _ _ => rfl⟩, sup := xp1, subV := xw1, mroS := xz1, opq := xo1, htop := pf.2, hsup := PySem.W.mg_none_of X G xu1, f1 := by decide, f2 := by decide, f3 := by decide, f4 := by decide, ml := by decide +kernel },
    ⟨xg1, xh1, xb1, xj1, xca1, xcb1, xcc1, xcd1⟩,
    ⟨xg1, xh1, xb1, xj1⟩,
    kit_of xq1_R1 rb1 rc1 xn1_R1,
    kit_ty_of (by decide +kernel) xw1,
    exm_of rd0 rb0 rc0 xm1_0,
    exm_of xb1 xsc1 xy1 xss1,
    E2,
    J2,
    PySem.W.mg_of X G xa2,
    fun P pf => { gC := PySem.W.mg_of X G xa2, cls := ⟨_, _, _, _, _, _, _, _, _, _, _, _, _, _, _, xL2, xr2⟩, sa := xs2, ga := xg2, gg := xh2, noN := xf2, iC := xi2, tC := xt2, kC := xk2, exC := xb2, tyC := xy2, hdC := xj2, fn := ⟨_, _, _, _, _, _, _, _, _, _, _, ⟨16, 17, 16, 21⟩, ⟨16, 23, 16, 26⟩, ⟨⟨17, 8, 17, 13⟩, ⟨17, 8, 17, 15⟩, ⟨17, 8, 17, 24⟩, ⟨17, 27, 17, 38⟩, ⟨17, 39, 17, 42⟩, ⟨17, 38, 17, 45⟩, ⟨17, 25, 17, 46⟩, ⟨17, 8, 17, 47⟩, ⟨17, 8, 17, 47⟩, ⟨18, 8, 18, 12⟩, ⟨18, 8, 18, 16⟩, ⟨18, 19, 18, 22⟩, ⟨18, 8, 18, 22⟩, 114, .inl rfl⟩, _, _, _, _, _, _, _, _, _, xl2, xd2, xe2, xv2, pf.1, xc2, ⟨_, fun _ => rfl⟩, fun _ _ => rfl⟩, sup := xp2, subV := xw2, mroS := xz2, opq := xo2, htop := pf.2, hsup := PySem.W.mg_none_of X G xu2, f1 := by decide, f2 := by decide, f3 := by decide, f4 := by decide, ml := by decide +kernel },
    ⟨_, xl2, rfl⟩,
    ⟨xg2, xh2, xb2, xj2, xca2, xcb2, xcc2, xcd2⟩,
    ⟨xg2, xh2, xb2, xj2⟩,
    kit_of xq2_R1 rb1 rc1 xn2_R1,
    kit_ty_of (by decide +kernel) xw2,
    exm_of rd0 rb0 rc0 xm2_0,
    exm_of xb2 xsc2 xy2 xss2,
    kit_of xq0_E1 xsc1 xy1 xn0_E1,
    kit_of xq0_E2 xsc2 xy2 xn0_E2,
    kit_of xq1_E0 xsc0 xy0 xn1_E0,
    kit_of xq1_E2 xsc2 xy2 xn1_E2,
    kit_of xq2_E0 xsc0 xy0 xn2_E0,
    kit_of xq2_E1 xsc1 xy1 xn2_E1⟩, rfl, rfl, fun s v => .of_eq rfl⟩
end K25
set_option Elab.async false
set_option linter.all false
set_option maxRecDepth 100000
set_option maxHeartbeats 4000000
namespace K25
open PySem PySem.Spec PyProof.Rows L2 XL
end K25
open PySem PySem.W PyProof.Rows
set_option maxHeartbeats 0 in
theorem PySem.Challenge.cw_drawnanew_k25_row_refusals_holds : PySem.Challenge.rw_drawnanew_k25_row_refusals.Holds := by
  w_on; o_law; k_head; (case hw => w_witness2)
  k_fill
  refine XL.walk_ofG (l := PySem.Challenge.rw_drawnanew_k25_row_refusals) (n := 63) (k := 22) (x := "_law_script") (CX := fun _ => L2.CX0) (sp := fun w => K25.spLaw _) rfl (by decide) rfl ⟨rfl, by decide, by decide⟩ (fun w h Y => PySem.W.kIn_of Y) ?F (fun _ _ a ns hl _ hS => ⟨a, ns, rfl, hS, hl, fun _ => rfl⟩) (fun _ _ _ _ _ h => h)
  case F =>
    intro w mg fa h KX G hmg
    refine' K25.law_end KX G hmg (K25.top_mk (W := w) KX G ?ca0 ?a0 ?l0 ?c0 ?k0 ?a1 ?l1 ?c1 ?k1 ?a2 ?l2 ?c2 ?k2 ?a3 ?l3 ?c3 ?k3 ?a4 ?l4 ?c4 ?k4 ?a5 ?l5 ?c5 ?k5 ?a6 ?l6 ?c6 ?k6 ?a7 ?l7 ?c7 ?k7 ?a8 ?l8 ?c8 ?k8 ?a9 ?i9 ?l9 ?c9 ?k9 ?a10 ?pg10 ?pt10 ?pc10 ?l10 ?c10 ?k10 ?a11 ?i11 ?fi11 ?l11 ?c11 ?k11 ?a12 ?i12 ?l12 ?c12 ?k12 ?a13 ?i13 ?l13 ?c13 ?k13 ?a14 ?l14 ?c14 ?k14 ?a15 ?l15 ?c15 ?k15 ?a16 ?l16 ?c16 ?k16 ?a17 ?l17 ?c17 ?k17 ?a18 ?l18 ?c18 ?k18 ?a19 ?l19 ?c19 ?k19 ?a20 ?l20 ?c20 ?k20 ?a21 ?l21 ?c21 ?k21 ?a22 ?l22 ?c22 ?k22 ?a23 ?l23 ?c23 ?k23 ?a24 ?l24 ?c24 ?k24 ?a25 ?l25 ?c25 ?k25 ?a26 ?l26 ?c26 ?k26 ?a27 ?l27 ?c27 ?k27 ?a28 ?l28 ?c28 ?k28 ?a29 ?l29 ?c29 ?k29 ?a30 ?l30 ?c30 ?k30 ?a31 ?l31 ?c31 ?k31 ?a32 ?l32 ?c32 ?k32 ?a33 ?l33 ?c33 ?k33 ?a34 ?l34 ?c34 ?k34 ?a35 ?l35 ?c35 ?k35 ?a36 ?l36 ?c36 ?k36 ?a37 ?l37 ?c37 ?k37 ?a38 ?l38 ?c38 ?k38 ?a39 ?l39 ?c39 ?k39 ?a40 ?l40 ?c40 ?k40 ?z0 ?z1 ?z2 ?z3 ?z4 ?z5 ?z6 ?z7 ?z8 ?z9 ?z10 ?z11 ?z12 ?z13 ?y0 ?x0 ?y1 ?x1 ?y2 ?x2 ?da0 ?dl0 ?dk0 ?dw0 ?dv0_0 ?dv0_1 ?dv0_2 ?dv0_3 ?dv0_4 ?dm0 ?cg0 ?ch0 ?co0 ?cs0 ?cf0_0 ?cm0 ?ck0 ?ct0_a ?ct0_b ?ct0_c ?ct0_d ?xa0 ?xa1 ?xa2 ?ra0 ?rb0 ?rc0 ?rd0 ?ra1 ?rb1 ?rc1 ?xL0 ?xr0 ?xs0 ?xg0 ?xh0 ?xf0 ?xi0 ?xt0 ?xl0 ?xd0 ?xe0 ?xv0 ?xc0 ?xk0 ?xb0 ?xy0 ?xj0 ?xp0 ?xw0 ?xz0 ?xo0 ?xu0 ?xca0 ?xcb0 ?xcc0 ?xcd0 ?xn0_E1 ?xq0_E1 ?xn0_E2 ?xq0_E2 ?xn0_R1 ?xq0_R1 ?xm0_0 ?xsc0 ?xss0 ?xL1 ?xr1 ?xs1 ?xg1 ?xh1 ?xf1 ?xi1 ?xt1 ?xl1 ?xd1 ?xe1 ?xv1 ?xc1 ?xk1 ?xb1 ?xy1 ?xj1 ?xp1 ?xw1 ?xz1 ?xo1 ?xu1 ?xca1 ?xcb1 ?xcc1 ?xcd1 ?xn1_E0 ?xq1_E0 ?xn1_E2 ?xq1_E2 ?xn1_R1 ?xq1_R1 ?xm1_0 ?xsc1 ?xss1 ?xL2 ?xr2 ?xs2 ?xg2 ?xh2 ?xf2 ?xi2 ?xt2 ?xl2 ?xd2 ?xe2 ?xv2 ?xc2 ?xk2 ?xb2 ?xy2 ?xj2 ?xp2 ?xw2 ?xz2 ?xo2 ?xu2 ?xca2 ?xcb2 ?xcc2 ?xcd2 ?xn2_E0 ?xq2_E0 ?xn2_E1 ?xq2_E1 ?xn2_R1 ?xq2_R1 ?xm2_0 ?xsc2 ?xss2) ?pf
    (case ca0 => k_is)
    (case a0 => k_is)
    (case l0 => k_is)
    (case c0 => k_is)
    (case k0 => k_is)
    (case a1 => k_is)
    (case l1 => k_is)
    (case c1 => k_is)
    (case k1 => k_is)
    (case a2 => k_is)
    (case l2 => k_is)
    (case c2 => k_is)
    (case k2 => k_is)
    (case a3 => k_is)
    (case l3 => k_is)
    (case c3 => k_is)
    (case k3 => k_is)
    (case a4 => k_is)
    (case l4 => k_is)
    (case c4 => k_is)
    (case k4 => k_is)
    (case a5 => k_is)
    (case l5 => k_is)
    (case c5 => k_is)
    (case k5 => k_is)
    (case a6 => k_is)
    (case l6 => k_is)
    (case c6 => k_is)
    (case k6 => k_is)
    (case a7 => k_is)
    (case l7 => k_is)
    (case c7 => k_is)
    (case k7 => k_is)
    (case a8 => k_is)
    (case l8 => k_is)
    (case c8 => k_is)
    (case k8 => k_is)
    (case a9 => k_is)
    (case i9 => k_is)
    (case l9 => k_is)
    (case c9 => k_is)
    (case k9 => k_is)
    (case a10 => k_is)
    (case pg10 => k_is)
    (case pt10 => k_is)
    (case pc10 => k_is)
    (case l10 => k_is)
    (case c10 => k_is)
    (case k10 => k_is)
    (case a11 => k_is)
    (case i11 => k_is)
    (case fi11 => k_is)
    (case l11 => k_is)
    (case c11 => k_is)
    (case k11 => k_is)
    (case a12 => k_is)
    (case i12 => k_is)
    (case l12 => k_is)
    (case c12 => k_is)
    (case k12 => k_is)
    (case a13 => k_is)
    (case i13 => k_is)
    (case l13 => k_is)
    (case c13 => k_is)
    (case k13 => k_is)
    (case a14 => k_is)
    (case l14 => k_is)
    (case c14 => k_is)
    (case k14 => k_is)
    (case a15 => k_is)
    (case l15 => k_is)
    (case c15 => k_is)
    (case k15 => k_is)
    (case a16 => k_is)
    (case l16 => k_is)
    (case c16 => k_is)
    (case k16 => k_is)
    (case a17 => k_is)
    (case l17 => k_is)
    (case c17 => k_is)
    (case k17 => k_is)
    (case a18 => k_is)
    (case l18 => k_is)
    (case c18 => k_is)
    (case k18 => k_is)
    (case a19 => k_is)
    (case l19 => k_is)
    (case c19 => k_is)
    (case k19 => k_is)
    (case a20 => k_is)
    (case l20 => k_is)
    (case c20 => k_is)
    (case k20 => k_is)
    (case a21 => k_is)
    (case l21 => k_is)
    (case c21 => k_is)
    (case k21 => k_is)
    (case a22 => k_is)
    (case l22 => k_is)
    (case c22 => k_is)
    (case k22 => k_is)
    (case a23 => k_is)
    (case l23 => k_is)
    (case c23 => k_is)
    (case k23 => k_is)
    (case a24 => k_is)
    (case l24 => k_is)
    (case c24 => k_is)
    (case k24 => k_is)
    (case a25 => k_is)
    (case l25 => k_is)
    (case c25 => k_is)
    (case k25 => k_is)
    (case a26 => k_is)
    (case l26 => k_is)
    (case c26 => k_is)
    (case k26 => k_is)
    (case a27 => k_is)
    (case l27 => k_is)
    (case c27 => k_is)
    (case k27 => k_is)
    (case a28 => k_is)
    (case l28 => k_is)
    (case c28 => k_is)
    (case k28 => k_is)
    (case a29 => k_is)
    (case l29 => k_is)
    (case c29 => k_is)
    (case k29 => k_is)
    (case a30 => k_is)
    (case l30 => k_is)
    (case c30 => k_is)
    (case k30 => k_is)
    (case a31 => k_is)
    (case l31 => k_is)
    (case c31 => k_is)
    (case k31 => k_is)
    (case a32 => k_is)
    (case l32 => k_is)
    (case c32 => k_is)
    (case k32 => k_is)
    (case a33 => k_is)
    (case l33 => k_is)
    (case c33 => k_is)
    (case k33 => k_is)
    (case a34 => k_is)
    (case l34 => k_is)
    (case c34 => k_is)
    (case k34 => k_is)
    (case a35 => k_is)
    (case l35 => k_is)
    (case c35 => k_is)
    (case k35 => k_is)
    (case a36 => k_is)
    (case l36 => k_is)
    (case c36 => k_is)
    (case k36 => k_is)
    (case a37 => k_is)
    (case l37 => k_is)
    (case c37 => k_is)
    (case k37 => k_is)
    (case a38 => k_is)
    (case l38 => k_is)
    (case c38 => k_is)
    (case k38 => k_is)
    (case a39 => k_is)
    (case l39 => k_is)
    (case c39 => k_is)
    (case k39 => k_is)
    (case a40 => k_is)
    (case l40 => k_is)
    (case c40 => k_is)
    (case k40 => k_is)
    (case z0 => k_is)
    (case z1 => k_is)
    (case z2 => k_is)
    (case z3 => k_is)
    (case z4 => k_is)
    (case z5 => k_is)
    (case z6 => k_is)
    (case z7 => k_is)
    (case z8 => k_is)
    (case z9 => k_is)
    (case z10 => k_is)
    (case z11 => k_is)
    (case z12 => k_is)
    (case z13 => k_is)
    (case y0 => k_is)
    (case x0 => exact ⟨_, rfl⟩)
    (case y1 => k_is)
    (case x1 => exact ⟨_, rfl⟩)
    (case y2 => k_is)
    (case x2 => exact ⟨_, rfl⟩)
    (case da0 => k_is)
    (case dl0 => k_is)
    (case dk0 => k_keys)
    (case dw0 => rfl)
    (case dv0_0 => k_is)
    (case dv0_1 => k_is)
    (case dv0_2 => k_is)
    (case dv0_3 => k_is)
    (case dv0_4 => k_is)
    (case dm0 => rfl)
    (case cg0 => k_is)
    (case ch0 => k_is)
    (case co0 => k_is)
    (case cs0 => k_is)
    (case cf0_0 => k_is)
    (case cm0 => k_is)
    (case ck0 => k_is)
    (case ct0_a => k_is)
    (case ct0_b => k_is)
    (case ct0_c => k_is)
    (case ct0_d => k_is)
    (case xa0 => k_is)
    (case xa1 => k_is)
    (case xa2 => k_is)
    (case ra0 => k_is)
    (case rb0 => k_is)
    (case rc0 => k_is)
    (case rd0 => k_is)
    (case ra1 => k_is)
    (case rb1 => k_is)
    (case rc1 => k_is)
    (case xL0 => k_is)
    (case xr0 => first | rfl | decide +kernel)
    (case xs0 => k_is)
    (case xg0 => k_is)
    (case xh0 => k_is)
    (case xf0 => k_is)
    (case xi0 => k_is)
    (case xt0 => k_is)
    (case xl0 => k_is)
    (case xd0 => k_is)
    (case xe0 => k_is)
    (case xv0 => rfl)
    (case xc0 => k_is)
    (case xk0 => k_is)
    (case xb0 => k_is)
    (case xy0 => k_is)
    (case xj0 => k_is)
    (case xp0 => ks_is)
    (case xw0 => k_is)
    (case xz0 => k_is)
    (case xo0 => k_is)
    (case xu0 => k_is)
    (case xca0 => k_is)
    (case xcb0 => k_is)
    (case xcc0 => k_is)
    (case xcd0 => k_is)
    (case xn0_E1 => k_is)
    (case xq0_E1 => rfl)
    (case xn0_E2 => k_is)
    (case xq0_E2 => rfl)
    (case xn0_R1 => k_is)
    (case xq0_R1 => rfl)
    (case xm0_0 => k_is)
    (case xsc0 => k_is)
    (case xss0 => k_is)
    (case xL1 => k_is)
    (case xr1 => first | rfl | decide +kernel)
    (case xs1 => k_is)
    (case xg1 => k_is)
    (case xh1 => k_is)
    (case xf1 => k_is)
    (case xi1 => k_is)
    (case xt1 => k_is)
    (case xl1 => k_is)
    (case xd1 => k_is)
    (case xe1 => k_is)
    (case xv1 => rfl)
    (case xc1 => k_is)
    (case xk1 => k_is)
    (case xb1 => k_is)
    (case xy1 => k_is)
    (case xj1 => k_is)
    (case xp1 => ks_is)
    (case xw1 => k_is)
    (case xz1 => k_is)
    (case xo1 => k_is)
    (case xu1 => k_is)
    (case xca1 => k_is)
    (case xcb1 => k_is)
    (case xcc1 => k_is)
    (case xcd1 => k_is)
    (case xn1_E0 => k_is)
    (case xq1_E0 => rfl)
    (case xn1_E2 => k_is)
    (case xq1_E2 => rfl)
    (case xn1_R1 => k_is)
    (case xq1_R1 => rfl)
    (case xm1_0 => k_is)
    (case xsc1 => k_is)
    (case xss1 => k_is)
    (case xL2 => k_is)
    (case xr2 => first | rfl | decide +kernel)
    (case xs2 => k_is)
    (case xg2 => k_is)
    (case xh2 => k_is)
    (case xf2 => k_is)
    (case xi2 => k_is)
    (case xt2 => k_is)
    (case xl2 => k_is)
    (case xd2 => k_is)
    (case xe2 => k_is)
    (case xv2 => rfl)
    (case xc2 => k_is)
    (case xk2 => k_is)
    (case xb2 => k_is)
    (case xy2 => k_is)
    (case xj2 => k_is)
    (case xp2 => ks_is)
    (case xw2 => k_is)
    (case xz2 => k_is)
    (case xo2 => k_is)
    (case xu2 => k_is)
    (case xca2 => k_is)
    (case xcb2 => k_is)
    (case xcc2 => k_is)
    (case xcd2 => k_is)
    (case xn2_E0 => k_is)
    (case xq2_E0 => rfl)
    (case xn2_E1 => k_is)
    (case xq2_E1 => rfl)
    (case xn2_R1 => k_is)
    (case xq2_R1 => rfl)
    (case xm2_0 => k_is)
    (case xsc2 => k_is)
    (case xss2 => k_is)
    (case pf => exact ⟨by first | rfl | decide +kernel, by first | rfl | decide +kernel⟩)
