import PyProof.Rows.All
import Wide.All
import OpenK.AllK
import Wide.FinOn
import HandS.ForMost
import HandS.Flow
import HandS.IsInst
import HandS.Wide
import HandS.Walk
import PyProof.Rows.IntBool
import HandS.Property
import HandS.Star
import HandS.OwnEq
import HandS.SetFor
import KE.GoesEnum
import KE.GoesMore
import HandS.Strs
import HandS.Deep
import HandS.TupAny
import KE.KRevSl
import KE.KOpsOwn
import HandS.ForExc
import HandS.FStr
import HandS.ExcField
import HandS.ExcIs
import HandS.ExcSuper
import KE.KExcSuper
import KE.KExcIs
import HandS.OwnIter
import HandS.IterNext
import HandS.Text
import HandS.Zip
import HandS.HotCalls
import PyProof.ReprRoads
import HandS.Ends
import PyProof.AutoSeq1
import HandS.IterVal
import OpenK.KMake
import HandS.Defaults
import HandS.NoneIn
import HandS.Style
import HandS.Remove
import PyProof.Rows.StrInSeq3
import HandS.TupLe
import PyProof.StrLawsRepr
import HandS.Conv
import PySem.Challenge.RW_drawnanew_k11_between_leads
set_option Elab.async false
set_option linter.all false
set_option maxRecDepth 100000
set_option maxHeartbeats 4000000
/-! XBase: readings that compute, over the hand layer; the heap cut into a part that only grows and cells that change. -/
namespace XL
open PySem PySem.Spec PyProof.Rows L2
abbrev St := L2.St

/-! ### a reading may be exchanged for a stronger one -/
theorem pe_str {X : Cx} {e : Expr} {t t' : TE} (h : PE X e t) (k : ∀ σ H Q, t' σ H Q → t σ H Q) : PE X e t' := ⟨fun pins s σ H Q I q => h.run pins s σ H Q I (k σ H Q q)⟩
theorem pt_str {X : Cx} {e : Expr} {t t' : TT} (h : PT X e t) (k : ∀ σ H Q, t' σ H Q → t σ H Q) : PT X e t' := ⟨fun pins s σ H Q I q => h.run pins s σ H Q I (k σ H Q q)⟩
theorem ps_str {X : Cx} {e : Stmt} {t t' : TS} (h : PS X e t) (k : ∀ D σ H, t' D σ H → t D σ H) : PS X e t' := ⟨fun pins s σ H D I q => h.run pins s σ H D I (k D σ H q)⟩
theorem or_str {X : Cx} {f : Value → Value → Sem Value} {r r' : R2} (h : OpR X f r) (k : ∀ x y H Q, r' x y H Q → r x y H Q) : OpR X f r' := fun pins s σ H x y v u Q I rx ry q => h pins s σ H x y v u Q I rx ry (k x y H Q q)
theorem cr_str {X : Cx} {f : Value} {r r' : List V → Hp → VK → Prop} (h : CallR X f r) (k : ∀ xs H Q, r' xs H Q → r xs H Q) : CallR X f r' := fun pins s σ H xs us Q I rx q => h pins s σ H xs us Q I rx (k xs H Q q)
theorem OpR.or {X : Cx} {f : Value → Value → Sem Value} {r r' : R2} (h : OpR X f r) (h' : OpR X f r') : OpR X f (fun x y H Q => r x y H Q ∨ r' x y H Q) := by
  intro pins s σ H x y v u Q I rx ry q
  rcases q with q | q
  · exact h pins s σ H x y v u Q I rx ry q
  · exact h' pins s σ H x y v u Q I rx ry q

/-! ### names -/
def nth : St → Nat → Option V
  | [], _ => none
  | x :: _, 0 => x
  | _ :: r, n + 1 => nth r n
theorem nth_get : ∀ {σ : St} {i : Nat} {v : V}, nth σ i = some v → σ[i]? = some (some v)
  | [], _, _, h => nomatch h
  | _ :: _, 0, _, h => congrArg some h
  | _ :: r, n + 1, _, h => by
    rw [List.getElem?_cons_succ]
    exact nth_get (σ := r) h
def xVar (i : Nat) : TE := fun σ H Q => match nth σ i with
  | some v => Q v H
  | none => False
section
variable {X : Cx} {a b c : Expr} {ta tb tc : TE} {pos : Pos} {tA tB' : TT} {rest : List Expr}
theorem xv (i : Nat) {x : Str} {pos : Pos} (hN : X.N[i]? = some x := by rfl) (hv : Vis X.env.scope x := by first | exact Or.inl rfl | exact Or.inr (Or.inl rfl) | exact Or.inr (Or.inr rfl)) (hd : (x == ("__debug__" : Str)) = false := by decide)
    (hcd : (x == ("__classdict__" : Str)) = false := by decide) : PE X (.Name x pos) (xVar i) := pe_str (pe_var hN hv hd hcd) fun σ H Q h => by
  unfold xVar at h
  cases e : nth σ i with
  | none => rw [e] at h; exact h.elim
  | some v => rw [e] at h; exact ⟨v, nth_get e, h⟩

/-! ### arithmetic -/
theorem op_mul_ib : OpR X (binaryOp .Mult) (fun x y H Q => ∃ i k, x = .int i ∧ y = .bl k ∧ Q (.int (i * b2i k)) H) := by
  intro pins s σ H x y v u Q I rx ry h
  obtain ⟨i, k, rfl, rfl, q⟩ := h
  obtain ⟨t, rfl⟩ := rx
  cases ry
  refine PySem.IntBool.mul_int_bool ?_
  have e : (if k = true then (1 : Int) else 0) = b2i k := by cases k <;> rfl
  rw [e]
  exact ⟨.int (i * b2i k), H, I.tok _, ⟨_, rfl⟩, q⟩
def yAdd : R2 := fun x y H Q => match x, y with
  | .int i, .int j => Q (.int (i + j)) H
  | .int i, .bl k => Q (.int (i + b2i k)) H
  | .str a, .str b => a.length + b.length ≤ sizeLine ∧ ∀ r : Str, r = a ++ b → Q (.str r) H
  | .ref l, .ref b => rCat (.ref l) (.ref b) H Q
  | _, _ => False
theorem op_addY : OpR X (binaryOp .Add) yAdd := by
  refine or_str (OpR.or (op_add (X := X)) (OpR.or (op_add_ib (X := X)) (OpR.or (op_add_str (X := X)) (op_cat (X := X))))) fun x y H Q h => ?_
  unfold yAdd at h
  split at h
  · exact .inl ⟨_, _, rfl, rfl, h⟩
  · exact .inr (.inl ⟨_, _, rfl, rfl, h⟩)
  · exact .inr (.inr (.inl ⟨_, _, rfl, rfl, h.1, h.2 _ rfl⟩))
  · exact .inr (.inr (.inr h))
  · exact h.elim
def ySub : R2 := fun x y H Q => match x, y with
  | .int i, .int j => Q (.int (i - j)) H
  | _, _ => False
theorem op_subY : OpR X (binaryOp .Sub) ySub := by
  refine or_str (op_sub (X := X)) fun x y H Q h => ?_
  unfold ySub at h
  split at h
  · exact ⟨_, _, rfl, rfl, h⟩
  · exact h.elim
def yMul : R2 := fun x y H Q => match x, y with
  | .int i, .int j => CMul i j ∧ Q (.int (i * j)) H
  | .int i, .bl k => Q (.int (i * b2i k)) H
  | .ref l, .int k => rRep (.ref l) (.int k) H Q
  | _, _ => False
theorem op_mulY : OpR X (binaryOp .Mult) yMul := by
  refine or_str (OpR.or (op_mul (X := X)) (OpR.or (op_mul_ib (X := X)) (op_rep (X := X)))) fun x y H Q h => ?_
  unfold yMul at h
  split at h
  · exact .inl ⟨_, _, rfl, rfl, h.1, h.2⟩
  · exact .inr (.inl ⟨_, _, rfl, rfl, h⟩)
  · exact .inr (.inr h)
  · exact h.elim
def yMod : R2 := fun x y H Q => match x, y with
  | .int i, .int j => 0 < j ∧ ∀ r : Int, r = i % j → 0 ≤ r → r < j → Q (.int r) H
  | _, _ => False
theorem op_modY : OpR X (binaryOp .Mod) yMod := by
  refine or_str (op_mod (X := X)) fun x y H Q h => ?_
  unfold yMod at h
  split at h
  · exact ⟨_, _, rfl, rfl, h.1, h.2 _ rfl (Int.emod_nonneg _ (by have := h.1; omega)) (Int.emod_lt_of_pos _ h.1)⟩
  · exact h.elim
def yDiv : R2 := fun x y H Q => match x, y with
  | .int i, .int j => (0 < j ∧ j < 1073741824) ∧ ∀ r : Int, r = i / j → (0 ≤ i → 0 ≤ r) → Q (.int r) H
  | _, _ => False
theorem op_divY : OpR X (binaryOp .FloorDiv) yDiv := by
  refine or_str (op_fdiv (X := X)) fun x y H Q h => ?_
  unfold yDiv at h
  split at h
  · exact ⟨_, _, rfl, rfl, h.1, h.2 _ rfl (fun h0 => Int.ediv_nonneg h0 (by have := h.1.1; omega))⟩
  · exact h.elim
def yPow : R2 := fun x y H Q => match x, y with
  | .int i, .int j => CPow i j ∧ ∀ r : Int, r = i ^ j.toNat → Q (.int r) H
  | _, _ => False
theorem op_powY : OpR X (binaryOp .Pow) yPow := by
  refine or_str (op_pow (X := X)) fun x y H Q h => ?_
  unfold yPow at h
  split at h
  · exact ⟨_, _, rfl, rfl, h.1, h.2 _ rfl⟩
  · exact h.elim

/-! ### comparisons -/
def yCmp (p : Int → Int → Bool) : R2 := fun x y H Q => match x, y with
  | .int i, .int j => Q (.bl (p i j)) H
  | _, _ => False
theorem yCmp_rI {p : Int → Int → Bool} {x y : V} {H : Hp} {Q : VK} (h : yCmp p x y H Q) : rI0 (fun i j => .bl (p i j)) x y H Q := by
  unfold yCmp at h
  split at h
  · exact ⟨_, _, rfl, rfl, h⟩
  · exact h.elim
theorem op_ltY : OpR X (compareOp .Lt) (yCmp fun i j => decide (i < j)) := or_str (op_lt (X := X)) fun _ _ _ _ h => yCmp_rI h
theorem op_leY : OpR X (compareOp .LtE) (yCmp fun i j => decide (i ≤ j)) := or_str (op_le (X := X)) fun _ _ _ _ h => yCmp_rI h
theorem op_gtY : OpR X (compareOp .Gt) (yCmp fun i j => decide (j < i)) := or_str (op_gt (X := X)) fun _ _ _ _ h => yCmp_rI h
theorem op_geY : OpR X (compareOp .GtE) (yCmp fun i j => decide (j ≤ i)) := or_str (op_ge (X := X)) fun _ _ _ _ h => yCmp_rI h
def yEq (K : PySem.W.Frag) : R2 := fun x y H Q => match x, y with
  | .int i, .int j => Q (.bl (decide (i = j))) H
  | .str i, .str j => Q (.bl (decide (i = j))) H
  | .bl i, .bl j => Q (.bl (decide (i = j))) H
  | .ref a, .ref b => rEqD K (.ref a) (.ref b) H Q
  | x, y => scal x y = true ∧ Q (.bl (decide (x = y))) H
def yNe (K : PySem.W.Frag) : R2 := fun x y H Q => match x, y with
  | .int i, .int j => Q (.bl (!decide (i = j))) H
  | .str i, .str j => Q (.bl (!decide (i = j))) H
  | .bl i, .bl j => Q (.bl (!decide (i = j))) H
  | .ref a, .ref b => rNeD K (.ref a) (.ref b) H Q
  | x, y => scal x y = true ∧ Q (.bl (!decide (x = y))) H
theorem deci {i j : Int} : decide (V.int i = V.int j) = decide (i = j) := by by_cases h : i = j <;> simp [h]
theorem decs {i j : Str} : decide (V.str i = V.str j) = decide (i = j) := by by_cases h : i = j <;> simp [h]
theorem decb {i j : Bool} : decide (V.bl i = V.bl j) = decide (i = j) := by by_cases h : i = j <;> simp [h]
theorem op_eqY (hu : X.A.units + 64 < cLine) : OpR X (compareOp .Eq) (yEq X.K) := by
  refine or_str (OpR.or (op_eq (X := X)) (op_eqD hu)) fun x y H Q h => ?_
  unfold yEq at h
  split at h
  · exact .inl ⟨rfl, by rw [deci]; exact h⟩
  · exact .inl ⟨rfl, by rw [decs]; exact h⟩
  · exact .inl ⟨rfl, by rw [decb]; exact h⟩
  · exact .inr h
  · exact .inl h
theorem op_neY (hu : X.A.units + 64 < cLine) : OpR X (compareOp .NotEq) (yNe X.K) := by
  refine or_str (OpR.or (op_ne (X := X)) (op_neD hu)) fun x y H Q h => ?_
  unfold yNe at h
  split at h
  · exact .inl ⟨rfl, by rw [deci]; exact h⟩
  · exact .inl ⟨rfl, by rw [decs]; exact h⟩
  · exact .inl ⟨rfl, by rw [decb]; exact h⟩
  · exact .inr h
  · exact .inl h

/-! ### tests -/
/-- a bool as a test -/
def xB (t : TE) : TT := fun σ H Q => t σ H fun x H1 => match x with
  | .bl c => Q c H1
  | _ => False
theorem pe_mono {X : Cx} {e : Expr} {t : TE} (_h : PE X e t) : True := trivial
theorem xt_cmp {op : CmpOp} {r : R2} (ho : OpR X (compareOp op) r) (ha : PE X a ta) (hb : PE X b tb) (hm : behindInMarks op b = false) : PT X (.Compare a [op] [b] pos) (xB (tOp r ta tb)) := by
  refine ⟨fun pins s σ H Q I h => ?_⟩
  refine wpAny_isTrue_Compare1 (thn (ha.run pins s σ H _ I h) fun v s1 ⟨x, H1, I1, r1, q1⟩ => thn (hb.run pins s1 σ H1 _ I1 q1) fun u s2 ⟨y, H2, I2, r2, q2⟩ =>
    thn (ho pins s2 σ H2 x y v u _ I2 r1 r2 q2) fun c s3 ⟨z, H3, I3, r3, q3⟩ => ?_) hm
  cases z with
  | bl k =>
    cases r3
    exact wpAny_truthy_bool ⟨H3, I3, q3⟩
  | _ => exact False.elim q3
theorem xt_val {e : Expr} {t : TE} (h : PE X e t) (he : ∀ whole, isTrue e X.env whole = (do let v ← whole; standAt e.pos; holding [v] (truthy v)) := by intro _; rfl) : PT X e (xB t) := by
  refine ⟨fun pins s σ H Q I hw => ?_⟩
  refine isTrue_plain (thn (h.run pins s σ H _ I hw) fun v s1 ⟨x, H1, I1, r1, q1⟩ => ?_) (he _)
  cases x with
  | bl k =>
    cases r1
    exact wpAny_truthy_bool ⟨H1, I1, q1⟩
  | _ => exact False.elim q1
/-- the truth of a value -/
def yTru (K : PySem.W.Frag) (x : V) (H : Hp) (Q : Bool → Hp → Prop) : Prop := match x with
  | .bl c => Q c H
  | .int i => Q (i != 0) H
  | .non => Q false H
  | x => ∃ k, TruV K x H k ∧ Q k H
def xTru (K : PySem.W.Frag) (t : TE) : TT := fun σ H Q => t σ H fun x H1 => yTru K x H1 Q
theorem xt_tru (ha : PE X a ta) (he : ∀ whole, isTrue a X.env whole = (do let v ← whole; standAt a.pos; holding [v] (truthy v)) := by intro _; rfl) : PT X a (xTru X.K ta) := by
  have hq : PE X a (fun σ H Q => ta σ H Q) := ha
  refine ⟨fun pins s σ H Q I hw => ?_⟩
  refine isTrue_plain (thn (ha.run pins s σ H _ I hw) fun v s1 ⟨x, H1, I1, r1, q1⟩ => ?_) (he _)
  have q2 : ∃ k, TruV X.K x H1 k ∧ Q k H1 := by
    change yTru X.K x H1 Q at q1
    unfold yTru at q1
    split at q1
    · exact ⟨_, rfl, q1⟩
    · exact ⟨_, rfl, q1⟩
    · exact ⟨_, rfl, q1⟩
    · exact q1
  exact tru_ok pins s1 σ H1 x v Q I1 r1 q2
def xAnd (t u : TT) : TT := fun σ H Q => t σ H fun c H1 => (c = true → u σ H1 Q) ∧ (c = false → Q false H1)
def xOr (t u : TT) : TT := fun σ H Q => t σ H fun c H1 => (c = true → Q true H1) ∧ (c = false → u σ H1 Q)
theorem xw_and (ha : PT X a tA) (hb : PW X (.BoolOp .And (b :: rest) pos) tB') : PW X (.BoolOp .And (a :: b :: rest) pos) (xAnd tA tB') := by
  refine ⟨fun wh pins s0 σ H Q J h => ?_⟩
  refine isTrue_and (thn (ha.run pins s0 σ H _ J h) fun k s2 ⟨H2, J2, q2⟩ => ?_)
  cases k with
  | true => exact hb.run wh pins s2 σ H2 Q J2 (q2.1 rfl)
  | false => exact ⟨H2, J2, q2.2 rfl⟩
theorem xw_or (ha : PT X a tA) (hb : PW X (.BoolOp .Or (b :: rest) pos) tB') : PW X (.BoolOp .Or (a :: b :: rest) pos) (xOr tA tB') := by
  refine ⟨fun wh pins s0 σ H Q J h => ?_⟩
  refine isTrue_or (thn (ha.run pins s0 σ H _ J h) fun k s2 ⟨H2, J2, q2⟩ => ?_)
  cases k with
  | true => exact ⟨H2, J2, q2.1 rfl⟩
  | false => exact hb.run wh pins s2 σ H2 Q J2 (q2.2 rfl)
/-- and, or, not as values: of bools -/
def xAndV (ta tb : TE) : TE := fun σ H Q => ta σ H fun x H1 => match x with
  | .bl c => (c = true → tb σ H1 Q) ∧ (c = false → Q (.bl false) H1)
  | _ => False
def xOrV (ta tb : TE) : TE := fun σ H Q => ta σ H fun x H1 => match x with
  | .bl c => (c = true → Q (.bl true) H1) ∧ (c = false → tb σ H1 Q)
  | _ => False
def xNotV (ta : TE) : TE := fun σ H Q => ta σ H fun x H1 => match x with
  | .bl c => Q (.bl (!c)) H1
  | _ => False
theorem xe_and (ha : PE X a ta) (hb : PE X (.BoolOp .And (b :: rest) pos) tb) : PE X (.BoolOp .And (a :: b :: rest) pos) (xAndV ta tb) := by
  refine ⟨fun pins s0 σ H Q J h => ?_⟩
  refine BoolOp_and (thn (ha.run pins s0 σ H _ J h) fun v s2 ⟨x, H2, J2, r2, q2⟩ => ?_)
  cases x with
  | bl k =>
    cases r2
    refine wpAny_truthy_bool ?_
    cases k with
    | true => exact hb.run pins s2 σ H2 Q J2 (q2.1 rfl)
    | false => exact ⟨.bl false, H2, J2, rfl, q2.2 rfl⟩
  | _ => exact False.elim q2
theorem xe_or (ha : PE X a ta) (hb : PE X (.BoolOp .Or (b :: rest) pos) tb) : PE X (.BoolOp .Or (a :: b :: rest) pos) (xOrV ta tb) := by
  refine ⟨fun pins s0 σ H Q J h => ?_⟩
  refine BoolOp_or (thn (ha.run pins s0 σ H _ J h) fun v s2 ⟨x, H2, J2, r2, q2⟩ => ?_)
  cases x with
  | bl k =>
    cases r2
    refine wpAny_truthy_bool ?_
    cases k with
    | true => exact ⟨.bl true, H2, J2, rfl, q2.1 rfl⟩
    | false => exact hb.run pins s2 σ H2 Q J2 (q2.2 rfl)
  | _ => exact False.elim q2
theorem xe_not (ha : PE X a ta) : PE X (.UnaryOp .Not a pos) (xNotV ta) := by
  refine ⟨fun pins s0 σ H Q J h => ?_⟩
  refine UnaryOp_ (thn (ha.run pins s0 σ H _ J h) fun v s2 ⟨x, H2, J2, r2, q2⟩ => ?_)
  cases x with
  | bl k =>
    cases r2
    exact not_of (wpAny_truthy_bool ⟨.bl (!k), H2, J2, rfl, q2⟩)
  | _ => exact False.elim q2
/-- a if t else b -/
def xIf (t : TT) (ta tb : TE) : TE := fun σ H Q => t σ H fun c H1 => (c = true → ta σ H1 Q) ∧ (c = false → tb σ H1 Q)
theorem xe_if {c : Expr} (hc : PT X c tA) (ha : PE X a ta) (hb : PE X b tb) : PE X (.IfExp c a b pos) (xIf tA ta tb) := by
  refine ⟨fun pins s0 σ H Q J h => ?_⟩
  refine wpAny_IfExp (thn (hc.run pins s0 σ H _ J h) fun k s2 ⟨H2, J2, q2⟩ => ?_)
  cases k with
  | true => exact ha.run pins s2 σ H2 Q J2 (q2.1 rfl)
  | false => exact hb.run pins s2 σ H2 Q J2 (q2.2 rfl)
/-- if t: .. else: .. -/
def xIfS (c : TT) (t u : TS) : TS := fun D σ H => c σ H fun b H1 => (b = true → t D σ H1) ∧ (b = false → u D σ H1)
theorem xs_if {c : Expr} {as bs : List Stmt} {tc : TT} {t u : TS} (hc : PT X c tc) (ha : PSs X as t) (hb : PSs X bs u) : PS X (.If c as bs pos) (xIfS tc t u) := by
  refine ⟨fun pins s0 σ H D J h => ?_⟩
  refine wpAny_If (thn (hc.run pins s0 σ H _ J h) fun k s2 ⟨H2, J2, q2⟩ => ?_)
  cases k with
  | true => exact ha.run pins s2 σ H2 D J2 (q2.1 rfl)
  | false => exact hb.run pins s2 σ H2 D J2 (q2.2 rfl)

/-! ### calls of built-ins -/
def yLen (K : PySem.W.Frag) : List V → Hp → VK → Prop := fun xs H Q => match xs with
  | [.str y] => y.length ≤ sizeLine ∧ Q (.int y.length) H
  | [.ref p] => ∃ ys, (SqL K H p ys ∨ SqT K H p ys) ∧ Q (.int ys.length) H
  | _ => False
theorem cr_len : CallR X (.builtin "len") (yLen X.K) := by
  refine cr_str (call_len (X := X)) fun xs H Q h => ?_
  unfold yLen at h
  split at h
  · exact ⟨_, _, rfl, ⟨h.1, rfl⟩, h.2⟩
  · obtain ⟨ys, hy, q⟩ := h
    rcases hy with hy | hy
    · exact ⟨_, _, rfl, .inl ⟨ys, hy, rfl⟩, q⟩
    · exact ⟨_, _, rfl, .inr ⟨ys, hy, rfl⟩, q⟩
  · exact h.elim
def yInt : List V → Hp → VK → Prop := fun xs H Q => match xs with
  | [.int i] => Q (.int i) H
  | [.bl k] => Q (.int (if k then 1 else 0)) H
  | [.str z] => ∃ n, PySem.intText? z = some n ∧ z.length ≤ 640 ∧ Q (.int n) H
  | _ => False
theorem cr_int : CallR X (.type "int") yInt := by
  refine cr_str (CallR.or (call_int1 (X := X)) (call_int_str (X := X))) fun xs H Q h => ?_
  unfold yInt at h
  split at h
  · exact .inl (.inl ⟨_, rfl, h⟩)
  · exact .inl (.inr ⟨_, rfl, h⟩)
  · obtain ⟨n, h1, h2, q⟩ := h
    exact .inr ⟨_, n, rfl, h1, h2, q⟩
  · exact h.elim
def yAbs : List V → Hp → VK → Prop := fun xs H Q => match xs with
  | [.int i] => Q (.int i.natAbs) H
  | _ => False
theorem cr_abs : CallR X (.builtin "abs") yAbs := by
  refine cr_str (call_abs (X := X)) fun xs H Q h => ?_
  unfold yAbs at h
  split at h
  · rename_i i
    refine ⟨i, rfl, ?_⟩
    have e : (if i < 0 then -i else i) = (i.natAbs : Int) := by split <;> omega
    rw [e]
    exact h
  · exact h.elim
def yStr : List V → Hp → VK → Prop := fun xs H Q => match xs with
  | [.int i] => i.natAbs.log2 < 1920 ∧ Q (.str (toString i)) H
  | _ => False
theorem cr_strI : CallR X (.type "str") yStr := by
  refine cr_str (call_str_int (X := X)) fun xs H Q h => ?_
  unfold yStr at h
  split at h
  · exact ⟨_, rfl, h.1, h.2⟩
  · exact h.elim
def yIx (K : PySem.W.Frag) : R2 := fun x y H Q => match x, y with
  | .ref p, .int i => ∃ xs v, (SqL K H p xs ∨ SqT K H p xs) ∧ atI xs i = some v ∧ Q v H
  | .str z, .int i => ∃ c, z.length ≤ sizeLine ∧ atI z.cps.toList i = some c ∧ Q (.str ⟨#[c]⟩) H
  | _, _ => False
theorem ix_y : IxR X (yIx X.K) := by
  intro value slice pins s σ H x y v u Q I rx ry h hs
  refine ix_seq (X := X) value slice pins s σ H x y v u Q I rx ry ?_ hs
  unfold yIx at h
  split at h
  · obtain ⟨xs, z, h1, h2, q⟩ := h
    rcases h1 with h1 | h1
    · exact .inl ⟨_, xs, _, z, rfl, rfl, h1, h2, q⟩
    · exact .inr (.inl ⟨_, xs, _, z, rfl, rfl, h1, h2, q⟩)
  · obtain ⟨k, h1, h2, q⟩ := h
    exact .inr (.inr ⟨_, _, k, rfl, rfl, h1, h2, q⟩)
  · exact h.elim
end

/-! ### the heap: what only grows, and the cells that change -/
def Sep (G : Hp) (M : List (Addr × HO)) (H : Hp) : Prop := Same G H ∧ (∀ p ∈ M, H p.1 = some p.2 ∧ G p.1 = none) ∧ (M.map (·.1)).Nodup
section
variable {G G' H H' : Hp} {M : List (Addr × HO)} {p a b : Addr} {o o' u : HO}
theorem same_upd (h : H p = none) : Same H (upd H p o) := fun b x e => by
  rw [upd_ne (ne_of_none e h)]
  exact e
theorem sep0 : Sep H [] H := ⟨Same.refl H, (fun _ h => nomatch h), List.nodup_nil⟩
theorem Sep.st (S : Sep G M H) (h : G a = some o) : H a = some o := S.1 a o h
theorem Sep.hd (S : Sep G ((a, o) :: M) H) : H a = some o := (S.2.1 _ List.mem_cons_self).1
theorem Sep.at (S : Sep G M H) (h : (a, o) ∈ M) : H a = some o := (S.2.1 _ h).1
theorem Sep.fresh (S : Sep G M H) (h : H p = none) : G p = none := S.1.free h
theorem Sep.new (S : Sep G M H) (h : H p = none) : Sep G ((p, o) :: M) (upd H p o) := by
  refine ⟨S.1.trans (same_upd h), fun q hq => ?_, ?_⟩
  · rcases List.mem_cons.mp hq with rfl | hq
    · exact ⟨upd_same, S.fresh h⟩
    · exact ⟨same_upd h _ _ (S.2.1 q hq).1, (S.2.1 q hq).2⟩
  · rw [List.map_cons, List.nodup_cons]
    refine ⟨fun hm => ?_, S.2.2⟩
    obtain ⟨q, hq, e⟩ := List.mem_map.mp hm
    have z := (S.2.1 q hq).1
    rw [e, h] at z
    cases z
theorem Sep.newG (S : Sep G M H) (h : H p = none) : Sep (upd G p o) M (upd H p o) := by
  refine ⟨fun b x e => ?_, fun q hq => ?_, S.2.2⟩
  · by_cases hb : b = p
    · subst hb
      rw [upd_same] at e ⊢
      exact e
    · rw [upd_ne hb] at e ⊢
      exact S.1 b x e
  · have z := S.2.1 q hq
    refine ⟨same_upd h _ _ z.1, ?_⟩
    rw [upd_ne (ne_of_none z.1 h)]
    exact z.2
theorem Sep.grow (S : Sep G M H) (h : H p = none) : Same G (upd G p o) := same_upd (S.fresh h)
theorem Sep.set (S : Sep G ((a, o) :: M) H) : Sep G ((a, o') :: M) (upd H a o') := by
  have hn := S.2.2
  rw [List.map_cons, List.nodup_cons] at hn
  have ha := S.2.1 _ List.mem_cons_self
  refine ⟨fun b x e => ?_, fun q hq => ?_, S.2.2⟩
  · rw [upd_ne (ne_of_none e ha.2)]
    exact S.1 b x e
  · rcases List.mem_cons.mp hq with rfl | hq
    · exact ⟨upd_same, ha.2⟩
    · refine ⟨?_, (S.2.1 q (List.mem_cons_of_mem _ hq)).2⟩
      rw [upd_ne (show q.1 ≠ a from fun e => hn.1 (by have z : q.1 ∈ M.map (·.1) := List.mem_map_of_mem hq
                                                      rw [e] at z; exact z))]
      exact (S.2.1 q (List.mem_cons_of_mem _ hq)).1
theorem Sep.frz (S : Sep G ((a, o) :: M) H) : Sep (upd G a o) M H := by
  have hn := S.2.2
  rw [List.map_cons, List.nodup_cons] at hn
  have ha := S.2.1 _ List.mem_cons_self
  refine ⟨fun b x e => ?_, fun q hq => ?_, hn.2⟩
  · by_cases hb : b = a
    · subst hb
      rw [upd_same] at e
      cases e
      exact ha.1
    · rw [upd_ne hb] at e
      exact S.1 b x e
  · have z := S.2.1 q (List.mem_cons_of_mem _ hq)
    refine ⟨z.1, ?_⟩
    rw [upd_ne (show q.1 ≠ a from fun e => hn.1 (by have z : q.1 ∈ M.map (·.1) := List.mem_map_of_mem hq
                                                    rw [e] at z; exact z))]
    exact z.2
theorem Sep.none (S : Sep G ((a, o) :: M) H) : G a = none := (S.2.1 _ List.mem_cons_self).2
theorem Sep.frzS (S : Sep G ((a, o) :: M) H) : Same G (upd G a o) := same_upd S.none
theorem Sep.drop {q : Addr × HO} (S : Sep G (q :: M) H) : Sep G M H := by
  have hn := S.2.2
  rw [List.map_cons, List.nodup_cons] at hn
  exact ⟨S.1, fun p hp => S.2.1 p (List.mem_cons_of_mem _ hp), hn.2⟩
theorem Sep.perm {M' : List (Addr × HO)} (S : Sep G M H) (h : M.Perm M') : Sep G M' H :=
  ⟨S.1, fun q hq => S.2.1 q (h.mem_iff.mpr hq), (h.map _).nodup_iff.mp S.2.2⟩
theorem Sep.sw {q r : Addr × HO} (S : Sep G (q :: r :: M) H) : Sep G (r :: q :: M) H := S.perm (List.Perm.swap _ _ _)
theorem same_l {K : PySem.W.Frag} {xs : List V} (e : Same H H') (h : SqL K H a xs) : SqL K H' a xs := e.seq h
theorem same_t {K : PySem.W.Frag} {xs : List V} (e : Same H H') (h : SqT K H a xs) : SqT K H' a xs := by
  rcases h with (h | ⟨o, h⟩) | h
  · exact .inl (.inl (e _ _ h))
  · exact .inl (.inr ⟨o, e _ _ h⟩)
  · exact .inr h
theorem Sep.l {K : PySem.W.Frag} {xs : List V} (S : Sep G M H) (h : SqL K G a xs) : SqL K H a xs := same_l S.1 h
theorem Sep.t {K : PySem.W.Frag} {xs : List V} (S : Sep G M H) (h : SqT K G a xs) : SqT K H a xs := same_t S.1 h
end
mutual
theorem dp_same {K : PySem.W.Frag} {H H' : Hp} (e : Same H H') : ∀ {d : PyData} {v : V}, Dp K H v d → Dp K H' v d
  | _, _, .non => .non
  | _, _, .bl b => .bl b
  | _, _, .int i => .int i
  | _, _, .str x => .str x
  | _, _, .lst h hs => .lst (same_l e h) (dpa_same e hs)
  | _, _, .tup h hs => .tup (same_t e h) (dpa_same e hs)
theorem dpa_same {K : PySem.W.Frag} {H H' : Hp} (e : Same H H') : ∀ {ds : List PyData} {vs : List V}, DpAll K H vs ds → DpAll K H' vs ds
  | _, _, .nil => .nil
  | _, _, .cons h hs => .cons (dp_same e h) (dpa_same e hs)
end

/-! ### loops by what has been gone through -/
theorem take_pre {α : Type} {xs : List α} {i : Nat} {x : α} (h : xs[i]? = some x) : xs = xs.take i ++ x :: xs.drop (i + 1) ∧ xs.take (i + 1) = xs.take i ++ [x] := by
  have hi : i < xs.length := (List.getElem?_eq_some_iff.mp h).1
  have e : xs[i] = x := (List.getElem?_eq_some_iff.mp h).2
  refine ⟨?_, ?_⟩
  · rw [← e, List.getElem_cons_drop, List.take_append_drop]
  · rw [List.take_add_one, h]
    rfl
section
variable {K : PySem.W.Frag} {a : Addr} {xs : List V} {g : TG} {tb : TS} {D : Ends} {σ : L2.St} {H : Hp}
theorem for_pre (Pv : List V → L2.St → Hp → Prop) (h0 : Pv [] σ H) (hl : ∀ pre σ H, Pv pre σ H → SqL K H a xs)
    (hs : ∀ pre x post σ H, xs = pre ++ x :: post → Pv pre σ H → g x σ H fun σ2 H2 => tb { D with nx := Pv (pre ++ [x]), ct := Pv (pre ++ [x]), bk := D.nx } σ2 H2) (hd : ∀ σ H, Pv xs σ H → D.nx σ H) :
    ∃ W : Nat → Nat → L2.St → Hp → Prop, (∃ m, W 0 m σ H) ∧ ∀ i m σ H, W i m σ H →
      ((Itl K a).stop i H ∧ D.nx σ H) ∨ ((Itl K a).go i H ∧ ∃ N : L2.St → Hp → Prop, (∀ σ' H', N σ' H' → ∃ m', m' < m ∧ W (i + 1) m' σ' H') ∧ ∀ x H', (Itl K a).yld i H x H' → g x σ H' fun σ2 H2 => tb { D with nx := N, ct := N, bk := D.nx } σ2 H2) :=
  for_list (fun i => Pv (xs.take i)) h0 (fun i σ H _ p => hl _ σ H p) (fun i x σ H hx p => by
    rw [(take_pre hx).2]
    exact hs _ x _ σ H (take_pre hx).1 p) (fun σ H p => hd σ H (by rw [List.take_length] at p; exact p))
theorem for_preT (Pv : List V → L2.St → Hp → Prop) (h0 : Pv [] σ H) (hl : ∀ pre σ H, Pv pre σ H → SqT K H a xs)
    (hs : ∀ pre x post σ H, xs = pre ++ x :: post → Pv pre σ H → g x σ H fun σ2 H2 => tb { D with nx := Pv (pre ++ [x]), ct := Pv (pre ++ [x]), bk := D.nx } σ2 H2) (hd : ∀ σ H, Pv xs σ H → D.nx σ H) :
    ∃ W : Nat → Nat → L2.St → Hp → Prop, (∃ m, W 0 m σ H) ∧ ∀ i m σ H, W i m σ H →
      ((Itt K a).stop i H ∧ D.nx σ H) ∨ ((Itt K a).go i H ∧ ∃ N : L2.St → Hp → Prop, (∀ σ' H', N σ' H' → ∃ m', m' < m ∧ W (i + 1) m' σ' H') ∧ ∀ x H', (Itt K a).yld i H x H' → g x σ H' fun σ2 H2 => tb { D with nx := N, ct := N, bk := D.nx } σ2 H2) :=
  for_tup (fun i => Pv (xs.take i)) h0 (fun i σ H _ p => hl _ σ H p) (fun i x σ H hx p => by
    rw [(take_pre hx).2]
    exact hs _ x _ σ H (take_pre hx).1 p) (fun σ H p => hd σ H (by rw [List.take_length] at p; exact p))
/-- for i, x in enumerate(xs) -/
theorem for_enum {i j : Nat} (Pv : List V → L2.St → Hp → Prop) (h0 : Pv [] σ H) (hl : ∀ pre σ H, Pv pre σ H → SqL K H a xs)
    (hs : ∀ pre x post σ H T, xs = pre ++ x :: post → Pv pre σ H → H T = none →
      tb { D with nx := Pv (pre ++ [x]), ct := Pv (pre ++ [x]), bk := D.nx } ((σ.set i (some (.int (pre.length : Nat)))).set j (some x)) (upd H T (.tup [.int (pre.length : Nat), x]))) (hd : ∀ σ H, Pv xs σ H → D.nx σ H) :
    ∃ W : Nat → Nat → L2.St → Hp → Prop, (∃ m, W 0 m σ H) ∧ ∀ k m σ H, W k m σ H →
      ((Ite K a).stop k H ∧ D.nx σ H) ∨ ((Ite K a).go k H ∧ ∃ N : L2.St → Hp → Prop, (∀ σ' H', N σ' H' → ∃ m', m' < m ∧ W (k + 1) m' σ' H') ∧ ∀ x H', (Ite K a).yld k H x H' →
        (gTup K 2 (gCons (gName i) (gCons (gName j) gNil))) x σ H' fun σ2 H2 => tb { D with nx := N, ct := N, bk := D.nx } σ2 H2) := by
  refine ⟨fun k m σ H => m = xs.length - k ∧ k ≤ xs.length ∧ Pv (xs.take k) σ H, ⟨xs.length, by simp, Nat.zero_le _, h0⟩, ?_⟩
  rintro k m σ H ⟨rfl, hk, p⟩
  have q := hl _ σ H p
  by_cases hlt : k < xs.length
  · refine .inr ⟨⟨xs, xs[k], q, by simp [hlt]⟩, Pv (xs.take (k + 1)), fun σ' H' p' => ⟨xs.length - (k + 1), by omega, rfl, hlt, p'⟩, fun v H' y => ?_⟩
    obtain ⟨T, x, rfl, nT, rfl, hx⟩ := y
    have hx := hx xs q
    refine ⟨T, _, rfl, SqT.of upd_same, rfl, _, _, rfl, _, _, rfl, rfl, ?_⟩
    have z := hs _ x _ σ H T (take_pre hx).1 p nT
    rw [(take_pre hx).2]
    rw [show (xs.take k).length = k by rw [List.length_take]; omega] at z
    exact z
  · have e : k = xs.length := by omega
    subst e
    rw [List.take_length] at p
    exact .inl ⟨⟨xs, q, Nat.le_refl _⟩, hd σ H p⟩
/-- [e for x in xs] -/
theorem lc_pre {te : TE} {vs : List Nat} {i : Nat} {H1 : Hp} {L : Addr} {Qd : Hp → Prop} (Pv : List V → Hp → Prop) (h0 : Pv [] (upd H1 L (.lst []))) (hl : ∀ pre H, Pv pre H → SqL K H a xs)
    (hw : ∀ x, wipe ((wipe σ vs).set i (some x)) vs = wipe σ vs)
    (hs : ∀ pre x post H, xs = pre ++ x :: post → Pv pre H → te ((wipe σ vs).set i (some x)) H fun y H4 => ∃ acc, H4 L = some (.lst acc) ∧ acc.length < sizeLine ∧ Pv (pre ++ [x]) (upd H4 L (.lst (acc ++ [y])))) (hd : ∀ H, Pv xs H → Qd H) :
    ∃ W : Nat → Nat → Hp → Prop, (∃ m, W 0 m (upd H1 L (.lst []))) ∧ ∀ k m H, W k m H →
      ((Itl K a).stop k H ∧ Qd H) ∨ ((Itl K a).go k H ∧ ∃ Nx : Hp → Prop, (∀ H', Nx H' → ∃ m', m' < m ∧ W (k + 1) m' H') ∧ ∀ x H', (Itl K a).yld k H x H' → gName i x (wipe σ vs) H' fun σ2 H2 => wipe σ2 vs = wipe σ vs ∧ tYes σ2 H2 fun b H3 =>
        if b = true then te σ2 H3 fun y H4 => ∃ acc, H4 L = some (.lst acc) ∧ acc.length < sizeLine ∧ Nx (upd H4 L (.lst (acc ++ [y]))) else Nx H3) :=
  lc_list (fun k => Pv (xs.take k)) h0 (fun k H _ p => hl _ H p) (fun k x H hx p => ⟨hw x, by
    rw [(take_pre hx).2]
    exact hs _ x _ H (take_pre hx).1 p⟩) (fun H p => hd H (by rw [List.take_length] at p; exact p))
/-- [e for x in range(n)] -/
theorem lc_rng {te : TE} {vs : List Nat} {i : Nat} {n : Nat} {lo : Int} {H1 : Hp} {L : Addr} {Qd : Hp → Prop} (Pv : Nat → Hp → Prop) (h0 : Pv 0 (upd H1 L (.lst [])))
    (hw : ∀ x, wipe ((wipe σ vs).set i (some x)) vs = wipe σ vs)
    (hs : ∀ k H, k < n → Pv k H → te ((wipe σ vs).set i (some (.int (lo + k)))) H fun y H4 => ∃ acc, H4 L = some (.lst acc) ∧ acc.length < sizeLine ∧ Pv (k + 1) (upd H4 L (.lst (acc ++ [y])))) (hd : ∀ H, Pv n H → Qd H) :
    ∃ W : Nat → Nat → Hp → Prop, (∃ m, W 0 m (upd H1 L (.lst []))) ∧ ∀ k m H, W k m H →
      ((Itr lo n).stop k H ∧ Qd H) ∨ ((Itr lo n).go k H ∧ ∃ Nx : Hp → Prop, (∀ H', Nx H' → ∃ m', m' < m ∧ W (k + 1) m' H') ∧ ∀ x H', (Itr lo n).yld k H x H' → gName i x (wipe σ vs) H' fun σ2 H2 => wipe σ2 vs = wipe σ vs ∧ tYes σ2 H2 fun b H3 =>
        if b = true then te σ2 H3 fun y H4 => ∃ acc, H4 L = some (.lst acc) ∧ acc.length < sizeLine ∧ Nx (upd H4 L (.lst (acc ++ [y]))) else Nx H3) :=
  lc_range (lo := lo) (n := n) Pv h0 (fun k H hk p => ⟨hw _, hs k H hk p⟩) hd
end
/-! ### places of lists -/
theorem atI_in {α : Type} {xs : List α} {i : Int} (h0 : 0 ≤ i) (h1 : i < xs.length) : ∃ v, atI xs i = some v ∧ v ∈ xs := by
  obtain ⟨j, rfl⟩ : ∃ j : Nat, i = (j : Int) := ⟨i.toNat, by omega⟩
  have hj : j < xs.length := by omega
  exact ⟨xs[j], atI_nat (List.getElem?_eq_getElem hj), List.getElem_mem hj⟩
theorem small {n : Nat} (h : n ≤ 100000) : n ≤ sizeLine := Nat.le_trans h (by decide)
theorem smallL {n : Nat} (h : n < 100000) : n < sizeLine := Nat.lt_of_lt_of_le h (by decide)
theorem sz {n : Nat} (h : Nat.ble n 100000 = true := by rfl) : n ≤ sizeLine := small (Nat.le_of_ble_eq_true h)
theorem seqIdx {i : Int} {n : Nat} (h0 : 0 ≤ i) (h1 : i < n) : seqIndex? i n = some i.toNat := by
  unfold seqIndex?
  have e : (if i < 0 then i + n else i) = i := by rw [if_neg (by omega)]
  simp only [e]
  rw [if_pos (by simp; omega)]
theorem atN {α : Type} {xs : List α} {i : Int} {v : α} (h0 : 0 ≤ i) (h : atI xs i = some v) : xs[i.toNat]? = some v := by
  obtain ⟨j, rfl⟩ : ∃ j : Nat, i = (j : Int) := ⟨i.toNat, by omega⟩
  unfold atI ixN at h
  rw [if_pos (by omega)] at h
  split at h
  · simpa using h
  · cases h
theorem mem_erase {α : Type} {xs : List α} {k : Nat} {y : α} (h : y ∈ xs.eraseIdx k) : y ∈ xs := List.mem_of_mem_eraseIdx h
/-- the i-th of a paired list -/
theorem prd_get {α β : Type} {F : α → β → Prop} : ∀ {xs : List α} {ys : List β} {i : Nat} {x : α}, Paired F xs ys → xs[i]? = some x → ∃ y, ys[i]? = some y ∧ F x y
  | _, _, _, _, .nil, h => by simp at h
  | _, _, 0, _, .cons r _, h => by
    simp at h
    subst h
    exact ⟨_, rfl, r⟩
  | _, _, i + 1, _, .cons _ t, h => by
    rw [List.getElem?_cons_succ] at h
    obtain ⟨y, h1, h2⟩ := prd_get t h
    exact ⟨y, by rw [List.getElem?_cons_succ]; exact h1, h2⟩
theorem prd_len {α β : Type} {F : α → β → Prop} : ∀ {xs : List α} {ys : List β}, Paired F xs ys → xs.length = ys.length
  | _, _, .nil => rfl
  | _, _, .cons _ t => congrArg (· + 1) (prd_len t)
theorem prd_imp {α β : Type} {F F' : α → β → Prop} (k : ∀ x y, F x y → F' x y) : ∀ {xs : List α} {ys : List β}, Paired F xs ys → Paired F' xs ys
  | _, _, .nil => .nil
  | _, _, .cons r t => .cons (k _ _ r) (prd_imp k t)
theorem prd_app {α β : Type} {F : α → β → Prop} : ∀ {xs xs' : List α} {ys ys' : List β}, Paired F xs ys → Paired F xs' ys' → Paired F (xs ++ xs') (ys ++ ys')
  | _, _, _, _, .nil, s => s
  | _, _, _, _, .cons r t, s => .cons r (prd_app t s)
theorem prd_take {α β : Type} {F : α → β → Prop} : ∀ {xs : List α} {ys : List β} (n : Nat), Paired F xs ys → Paired F (xs.take n) (ys.take n)
  | _, _, 0, _ => .nil
  | _, _, _ + 1, .nil => .nil
  | _, _, n + 1, .cons r t => .cons r (prd_take n t)
/-- each has a partner -/
theorem prd_ex {α β : Type} {F : α → β → Prop} : ∀ {xs : List α}, (∀ x ∈ xs, ∃ y, F x y) → ∃ ys, Paired F xs ys
  | [], _ => ⟨[], .nil⟩
  | x :: r, h => by
    obtain ⟨y, hy⟩ := h x List.mem_cons_self
    obtain ⟨ys, hs⟩ := prd_ex fun x hx => h x (List.mem_cons_of_mem _ hx)
    exact ⟨y :: ys, .cons hy hs⟩
theorem prd_mem {α β : Type} {F : α → β → Prop} {x : α} : ∀ {xs : List α} {ys : List β}, Paired F xs ys → x ∈ xs → ∃ y ∈ ys, F x y
  | _, _, .nil, h => nomatch h
  | _, _, .cons (b := b) r t, h => by
    rcases List.mem_cons.mp h with rfl | h
    · exact ⟨b, List.mem_cons_self, r⟩
    · obtain ⟨y, h1, h2⟩ := prd_mem t h
      exact ⟨y, List.mem_cons_of_mem _ h1, h2⟩
/-- a statement and what follows it, with a word J between them -/
def xCut (t u : TS) : TS := fun D σ H => ∃ J : L2.St → Hp → Prop, t { D with nx := J } σ H ∧ ∀ σ' H', J σ' H' → u D σ' H'
theorem xss_cut {X : Cx} {st : Stmt} {sts : List Stmt} {t u : TS} (h1 : PS X st t) (h2 : PSs X sts u) : PSs X (st :: sts) (xCut t u) := by
  refine ⟨fun pins s0 σ H D I h => ?_⟩
  obtain ⟨J, hj, hu⟩ := h
  refine wpAny_execs_cons (thn (h1.run pins s0 σ H { D with nx := J } I hj) fun fl s2 q => ?_)
  cases fl with
  | next =>
    obtain ⟨σ2, H2, I2, q2⟩ := q
    exact h2.run pins s2 σ2 H2 D I2 (hu σ2 H2 q2)
  | _ => exact q
section
variable {K : PySem.W.Frag} {a : Addr} {xs : List V} {σ : L2.St}
/-- [e for x in xs], by the turn -/
theorem lc_at {te : TE} {vs : List Nat} {i : Nat} {H1 : Hp} {L : Addr} {Qd : Hp → Prop} (Pv : Nat → Hp → Prop) (h0 : Pv 0 (upd H1 L (.lst []))) (hl : ∀ k H, Pv k H → SqL K H a xs)
    (hw : ∀ x, wipe ((wipe σ vs).set i (some x)) vs = wipe σ vs)
    (hs : ∀ k x H, xs[k]? = some x → Pv k H → te ((wipe σ vs).set i (some x)) H fun y H4 => ∃ acc, H4 L = some (.lst acc) ∧ acc.length < sizeLine ∧ Pv (k + 1) (upd H4 L (.lst (acc ++ [y])))) (hd : ∀ H, Pv xs.length H → Qd H) :
    ∃ W : Nat → Nat → Hp → Prop, (∃ m, W 0 m (upd H1 L (.lst []))) ∧ ∀ k m H, W k m H →
      ((Itl K a).stop k H ∧ Qd H) ∨ ((Itl K a).go k H ∧ ∃ Nx : Hp → Prop, (∀ H', Nx H' → ∃ m', m' < m ∧ W (k + 1) m' H') ∧ ∀ x H', (Itl K a).yld k H x H' → gName i x (wipe σ vs) H' fun σ2 H2 => wipe σ2 vs = wipe σ vs ∧ tYes σ2 H2 fun b H3 =>
        if b = true then te σ2 H3 fun y H4 => ∃ acc, H4 L = some (.lst acc) ∧ acc.length < sizeLine ∧ Nx (upd H4 L (.lst (acc ++ [y]))) else Nx H3) :=
  lc_list Pv h0 (fun k H _ p => hl _ H p) (fun k x H hx p => ⟨hw x, hs _ x H hx p⟩) hd
end
theorem take_snoc {α : Type} {xs : List α} {i : Nat} {x : α} (h : xs[i]? = some x) : xs.take (i + 1) = xs.take i ++ [x] := (take_pre h).2
theorem ff {A : Prop} (h : false = true) : A := nomatch h
theorem tt {A : Prop} (h : true = false) : A := nomatch h
/-! ### the same with the written part K said (within a comprehension the reading must not name its context) -/
section
variable {X : Cx} (K : PySem.W.Frag) {a b e o : Expr} {es : List Expr} {ta tb te to : TE} {t : TA} {pos : Pos} {tg : Expr}
theorem ix_k (h : X.K = K := by rfl) : IxR X (yIx K) := h ▸ ix_y
theorem cr_lenK (h : X.K = K := by rfl) : CallR X (.builtin "len") (yLen K) := h ▸ cr_len
theorem op_eqK (hu : X.A.units + 64 < cLine) (h : X.K = K := by rfl) : OpR X (compareOp .Eq) (yEq K) := h ▸ op_eqY hu
theorem op_neK (hu : X.A.units + 64 < cLine) (h : X.K = K := by rfl) : OpR X (compareOp .NotEq) (yNe K) := h ▸ op_neY hu
theorem xt_truK (ha : PE X a ta) (h : X.K = K := by rfl) (he : ∀ whole, isTrue a X.env whole = (do let v ← whole; standAt a.pos; holding [v] (truthy v)) := by intro _; rfl) : PT X a (xTru K ta) := h ▸ xt_tru ha he
theorem call_isK (h : X.K = K := by rfl) : CallR X (.builtin "isinstance") (rIsi K) := h ▸ call_isi
def yList (K : PySem.W.Frag) : List V → Hp → VK → Prop := fun xs H Q => ∃ p ys, xs = [.ref p] ∧ (SqL K H p ys ∨ SqT K H p ys) ∧ ∀ l, H l = none → Q (.ref l) (upd H l (.lst ys))
theorem call_listK (h : X.K = K := by rfl) : CallR X (.type "list") (yList K) := h ▸ call_list_of
def yTup (K : PySem.W.Frag) : List V → Hp → VK → Prop := fun xs H Q => ∃ p ys, xs = [.ref p] ∧ ((SqL K H p ys ∧ ∀ l, H l = none → Q (.ref l) (upd H l (.tup ys))) ∨ (SqT K H p ys ∧ Q (.ref p) H))
theorem call_tupleK (h : X.K = K := by rfl) : CallR X (.type "tuple") (yTup K) := h ▸ call_tuple_of
theorem cr_sumK (hc : X.calm = true) (h : X.K = K := by rfl) : CallR X (.builtin "sum") (rSum K) := h ▸ cr_sum hc
theorem sl_listK (h : X.K = K := by rfl) : SlR X (rSlL K) := h ▸ sl_list
theorem pi_listK (ha : PE X a ta) (h : X.K = K := by rfl) : PI X tg a (iList K ta) := h ▸ pi_list ha
theorem pi_tupK (ha : PE X a ta) (h : X.K = K := by rfl) : PI X tg a (iTup K ta) := h ▸ pi_tup ha
theorem pe_bmK {T id : String} {name : Str} {apos cpos : Pos} {r : V → List V → Hp → VK → Prop} (pa : PlainAttrs T) (slot : Slot T name id) (hty : typeOf (.builtin id) = pure (.type "method_descriptor")) (hm : MtR X id r) (ho : PE X o to) (ha : PA X (e :: es) t) (hK : X.K = K := by rfl)
    (hbase : attributeBase o name X.env (eval o X.env) = eval o X.env := by rfl)
    (hfew : ((backTo cpos (starEach (e :: es) X.env)).all (fun x => !x.1) && (backToKw cpos (keywordEach [] X.env)).all (fun x => x.1.isSome)
      && decide ((e :: es).length + ([] : List Keyword).length + (if ([] : List Keyword).isEmpty then 0 else 1) < 30)) = true := by rfl)
    (hline : (apos.endLine == cpos.line) = true := by rfl) (hs : starEach (e :: es) X.env = (false, eval e X.env) :: starEach es X.env := by rfl) (hplain : (backTo cpos (starEach es X.env)).any (·.1) = false := by rfl) :
    PE X (.Call (.Attribute o name apos) (e :: es) [] cpos) (tBM K T r to t) := hK ▸ pe_bm pa slot hty hm ho ha hbase hfew hline hs hplain
end
section
variable {X : Cx} {a b c o : Expr} {ta tb tc : TE} {pos : Pos}
/-- a op1 b op2 c, b asked once -/
def xChain (r r' : R2) (ta tb tc : TE) : TE := fun σ H Q => ta σ H fun x H1 => tb σ H1 fun y H2 => r x y H2 fun z H3 => match z with
  | .bl k => (k = true → tc σ H3 fun w' H4 => r' y w' H4 Q) ∧ (k = false → Q (.bl false) H3)
  | _ => False
theorem xe_chain {op op' : CmpOp} {r r' : R2} (ho : OpR X (compareOp op) r) (ho' : OpR X (compareOp op') r') (ha : PE X a ta) (hb : PE X b tb) (hc : PE X c tc)
    (hm : lastMarks [op, op'] [b, c] = false := by with_unfolding_all rfl) : PE X (.Compare a [op, op'] [b, c] pos) (xChain r r' ta tb tc) := by
  refine ⟨fun pins s0 σ H Q J h => ?_⟩
  refine Compare_chain (thn (ha.run pins s0 σ H _ J h) fun v s1 ⟨x, H1, J1, r1, q1⟩ => chain_link (thn (hb.run pins s1 σ H1 _ J1 q1) fun u s2 ⟨y, H2, J2, r2, q2⟩ =>
    thn (ho pins s2 σ H2 x y v u _ J2 r1 r2 q2) fun d s3 ⟨z, H3, J3, r3, q3⟩ => ?_)) hm
  cases z with
  | bl k =>
    cases r3
    refine wpAny_truthy_bool ?_
    cases k with
    | false => exact ite_ff ⟨.bl false, H3, J3, rfl, q3.2 rfl⟩
    | true => exact ite_tt (chain_last (thn (hc.run pins s3 σ H3 _ J3 (q3.1 rfl)) fun w' s4 ⟨z', H4, J4, r4, q4⟩ => ho' pins s4 σ H4 y z' u w' Q J4 r2 r4 q4))
  | _ => exact False.elim q3
theorem xt_chain {op op' : CmpOp} {r r' : R2} (ho : OpR X (compareOp op) r) (ho' : OpR X (compareOp op') r') (ha : PE X a ta) (hb : PE X b tb) (hc : PE X c tc)
    (hm : lastMarks [op, op'] [b, c] = false := by with_unfolding_all rfl) : PT X (.Compare a [op, op'] [b, c] pos) (xB (xChain r r' ta tb tc)) := by
  refine ⟨fun pins s0 σ H Q J h => ?_⟩
  refine isTrue_chain (thn (ha.run pins s0 σ H _ J h) fun v s1 ⟨x, H1, J1, r1, q1⟩ => test_link (thn (hb.run pins s1 σ H1 _ J1 q1) fun u s2 ⟨y, H2, J2, r2, q2⟩ =>
    thn (ho pins s2 σ H2 x y v u _ J2 r1 r2 q2) fun d s3 ⟨z, H3, J3, r3, q3⟩ => ?_)) hm
  cases z with
  | bl k =>
    cases r3
    refine wpAny_truthy_bool ?_
    cases k with
    | false => exact ite_ff ⟨H3, J3, q3.2 rfl⟩
    | true =>
      refine ite_tt (test_last (thn (hc.run pins s3 σ H3 _ J3 (q3.1 rfl)) fun w' s4 ⟨z', H4, J4, r4, q4⟩ => thn (ho' pins s4 σ H4 y z' u w' _ J4 r2 r4 q4) fun d' s5 ⟨z2, H5, J5, r5, q5⟩ => ?_))
      cases z2 with
      | bl k2 =>
        cases r5
        exact wpAny_truthy_bool ⟨H5, J5, q5⟩
      | _ => exact False.elim q5
  | _ => exact False.elim q3
/-- while: a word with its measure -/
def xWhile (c : TT) (tb : TS) : TS := fun D σ H => ∃ W : Nat → L2.St → Hp → Prop, (∃ m, W m σ H) ∧ ∀ m σ H, W m σ H → c σ H fun b H1 =>
  (b = true → tb { D with nx := fun σ' H' => ∃ m', m' < m ∧ W m' σ' H', ct := fun σ' H' => ∃ m', m' < m ∧ W m' σ' H', bk := D.nx } σ H1) ∧ (b = false → D.nx σ H1)
theorem xs_while {c : Expr} {body : List Stmt} {tc : TT} {tb : TS} (hp : PassesOwn (model X.prog X.w) X.A X.env X.xe) (hc : PT X c tc) (hb : PSs X body tb) : PS X (.While c body [] pos) (xWhile tc tb) := by
  refine ⟨fun pins s0 σ H D J h => ?_⟩
  obtain ⟨W, ⟨m0, w0⟩, turn⟩ := h
  refine wpAny_While (codeAny_whileLoop (fun n s' => ∃ σ' H', L2.Inv X pins σ' H' s' ∧ W n σ' H') ?_ m0 ⟨σ, H, J, w0⟩)
  rintro n s1 ⟨σ1, H1, J1, w1⟩
  refine wpAny_passesOwn hp (thn (hc.run pins s1 σ1 H1 _ J1 (turn n σ1 H1 w1)) fun k s2 ⟨H2, J2, q2⟩ => ?_)
  cases k with
  | true =>
    rw [if_pos rfl]
    refine wpAny_passesOwn hp (thn (hb.run pins s2 σ1 H2 _ J2 (q2.1 rfl)) fun f s3 q3 => ?_)
    cases f with
    | next =>
      obtain ⟨σ3, H3, J3, m', hm, w3⟩ := q3
      exact ⟨m', hm, σ3, H3, J3, w3⟩
    | cont =>
      obtain ⟨σ3, H3, J3, m', hm, w3⟩ := q3
      exact ⟨m', hm, σ3, H3, J3, w3⟩
    | brk => exact q3
    | ret v => exact q3
  | false =>
    rw [if_neg Bool.false_ne_true]
    exact wpAny_execs_nil ⟨σ1, H2, J2, q2.2 rfl⟩
/-- a comparison by an own method (__le__ ..) of two instances of C -/
def yOwn (C : Addr) (sp : Sp) (E : XK) : R2 := fun x y H Q => ∃ a b dx dy fs gs, x = .ref a ∧ y = .ref b ∧ H a = some (.ins C dx fs) ∧ H b = some (.ins C dy gs) ∧ sp [.ref a, .ref b] H Q E
theorem op_own {CX : CXT} {C f : Addr} {fd : FuncData} {ps : List Str} {sp : Sp} {E : XK} {op : CmpOp} {n : Nat} (hop : compareOp op = richCompare op) (F : FnOk X.prog X.w X.K X.mg X.base CX n f fd ps sp)
    (hs : PySem.W.findIn X.K (.ref C) (cmpInfo op).2.1 = some (some (.ref f))) (hf : PySem.W.isFn X.K (.ref f) = true) (hb : Binds X.K fd ps []) (hx : Passes CX X E) (hr : Room n X.A) : OpR X (compareOp op) (yOwn C sp E) := by
  intro pins s σ H x y u v Q I rx ry h
  obtain ⟨a, b, dx, dy, fs, gs, rfl, rfl, ha, hb', hsp⟩ := h
  cases rx
  cases ry
  rw [hop]
  obtain ⟨mA, J1, _⟩ := ins_get I.hok ha
  obtain ⟨mB, J2, _⟩ := ins_get I.hok hb'
  obtain ⟨od, J1, _⟩ := J1.look
  obtain ⟨od', J2, _⟩ := J2.look
  obtain ⟨m, hF⟩ := I.fr
  refine PySem.W.cmp_K (op := op) (tb := .ref C) hr.units0 hF I.ok.mod.kin J1 J2.type (by simp [PySem.W.notFirst]) hs hf ?_
  have hl := F.len _ _ _ _ hsp
  refine wpAny_mono (run_fn (us := [.ref a, .ref b]) (vs := [.ref a, .ref b]) (dvs := []) F hr hb .nil hx I (.cons rfl (.cons rfl .nil)) hsp) (fun v s' q => ?_) fun _ _ e => e
  obtain ⟨z, H', I', rz, q⟩ := q
  have fin : EP X pins σ Q v s' := ⟨z, H', I', rz, q⟩
  cases v <;> first | exact fin | (cases z <;> first | exact absurd (show _ = _ from rz) (by intro e; cases e) | (obtain ⟨_, e⟩ := rz; cases e))
variable (K : PySem.W.Frag)
theorem pe_fldK {f : Str} (ha : PE X a ta) (hb : attributeBase a f X.env (eval a X.env) = eval a X.env := by rfl) (h : X.K = K := by rfl) : PE X (.Attribute a f pos) (tFld K ta f) := h ▸ pe_fld ha hb
theorem in_seqK (h : X.K = K := by rfl) : OpR X (compareOp .In) (rIn K false) := h ▸ op_in_seq
theorem notin_seqK (h : X.K = K := by rfl) : OpR X (compareOp .NotIn) (rIn K true) := h ▸ op_notIn_seq
theorem mt_countK (h : X.K = K := by rfl) : MtR X "list.count" (rCntI K) := h ▸ mt_lcount
theorem cr_allK (hc : X.calm = true) (h : X.K = K := by rfl) : CallR X (.builtin "all") (rAll K) := h ▸ cr_all hc
theorem cr_anyK (hc : X.calm = true) (h : X.K = K := by rfl) : CallR X (.builtin "any") (rAny K) := h ▸ cr_any hc
end
theorem xe_glob {X : Cx} {x z : Str} {pos : Pos} (hg : Gl X x) (hm : ∃ t, X.mg x = some (.str z t)) (hd : (x == ("__debug__" : Str)) = false := by decide) : PE X (.Name x pos) (tC (.str z)) := by
  obtain ⟨t, hm⟩ := hm
  exact pe_glob hg hm ⟨_, rfl⟩ hd
theorem xe_globI {X : Cx} {x : Str} {z : Int} {pos : Pos} (hg : Gl X x) (hm : ∃ t, X.mg x = some (.int z t)) (hd : (x == ("__debug__" : Str)) = false := by decide) : PE X (.Name x pos) (tC (.int z)) := by
  obtain ⟨t, hm⟩ := hm
  exact pe_glob hg hm ⟨_, rfl⟩ hd
theorem prd_unsnoc {α β : Type} {F : α → β → Prop} {x : α} : ∀ {xs : List α} {ys : List β}, Paired F (xs ++ [x]) ys → ∃ ys' y, ys = ys' ++ [y] ∧ Paired F xs ys' ∧ F x y
  | [], _, .cons r .nil => ⟨[], _, rfl, .nil, r⟩
  | _ :: xs, _, .cons (b := b) r t => by
    obtain ⟨ys', y, rfl, h1, h2⟩ := prd_unsnoc (xs := xs) t
    exact ⟨b :: ys', y, rfl, .cons r h1, h2⟩
theorem nil_or_snoc {α : Type} (xs : List α) : xs = [] ∨ ∃ ys y, xs = ys ++ [y] := by
  rcases List.eq_nil_or_concat xs with h | ⟨ys, y, h⟩
  · exact .inl h
  · exact .inr ⟨ys, y, by simpa using h⟩
theorem pg_tupK {X : Cx} (K : PySem.W.Frag) (n : Nat) {es : List Expr} {k : Nat} {pos : Pos} {t : TGs} (h : PGs X es t) (hc : X.calm = true := by rfl) (hK : X.K = K := by rfl)
    (hn : (assignEach es X.env).length = n := by rfl) (hst : (assignEach es X.env).findIdx? (·.1) = none := by rfl) : PG X (.Tuple es k pos) (gTup K n t) := hK ▸ pg_tup hc h hn hst
theorem perm_erase {α : Type} : ∀ {xs : List α} {i : Nat} {x : α}, xs[i]? = some x → (x :: xs.eraseIdx i).Perm xs
  | [], _, _, h => by simp at h
  | y :: r, 0, x, h => by
    simp at h
    subst h
    exact List.Perm.refl _
  | y :: r, i + 1, x, h => by
    rw [List.getElem?_cons_succ] at h
    exact (List.Perm.swap _ _ _).trans (List.Perm.cons _ (perm_erase h))
theorem Sep.new2 {G H : Hp} {M : List (Addr × HO)} {x dx : Addr} {o u : HO} (S : Sep G M H) (h1 : H x = Option.none) (h2 : H dx = Option.none) (ne : dx ≠ x) : Sep G ((x, o) :: (dx, u) :: M) (upd (upd H dx u) x o) :=
  (S.new h2).new (by rw [upd_ne (Ne.symm ne)]; exact h1)
end XL
set_option Elab.async false
set_option linter.all false
set_option maxRecDepth 100000
set_option maxHeartbeats 4000000
/-! XIter: enumerate of a tuple. -/
namespace XL
open PySem PySem.Spec PyProof.Rows L2
theorem meets_enum1 {v : Value} {o : Obj} {Hq : Heap → Prop} (B : Begins v o Hq) :
    Meets (Builtin.«enumerate.__new__» ⟨[.type "enumerate", v], []⟩) (fun _ R s => Hq s.heap ∧
      R (.ok (.ret (.ref (s.heap.push o).objs.size))) { s with heap := (s.heap.push o).push { cls := .type "enumerate", data := .fields #[.none, .bool false, .ref s.heap.objs.size, rawInt 0, .none, .none] } }) :=
  .of_wp fun prog w A R s z => by
    obtain ⟨hp, g, d, tk, os⟩ := s
    obtain ⟨z1, z2⟩ := z
    have hsub := sub_enumerate
    have begin1 : ∀ {A' : Around} {E : Value → Shared → Prop} {Q : Value → Shared → Prop}, Q (.ref hp.objs.size) ⟨hp.push o, g, d, tk, os⟩ → wpAny (model prog w) A' (pyIter v) Q E ⟨hp, g, d, tk, os⟩ := fun q => B.iter prog w _ _ ⟨hp, g, d, tk, os⟩ _ z1 q
    wp_walk using begin1
    refine wpAny_stack_any fun st => wpAny_pure ?_
    split
    · rename_i c _ _ _ _ _
      cases (c == Value.type "enumerate") <;> (wp_walk using begin1; exact ⟨_, rfl, z2⟩)
    · wp_walk using begin1
      exact ⟨_, rfl, z2⟩
theorem call_enum1 {prog : Program} {w : World} {A : Around} {E : Value → Shared → Prop} {s : Shared} {v : Value} {o : Obj} {Hq : Heap → Prop} {Q : Value → Shared → Prop} (B : Begins v o Hq) (h1 : Hq s.heap)
    (k : ∀ h', IsEnum h' (s.heap.objs.size + 1) s.heap.objs.size 0 .none → h'.get? s.heap.objs.size = some o → (∀ b o, s.heap.get? b = some o → h'.get? b = some o) → Q (.ref (s.heap.objs.size + 1)) { s with heap := h' }) :
    wpAny (model prog w) A (call (.type "enumerate") [v]) Q E s := by
  refine callType_new F.called_enumerate (by decide) (F.typeCall_enumerate_1 _) (F.newCall_enumerate_1 _) (fun ob => F.args_object_init_2 ob _) F.entry_enumerate_new (meets_enum1 B) ⟨h1, ?_⟩
  have hz : (s.heap.push o).objs.size = s.heap.objs.size + 1 := Heap.size_push ..
  show _ ∧ _
  rw [hz]
  have he : IsEnum ((s.heap.push o).push { cls := .type "enumerate", data := .fields #[.none, .bool false, .ref s.heap.objs.size, rawInt 0, .none, .none] }) (s.heap.objs.size + 1) s.heap.objs.size 0 .none := by
    have z := Heap.get?_push_size (s.heap.push o) (o := { cls := .type "enumerate", data := .fields #[.none, .bool false, .ref s.heap.objs.size, rawInt 0, .none, .none] }) rfl
    rw [hz] at z
    exact z
  exact ⟨⟨_, he, rfl⟩, k _ he (Heap.get?_push_of_some _ (Heap.get?_push_size _ B.free)) fun b o x => Heap.get?_push_of_some _ (Heap.get?_push_of_some _ x)⟩
/-- the tuple at a, each item in a new pair -/
def IteT (K : PySem.W.Frag) (a : Addr) : It :=
  ⟨fun i H => ∃ (xs : List V) (x : V), SqT K H a xs ∧ xs[i]? = some x, fun i H v H' => ∃ T x, v = .ref T ∧ H T = none ∧ H' = upd H T (.tup [.int (i : Nat), x]) ∧ ∀ xs, SqT K H a xs → xs[i]? = some x, fun i H => ∃ xs : List V, SqT K H a xs ∧ xs.length ≤ i⟩
theorem turn_enumT {P : Program} {w : World} {K : PySem.W.Frag} {elts : List Expr} {kk : Nat} {tpos : Pos} (a e it : Addr) (hai : a ≠ it) (hae : a ≠ e) :
    Turn P w K (.Tuple elts kk tpos) (IteT K a) [e, it] e (fun i h => (∃ old, IsEnum h e it ((i : Nat) : Int) old) ∧ h.IsTupleIter it a i ∧ e ≠ it) where
  mem := by simp
  obj := fun i h st b hb => by
    obtain ⟨⟨old, he⟩, ⟨o, ho, hc, hd⟩, _⟩ := st
    have q : b = e ∨ b = it := by simpa using hb
    rcases q with z | z
    · rw [z]; exact ⟨_, he, fun v q => nomatch q⟩
    · rw [z]; exact ⟨o, ho, fun v q => by rw [hd] at q; cases q⟩
  keep := fun i h h' st k => let ⟨⟨old, he⟩, hi, hne⟩ := st; ⟨⟨old, k e (by simp) _ he⟩, hi.at fun o q => k it (by simp) o q, hne⟩
  item := by
    intro X hP hw hK hc i pins s σ H E I hf st hg
    subst hP hw hK
    obtain ⟨⟨old, he⟩, hit, hne⟩ := st
    obtain ⟨xs, x, hq, hx⟩ := hg
    obtain ⟨its, rv, p, hz⟩ := I.tuple hq
    obtain ⟨u, hu, ru⟩ := rv.get hx
    have hel : e < s.heap.objs.size := Heap.lt_size he
    have hil : it < s.heap.objs.size := by obtain ⟨_, q, _⟩ := hit; exact Heap.lt_size q
    have hlen : i < its.toArray.size := by
      have z := (List.getElem?_eq_some_iff.mp hu).1
      simpa using z
    refine wpAny_pyNext_enum_itemC (c := ((i : Nat) : Int)) (Draws.tuple (A := X.A.in1) (I.ok.hd hc) it a hai its.toArray) he ⟨hit, p⟩ hlen hne (by simp; exact ⟨hne, fun z => hae z.symm⟩) fun y h' tk hy ho st' hT hsz hk => ?_
    have ey : y = u := by
      have z : its[i]? = some y := by simpa using hy
      rw [hu] at z
      exact (Option.some.inj z).symm
    subst ey
    refine ⟨_, rfl, wpAny_letOwnedTupleGo_enum (s := { s with heap := h', toks := tk + 1 }) ho fun h'' he' sb => ?_⟩
    have hT2 : h''.get? s.heap.objs.size = some { cls := .type "tuple", data := .seq #[.int i tk, y] } := (sb.2 _ (Nat.ne_of_gt hel)).trans hT
    have new : ObjOk X.prog X.w (upd H s.heap.objs.size (.tup [.int (i : Nat), x])) h'' s.heap.objs.size (.tup [.int (i : Nat), x]) :=
      ⟨by show 2 ≤ sizeLine; decide, [.int i tk, y], .cons ⟨_, rfl⟩ (.cons ru .nil), ⟨_, hT2, rfl, _, rfl⟩⟩
    have I1 : L2.Inv X pins σ (upd H s.heap.objs.size (.tup [.int (i : Nat), x])) { s with heap := h'', toks := tk + 1 } :=
      I.turnedNew (ch := [e, it]) (fun b ob hb q => (sb.2 b (fun z => hb (by simp [z]))).trans (hk b ob (fun z => hb (by simp [z])) (fun z => hb (by simp [z])) q)) hf (Nat.le_refl _) new
    refine ⟨.ref s.heap.objs.size, _, I1, rfl, ⟨_, x, rfl, I.hok.fresh (Nat.le_refl _), rfl, fun ys hy => by rw [I.tuple_inj hy hq]; exact hx⟩, ⟨⟨y, ?_⟩, st'.1.at fun o q => (sb.2 it (Ne.symm hne)).trans q, hne⟩, fun b hb => ?_⟩
    · have e1 : ((i + 1 : Nat) : Int) = (i : Int) + 1 := by omega
      rw [e1]; exact he'
    · have hb2 : b < s.heap.objs.size := by
        have q : b = e ∨ b = it := by simpa using hb
        rcases q with z | z
        · rw [z]; exact hel
        · rw [z]; exact hil
      rw [upd_ne (Nat.ne_of_lt hb2)]
      exact (hf b hb).1
  done := by
    intro X hP hw hK hc i pins s σ H E I hf st hg
    subst hP hw hK
    obtain ⟨⟨old, he⟩, hit, hne⟩ := st
    obtain ⟨xs, hq, hx⟩ := hg
    obtain ⟨its, rv, p, hz⟩ := I.tuple hq
    obtain ⟨f0, f1, f2, f3, f4, f5⟩ := hf it (by simp)
    have hl := rv.length
    have D := Draws.tuple (prog := X.prog) (w := X.w) (A := X.A.in1) (I.ok.hd hc) it a hai its.toArray
    by_cases hi : i = its.toArray.size
    · subst hi
      exact wpAny_pyNext_enum_endD D he ⟨hit, p⟩ fun h' eb => ⟨rfl, I.turned (t' := s.toks) (fun b o hb q => eb b o hb q) f0 f1 f3 f4 f5⟩
    · have D2 : Draws X.prog X.w X.A.in1 it [it, a] i (fun _ _ => False) (fun j h => (j = i ∨ False) ∧ h.IsTupleIter it a i ∧ h.IsTuple a its.toArray) := {
        live := fun _ _ st => let ⟨o, ho, _⟩ := st.2.1; ⟨o, ho⟩
        frame := fun _ _ _ st hk => ⟨st.1, st.2.1.at fun o e => hk it (by simp) o e, st.2.2.at fun o e => hk a (by simp) o e⟩
        item := fun j s Q E hj st hQ => by
          rcases st.1 with z | z
          · omega
          · exact z.elim
        done := fun s Q E st hE => wpAny_nextOf_tuple_end (I.ok.hd hc) st.2.1 st.2.2 (by
          simp only [List.getElem?_toArray]
          exact List.getElem?_eq_none_iff.mpr (by omega)) hE }
      exact wpAny_pyNext_enum_endD D2 he ⟨.inl rfl, hit, p⟩ fun h' eb => ⟨rfl, I.turned (t' := s.toks) (fun b o hb q => eb b o hb q) f0 f1 f3 f4 f5⟩
  self := fun A i s Q E st h => let ⟨⟨_, he⟩, _⟩ := st; wpAny_pyIter_enum he h
def iEnumT (K : PySem.W.Frag) (ta : TA) : TI := fun σ H R => ta σ H fun vs H1 => ∃ a xs, vs = [.ref a] ∧ SqT K H1 a xs ∧ R (IteT K a) H1
theorem pi_enumT {X : Cx} {e : Expr} {ta : TA} {p pos tpos : Pos} {elts : List Expr} {kk : Nat} (hg : Gl X "enumerate") (hm : X.mg "enumerate" = none) (ha : PA X [e] ta) (hs : starEach [e] X.env = [(false, eval e X.env)] := by rfl) :
    PI X (.Tuple elts kk tpos) (.Call (.Name "enumerate" p) [e] [] pos) (iEnumT X.K ta) := by
  refine ⟨fun pins s σ H R I h => ?_⟩
  refine Call_ (ld_blt I hg hm boot_enumerate (PyProof.Rows.callWith_type1 (thn (ha.run pos pins s σ H _ I h) fun us s1 ⟨vs, H1, I1, r1, q1⟩ => ?_) hs rfl))
  obtain ⟨a, xs, ex, hq, q⟩ := q1
  subst ex
  cases r1 with
  | cons r rr =>
    cases rr
    cases r
    obtain ⟨its, rv, p', hz⟩ := I1.tuple hq
    have hal : a < s1.heap.objs.size := by obtain ⟨o, ho, _⟩ := p'; exact Heap.lt_size ho
    refine call_enum1 (begins_tuple a its.toArray) p' fun h' he hit hk => wpAny_pyIter_enum he ?_
    have I2 : L2.Inv X pins σ H1 { s1 with heap := h' } := I1.kept (t' := s1.toks) hk
    refine ⟨s1.heap.objs.size + 1, [s1.heap.objs.size + 1, s1.heap.objs.size], _, _, H1, rfl, I2, turn_enumT a (s1.heap.objs.size + 1) s1.heap.objs.size (Nat.ne_of_lt hal) (Nat.ne_of_lt (Nat.lt_succ_of_lt hal)), ⟨⟨.none, he⟩, ⟨_, hit, rfl, rfl⟩, Nat.succ_ne_self _⟩, fun b hb => ?_, q⟩
    have q' : b = s1.heap.objs.size + 1 ∨ b = s1.heap.objs.size := by simpa using hb
    have hle : s1.heap.objs.size ≤ b := by
      rcases q' with z | z
      · rw [z]; exact Nat.le_add_right _ _
      · rw [z]; exact Nat.le_refl _
    exact I1.fpOk hle (I1.hok.fresh hle)
theorem for_enumT {K : PySem.W.Frag} {a : Addr} {xs : List V} {tb : TS} {D : Ends} {σ : L2.St} {H : Hp} {i j : Nat} (Pv : Nat → L2.St → Hp → Prop) (h0 : Pv 0 σ H) (hl : ∀ k σ H, Pv k σ H → SqT K H a xs)
    (hs : ∀ k x σ H T, xs[k]? = some x → Pv k σ H → H T = none →
      tb { D with nx := Pv (k + 1), ct := Pv (k + 1), bk := D.nx } ((σ.set i (some (.int (k : Nat)))).set j (some x)) (upd H T (.tup [.int (k : Nat), x]))) (hd : ∀ σ H, Pv xs.length σ H → D.nx σ H) :
    ∃ W : Nat → Nat → L2.St → Hp → Prop, (∃ m, W 0 m σ H) ∧ ∀ k m σ H, W k m σ H →
      ((IteT K a).stop k H ∧ D.nx σ H) ∨ ((IteT K a).go k H ∧ ∃ N : L2.St → Hp → Prop, (∀ σ' H', N σ' H' → ∃ m', m' < m ∧ W (k + 1) m' σ' H') ∧ ∀ x H', (IteT K a).yld k H x H' →
        (gTup K 2 (gCons (gName i) (gCons (gName j) gNil))) x σ H' fun σ2 H2 => tb { D with nx := N, ct := N, bk := D.nx } σ2 H2) := by
  refine ⟨fun k m σ H => m = xs.length - k ∧ k ≤ xs.length ∧ Pv k σ H, ⟨xs.length, by simp, Nat.zero_le _, h0⟩, ?_⟩
  rintro k m σ H ⟨rfl, hk, p⟩
  have q := hl _ σ H p
  by_cases hlt : k < xs.length
  · refine .inr ⟨⟨xs, xs[k], q, by simp [hlt]⟩, Pv (k + 1), fun σ' H' p' => ⟨xs.length - (k + 1), by omega, rfl, hlt, p'⟩, fun v H' y => ?_⟩
    obtain ⟨T, x, rfl, nT, rfl, hx⟩ := y
    refine ⟨T, _, rfl, SqT.of upd_same, rfl, _, _, rfl, _, _, rfl, rfl, ?_⟩
    exact hs k x σ H T (hx xs q) p nT
  · have e : k = xs.length := by omega
    subst e
    exact .inl ⟨⟨xs, q, Nat.le_refl _⟩, hd σ H p⟩
end XL
set_option Elab.async false
set_option linter.all false
set_option maxRecDepth 100000
set_option maxHeartbeats 4000000
/-! XDeep: x in t, t.index(x), items data of any depth, t a list or a tuple. -/
namespace XL
open PySem PySem.Spec PyProof.Rows L2
section
variable {X : Cx} (K : PySem.W.Frag)
def rInX (K : PySem.W.Frag) (neg : Bool) : R2 := fun x y H Q => ∃ d ds, Dp K H x d ∧ (Dp K H y (.list ds) ∨ Dp K H y (.tuple ds)) ∧ SeqAt.shaped d = true ∧ PyData.canLayAll0 ds = true ∧ Q (.bl (if neg then !(ds.any fun z => PyData.eqv z d) else ds.any fun z => PyData.eqv z d)) H
theorem in_deepK (hu : X.A.units + 65 < cLine) (h : X.K = K := by rfl) : OpR X (compareOp .In) (rInX K false) := by
  subst h
  intro pins s σ H x y v u Q I rx ry h
  obtain ⟨d, ds, hd, he, sd, se, q⟩ := h
  obtain ⟨as, r1⟩ := Dp.reads I d x v hd rx
  rcases he with he | he
  · obtain ⟨bs, r2⟩ := Dp.reads I (.list ds) y u he ry
    exact SeqAt.in_list_reads r2 r1 se (SeqAt.canLay_of_shaped sd) (room_in_shaped sd hu) ⟨.bl _, H, I, rfl, q⟩
  · obtain ⟨bs, r2⟩ := Dp.reads I (.tuple ds) y u he ry
    exact SeqAt.in_tuple_reads r2 r1 se (SeqAt.canLay_of_shaped sd) (room_in_shaped sd hu) ⟨.bl _, H, I, rfl, q⟩
theorem notin_deepK (hu : X.A.units + 65 < cLine) (h : X.K = K := by rfl) : OpR X (compareOp .NotIn) (rInX K true) := by
  subst h
  intro pins s σ H x y v u Q I rx ry h
  obtain ⟨d, ds, hd, he, sd, se, q⟩ := h
  obtain ⟨as, r1⟩ := Dp.reads I d x v hd rx
  rcases he with he | he
  · obtain ⟨bs, r2⟩ := Dp.reads I (.list ds) y u he ry
    exact SeqAt.notIn_list_reads r2 r1 se (SeqAt.canLay_of_shaped sd) (room_in_shaped sd hu) ⟨.bl _, H, I, rfl, q⟩
  · obtain ⟨bs, r2⟩ := Dp.reads I (.tuple ds) y u he ry
    exact SeqAt.notIn_tuple_reads r2 r1 se (SeqAt.canLay_of_shaped sd) (room_in_shaped sd hu) ⟨.bl _, H, I, rfl, q⟩
/-- t.index(x), t a tuple: the first place of an equal one -/
def rIndexT (K : PySem.W.Frag) : V → List V → Hp → VK → Prop := fun x xs H Q => ∃ (a : Addr) (y : V) (d : PyData) (ds : List PyData) (j : Nat) (z : PyData), x = V.ref a ∧ xs = [y] ∧ Dp K H (V.ref a) (.tuple ds) ∧ Dp K H y d ∧
  PyData.canLayAll0 ds = true ∧ SeqAt.shaped d = true ∧ ds[j]? = some z ∧ PyData.eqv z d = true ∧ (∀ (m : Nat) (z' : PyData), m < j → ds[m]? = some z' → PyData.eqv z' d = false) ∧ Q (.int (j : Nat)) H
theorem mt_tindexK (hu : X.A.units + 65 < cLine) (h : X.K = K := by rfl) : MtR X "tuple.index" (rIndexT K) := by
  subst h
  intro pins s σ H x xs v us Q I rx rxs h
  obtain ⟨a, y, d, ds, j, z, rfl, rfl, hl, hy, hxs, sd, hz, hzj, hno, q⟩ := h
  cases rx
  cases rxs with
  | cons ry rt =>
    rename_i uy ut
    cases rt
    obtain ⟨bs, r1⟩ := Dp.reads I d y uy hy ry
    have hroom : X.A.units + 1 + min (PyData.depthAll ds) d.depth < cLine := room_in_shaped sd hu
    cases hl with
    | tup hs ha =>
      obtain ⟨its, rv, ⟨⟨cls, dd, data, sls⟩, ho, hc, n, hdt⟩, hlen⟩ := I.tuple hs
      simp only at hc hdt
      subst hc hdt
      obtain ⟨as, h4⟩ := Dp.readsAll I ds _ its ha rv
      have hn : its.length = ds.length := SeqAt.ReadsAll.length ds its as h4
      have hmap : its.map (SeqAt.readOf s.heap) = ds := SeqAt.readsAll_map ds its as hxs h4
      have hvl := rv.length
      obtain ⟨hjd, _⟩ := List.getElem?_eq_some_iff.mp hz
      have hjl : j < its.length := by omega
      have hj : j < its.toArray.size := by simpa using hjl
      have at_ : ∀ (m : Nat) (hm : m < its.toArray.size) (z' : PyData), ds[m]? = some z' → SeqAt.readOf s.heap its.toArray[m] = z' := by
        intro m hm z' hz'
        have hml : m < its.length := by simpa using hm
        rw [← hmap, List.getElem?_map, List.getElem?_eq_getElem hml] at hz'
        have e1 : SeqAt.readOf s.heap its[m] = z' := Option.some.inj (show some (SeqAt.readOf s.heap its[m]) = some z' from hz')
        simpa using e1
      refine call_meets PySem.F.slot_tuple_index ⟨_, ho, rfl⟩ PySem.F.entry_tuple_index (PySem.F.args_tuple_index_2 _ _)
        (TI.tuple_indexAt a its.toArray n dd sls uy (fun u => PyData.eqv (SeqAt.readOf s.heap u) d) j hj ?_ ?_) ⟨ho, SeqAt.items_eqAt (vs := its.toArray) (show ReadsAll s.heap its.toArray.toList ds as from h4) r1 hxs (SeqAt.canLay_of_shaped sd) hroom, ?_⟩
      · show PyData.eqv (SeqAt.readOf s.heap its.toArray[j]) d = true
        rw [at_ j hj z hz]
        exact hzj
      · intro m hm hmj
        have hmd : m < ds.length := by omega
        have hz' : ds[m]? = some ds[m] := List.getElem?_eq_getElem hmd
        show PyData.eqv (SeqAt.readOf s.heap its.toArray[m]) d = false
        rw [at_ m hm _ hz']
        exact hno m _ hmj hz'
      · exact ⟨.int (j : Nat), H, I.tok _, ⟨_, rfl⟩, q⟩
end
theorem u65 {k : Nat} {A : Around} (r : Room k A) : A.units + 65 < cLine := by have := r.un; omega
/-- xs[::-1] of a list -/
def tRev (K : PySem.W.Frag) (te : TE) : TE := fun σ H Q => te σ H fun x H1 => ∃ a xs, x = .ref a ∧ SqL K H1 a xs ∧ ∀ p, H1 p = none → Q (.ref p) (upd H1 p (.lst xs.reverse))
theorem pe_rev {X : Cx} {e m : Expr} {te : TE} {p2 pos : Pos} (he : PE X e te) (hm : PE X m (tC (.int (-1)))) : PE X (.Subscript e (.Slice none none (some m) p2) pos) (tRev X.K te) := by
  refine ⟨fun pins s σ H Q I h => ?_⟩
  refine Subscript_ (thn (he.run pins s σ H _ I h) fun v s1 ⟨x, H1, I1, r1, q1⟩ => ?_)
  refine wpAny_Slice (wpAny_evalPart_none (wpAny_evalPart_none (wpAny_evalPart_some (thn (hm.run pins s1 σ H1 (fun y H2 => y = .int (-1) ∧ H2 = H1) I1 ⟨rfl, rfl⟩) fun vm s3 ⟨y, H3, I3, r3, ey, eH⟩ => ?_))))
  subst ey eH
  obtain ⟨t, rfl⟩ := r3
  obtain ⟨a, xs, rfl, hx, q⟩ := q1
  cases r1
  have I4 : L2.Inv X pins σ H3 { s3 with heap := s3.heap.push { cls := .type "slice", data := .fields #[.none, .none, .int (-1) t] } } := I3.kept (t' := s3.toks) fun b ob q => Heap.get?_push_of_some _ q
  obtain ⟨its, r, ht, hz⟩ := I4.list hx
  have hlen := r.length
  show wpAny (model X.prog X.w) X.A (subscriptTail e (.Slice none none (some m) p2) (.ref a) (.ref s3.heap.objs.size)) (EP X pins σ Q) X.xe { s3 with heap := s3.heap.push { cls := .type "slice", data := .fields #[.none, .none, .int (-1) t] } }
  refine tail_any (ops := [.ref a, .ref s3.heap.objs.size]) ht.isList.typeIs slot_list_getitem.lookup ?_ (by with_unfolding_all rfl)
  refine wpAny_getItem_list_slice ht.isList (Heap.IsSliceOf.new ..) .none .none (.int (-1) t) (by decide) ?_ (by rw [List.size_toArray] <;> omega)
  rw [PySem.W.krv_pick]
  refine ⟨.ref _, _, I4.laid (t' := s3.toks) (o := .lst xs.reverse) (fun b ob q => Heap.get?_push_of_some _ q) (Nat.le_refl _) ?_, rfl, q _ (I4.hok.fresh (Nat.le_refl _))⟩
  exact ⟨by rw [List.length_reverse]; exact hz, _, 0, r.reverse, Heap.get?_push_size _ rfl⟩
theorem pe_revK {X : Cx} {e m : Expr} {te : TE} {p2 pos : Pos} (K : PySem.W.Frag) (he : PE X e te) (hm : PE X m (tC (.int (-1)))) (h : X.K = K := by rfl) : PE X (.Subscript e (.Slice none none (some m) p2) pos) (tRev K te) := h ▸ pe_rev he hm
theorem tst {b : Bool} {A B : Prop} (h1 : b = true → A) (h0 : b = false → B) : if b = true then A else B := by
  cases b
  · exact h0 rfl
  · exact h1 rfl
theorem sl_tupAK {X : Cx} (K : PySem.W.Frag) (h : X.K = K := by rfl) : SlR X (rSlA K) := h ▸ sl_tupA
/-! ### tuples whose object has no dict (so that their methods are reached) -/
def TupF (G : Hp) (a : Addr) (xs : List V) : Prop := ∃ o : Obj, o.dict = none ∧ G a = some (.frz o (.tup xs))
def Tu (G : Hp) (a : Addr) (xs : List V) : Prop := G a = some (.tup xs) ∨ TupF G a xs
theorem TupF.same {G G' : Hp} {a : Addr} {xs : List V} (e : Same G G') (h : TupF G a xs) : TupF G' a xs := let ⟨o, h1, h2⟩ := h; ⟨o, h1, e _ _ h2⟩
theorem Tu.same {G G' : Hp} {a : Addr} {xs : List V} (e : Same G G') (h : Tu G a xs) : Tu G' a xs := by
  rcases h with h | h
  · exact .inl (e _ _ h)
  · exact .inr (h.same e)
theorem Tu.sq {K : PySem.W.Frag} {H : Hp} {a : Addr} {xs : List V} (h : Tu H a xs) : SqT K H a xs := by
  rcases h with h | ⟨o, _, h⟩
  · exact .inl (.inl h)
  · exact .inl (.inr ⟨o, h⟩)
theorem Tu.ty {K : PySem.W.Frag} {H : Hp} {a : Addr} {xs : List V} (h : Tu H a xs) : TyX K H (.ref a) (.type "tuple") := by
  rcases h with h | ⟨o, _, h⟩
  · exact .base (.tup h)
  · exact .fTuple h
theorem TupF.tu {G : Hp} {a : Addr} {xs : List V} (h : TupF G a xs) : Tu G a xs := .inr h
section
variable {X : Cx} (K : PySem.W.Frag)
/-- tuple(xs) -/
def yTupF (K : PySem.W.Frag) : List V → Hp → VK → Prop := fun xs H Q => ∃ p ys, xs = [.ref p] ∧ ((SqL K H p ys ∧ ∀ l o, H l = none → o.dict = none → Q (.ref l) (upd H l (.frz o (.tup ys)))) ∨ (SqT K H p ys ∧ Q (.ref p) H))
theorem call_tupleFK (h : X.K = K := by rfl) : CallR X (.type "tuple") (yTupF K) := by
  subst h
  intro pins s σ H xs us Q I r h
  obtain ⟨p, ys, rfl, h⟩ := h
  obtain ⟨u, rfl, rx⟩ := vals1 r
  cases rx
  rcases h with ⟨hq, q⟩ | ⟨hq, q⟩
  · obtain ⟨its, r', pl, hz⟩ := I.list hq
    have hlen := r'.length
    refine call_tuple_list pl.isList (fun h' kp => ?_) (by simp only [List.size_toArray] <;> omega)
    have I1 : L2.Inv X pins σ H { s with heap := h' } := I.kept (t' := s.toks) kp
    have I2 : L2.Inv X pins σ (upd H h'.objs.size (.frz { cls := .type "tuple", data := .seq its.toArray } (.tup ys))) { s with heap := h'.push { cls := .type "tuple", data := .seq its.toArray } } :=
      I1.laid (t' := s.toks) (fun b o e => Heap.get?_push_of_some _ e) (Nat.le_refl _) (show ObjOk X.prog X.w _ _ _ (.frz { cls := .type "tuple", data := .seq its.toArray } (.tup ys)) from ⟨Heap.get?_push_size _ rfl, hz, its, r', IsTup.new _ _⟩)
    exact ⟨.ref h'.objs.size, _, I2, rfl, q _ _ (I1.hok.fresh (Nat.le_refl _)) rfl⟩
  · obtain ⟨its, r', pl, hz⟩ := I.tuple hq
    exact call_tuple_same pl ⟨.ref p, H, I, rfl, q⟩
/-- t.m(e, ..), t a tuple -/
def tTM (r : V → List V → Hp → VK → Prop) (to : TE) (t : TA) : TE := fun σ H Q => to σ H fun x H1 => (∃ a xs, x = .ref a ∧ TupF H1 a xs) ∧ t σ H1 fun vs H2 => r x vs H2 Q
theorem pe_tm {o e : Expr} {es : List Expr} {to : TE} {t : TA} {id : String} {name : Str} {apos cpos : Pos} {r : V → List V → Hp → VK → Prop} (slot : Slot "tuple" name id) (hty : typeOf (.builtin id) = pure (.type "method_descriptor")) (hm : MtR X id r) (ho : PE X o to) (ha : PA X (e :: es) t)
    (hbase : attributeBase o name X.env (eval o X.env) = eval o X.env := by rfl)
    (hfew : ((backTo cpos (starEach (e :: es) X.env)).all (fun x => !x.1) && (backToKw cpos (keywordEach [] X.env)).all (fun x => x.1.isSome)
      && decide ((e :: es).length + ([] : List Keyword).length + (if ([] : List Keyword).isEmpty then 0 else 1) < 30)) = true := by rfl)
    (hline : (apos.endLine == cpos.line) = true := by rfl) (hs : starEach (e :: es) X.env = (false, eval e X.env) :: starEach es X.env := by rfl) (hplain : (backTo cpos (starEach es X.env)).any (·.1) = false := by rfl) :
    PE X (.Call (.Attribute o name apos) (e :: es) [] cpos) (tTM r to t) := by
  refine ⟨fun pins s σ H Q I h => ?_⟩
  refine wpAny_Call_method_late hbase hfew hline rfl (thn (ho.run pins s σ H _ I h) fun v s1 ⟨x, H1, I1, r1, ty, q1⟩ => ?_)
  obtain ⟨a, xs, rfl, ob, hd, ha'⟩ := ty
  cases r1
  obtain ⟨h1, _, _, _, h2⟩ := I1.hok _ _ ha'
  refine ⟨"tuple", id, PySem.F.plainAttrs_tuple, slot, hty, ⟨ob, h1, ?_⟩, fun b e => ?_, ?_⟩
  · obtain ⟨ob', e1, e2, _⟩ := h2
    rw [h1] at e1
    rw [Option.some.inj e1]
    exact e2
  · cases e
    exact ⟨ob, h1, hd⟩
  have hA := ha.run cpos pins s1 σ H1 _ I1 q1
  rw [hs] at hA ⊢
  refine Calls.callWith_builtin (by show (false || (backTo cpos (starEach es X.env)).any (·.1)) = false; rw [hplain] <;> rfl) (Calls.evalArgs_plain ?_)
  exact thn hA fun us s2 ⟨vs, H2, I2, r2, q2⟩ => hm pins s2 σ H2 (V.ref a) vs (.ref a) us Q I2 rfl r2 q2
end
/-- t[lo:hi]: the whole of it is t itself -/
def rSlF (K : PySem.W.Frag) : V → Option Int → Option Int → Hp → VK → Prop := fun x lo hi H Q => ∃ a xs, x = .ref a ∧ SqT K H a xs ∧
  (HT.sIx xs.length 0 lo = 0 ∧ HT.sIx xs.length xs.length hi = xs.length → Q (.ref a) H) ∧ (¬ (HT.sIx xs.length 0 lo = 0 ∧ HT.sIx xs.length xs.length hi = xs.length) → ∀ p ob, H p = none → ob.dict = none → Q (.ref p) (upd H p (.frz ob (.tup (cutV xs lo hi)))))
theorem sl_tupFK {X : Cx} (K : PySem.W.Frag) (h : X.K = K := by rfl) : SlR X (rSlF K) := by
  subst h
  intro pins s σ H x v vl vu lo hi sl Q I rx hs pl pu h
  obtain ⟨a, xs, rfl, hx, q1, q2⟩ := h
  by_cases hw : HT.sIx xs.length 0 lo = 0 ∧ HT.sIx xs.length xs.length hi = xs.length
  · exact sl_tupA pins s σ H _ v vl vu lo hi sl Q I rx hs pl pu ⟨a, xs, rfl, hx, q1, fun z => absurd hw z⟩
  · cases rx
    obtain ⟨its, r, ht, hz⟩ := I.tuple hx
    have hlen : its.toArray.size = xs.length := by rw [List.size_toArray]; exact r.length.symm
    refine ⟨"tuple", _, PyProof.Rows.slot_tuple_getitem.lookup, ht.typeIs, ?_⟩
    refine HT.getItem_tuple_cut ht hs pl pu (by rw [hlen]; exact hw) ?_ (by rw [hlen]; exact hz)
    rw [hlen]
    refine ⟨.ref s.heap.objs.size, _, I.laid (t' := s.toks) (o := .frz { cls := .type "tuple", data := .seq (List.take (HT.sIx xs.length xs.length hi - HT.sIx xs.length 0 lo) (List.drop (HT.sIx xs.length 0 lo) its.toArray.toList)).toArray } (.tup (cutV xs lo hi))) (fun b ob q => Heap.get?_push_of_some _ q) (Nat.le_refl _) ?_, rfl, q2 hw _ _ (I.hok.fresh (Nat.le_refl _)) ?_⟩
    · exact ⟨Heap.get?_push_size _ rfl, Nat.le_trans (cutV_length xs lo hi) hz, _, (r.drop (HT.sIx xs.length 0 lo)).take (HT.sIx xs.length xs.length hi - HT.sIx xs.length 0 lo), IsTup.new _ _⟩
    · rfl
theorem Sep.sub {G H : Hp} {M M' : List (Addr × HO)} (S : Sep G M H) (h : M'.Sublist M) : Sep G M' H := ⟨S.1, fun p hp => S.2.1 p (h.subset hp), List.Nodup.sublist (h.map _) S.2.2⟩
theorem Sep.rot2 {G H : Hp} {a b c d : Addr × HO} {M : List (Addr × HO)} (S : Sep G (a :: b :: c :: d :: M) H) : Sep G (c :: d :: a :: b :: M) H := S.perm (List.perm_append_comm_assoc [a, b] [c, d] M)
theorem Sep.no3 {G H : Hp} {a b c : Addr × HO} {M : List (Addr × HO)} (S : Sep G (a :: b :: c :: M) H) : Sep G (a :: b :: M) H := S.sub ((List.sublist_cons_self c M).cons₂ b |>.cons₂ a)
/-! ### lists of ints, of pairs of ints, as data -/
def prd (p : Int × Int) : PyData := .tuple [.int p.1, .int p.2]
theorem prd_can (p : Int × Int) : (prd p).canLay0 = true := by simp [prd, PyData.canLay0, PyData.canLayAll0]
theorem prd_shaped (p : Int × Int) : SeqAt.shaped (prd p) = true := by
  unfold SeqAt.shaped
  rw [prd_can]
  simp [prd, PyData.depth, PyData.depthAll]
theorem prds_can : ∀ ps : List (Int × Int), PyData.canLayAll0 (ps.map prd) = true
  | [] => by simp [PyData.canLayAll0]
  | p :: r => by simp [PyData.canLayAll0, prd_can p, prds_can r]
theorem ints_can : ∀ ns : List Int, PyData.canLayAll0 (ns.map PyData.int) = true
  | [] => by simp [PyData.canLayAll0]
  | n :: r => by simp [PyData.canLayAll0, PyData.canLay0, ints_can r]
theorem prd_eqv (p q : Int × Int) : PyData.eqv (prd p) (prd q) = decide (p = q) := by
  obtain ⟨a, b⟩ := p
  obtain ⟨c, d⟩ := q
  simp only [prd, PyData.eqv, PyData.eqvAll, Bool.and_true]
  by_cases h1 : a = c <;> by_cases h2 : b = d <;> simp [h1, h2]
theorem int_shaped (n : Int) : SeqAt.shaped (.int n) = true := by simp [SeqAt.shaped, PyData.canLay0, PyData.depth]
theorem ints_dp {K : PySem.W.Frag} {H : Hp} : ∀ ns : List Int, DpAll K H (ns.map V.int) (ns.map PyData.int)
  | [] => .nil
  | n :: r => .cons (.int n) (ints_dp r)
theorem any_ints (n : Int) (ns : List Int) : ((ns.map PyData.int).any fun z => PyData.eqv z (.int n)) = decide (n ∈ ns) := by
  induction ns with
  | nil => rfl
  | cons m r ih =>
    rw [List.map_cons, List.any_cons, ih]
    show ((m == n) || decide (n ∈ r)) = decide (n ∈ m :: r)
    by_cases e : n = m
    · subst e; simp
    · have e2 : ¬ m = n := fun q => e q.symm
      simp [e, e2]
theorem any_prds (p : Int × Int) (ps : List (Int × Int)) : ((ps.map prd).any fun z => PyData.eqv z (prd p)) = decide (p ∈ ps) := by
  induction ps with
  | nil => rfl
  | cons q r ih =>
    rw [List.map_cons, List.any_cons, ih, prd_eqv]
    by_cases e : p = q
    · subst e; simp
    · have e2 : ¬ q = p := fun h => e h.symm
      simp [e, e2]
end XL
set_option Elab.async false
set_option linter.all false
set_option maxRecDepth 100000
set_option maxHeartbeats 4000000
/-! XOwn: o[i], o[i] = v by own methods. -/
namespace XL
open PySem PySem.Spec PyProof.Rows L2
section
variable {X : Cx} {CX : CXT} {C f : Addr} {fd : FuncData} {ps : List Str} {sp : Sp} {E : XK} {n : Nat} {o i : Expr} {to ti : TE} {pos : Pos}
def yIxO (C : Addr) (sp : Sp) (E : XK) : R2 := fun x y H Q => ∃ a dx fs, x = .ref a ∧ H a = some (.ins C dx fs) ∧ sp [.ref a, y] H Q E
theorem pe_ixO (ho : PE X o to) (hi : PE X i ti) (F : FnOk X.prog X.w X.K X.mg X.base CX n f fd ps sp) (hs : PySem.W.findIn X.K (.ref C) "__getitem__" = some (some (.ref f))) (hf : PySem.W.fnIn X.K f = true) (hfn : PySem.W.isFn X.K (.ref f) = true)
    (hb : Binds X.K fd ps []) (hx : Passes CX X E) (hr : Room (n + 1) X.A) (hsl : ∀ x v, subscripted i true (.ref x) v = runValue (.builtin "lifetime.subscript" ⟨[.ref x, v], []⟩) := by intro _ _; with_unfolding_all rfl) :
    PE X (.Subscript o i pos) (tOp (yIxO C sp E) to ti) := by
  refine ⟨fun pins s σ H Q I h => ?_⟩
  refine Subscript_ (thn (ho.run pins s σ H _ I h) fun v s1 ⟨x, H1, I1, r1, q1⟩ => thn (hi.run pins s1 σ H1 _ I1 q1) fun u s2 ⟨y, H2, I2, r2, q2⟩ => ?_)
  obtain ⟨a, dx, fs, rfl, ha, hsp⟩ := q2
  cases r1
  obtain ⟨mA, J, _⟩ := ins_get I2.hok ha
  obtain ⟨od, J, _⟩ := J.look
  obtain ⟨m, hF⟩ := I2.fr
  refine PySem.W.sub_K hF I2.ok.mod.kin J hs hf hfn ?_ (hsl _ _)
  have hl : ([Value.ref a, u] ++ []).length = ps.length := F.len _ _ _ _ hsp
  refine wpAny_call (codeAny_mono (F.run X.A.in1 X.stack s2 H2 ⟨[.ref a, u], []⟩ [.ref a, u] [.ref a, y] Q E hr.in1 I2.env0.in1 (hb s2 [.ref a, u] I2.kIn hl) (.cons rfl (.cons r2 .nil)) hsp) fun r s' hq => ?_)
  cases r with
  | error e => exact hx pins σ H2 s2 e s' I2 hq
  | ok fl =>
    cases fl with
    | ret u => exact I2.after hq
    | next => exact False.elim hq
    | brk => exact False.elim hq
    | cont => exact False.elim hq
def yStO (C : Addr) (sp : Sp) (E : XK) : TSet := fun x y v H Q => ∃ a dx fs, x = .ref a ∧ H a = some (.ins C dx fs) ∧ sp [.ref a, y, v] H (fun _ H' => Q H') E
theorem set_own (F : FnOk X.prog X.w X.K X.mg X.base CX n f fd ps sp) (hq : PySem.W.noSeq X.K C = true) (hs : PySem.W.findIn X.K (.ref C) "__setitem__" = some (some (.ref f))) (hfn : PySem.W.isFn X.K (.ref f) = true)
    (hb : Binds X.K fd ps []) (hx : Passes CX X E) (hr : Room n X.A) : PSet X (yStO C sp E) := by
  intro pins s σ H x y v xv yv vv Q I rx ry rv h
  obtain ⟨a, dx, fs, rfl, ha, hsp⟩ := h
  cases rx
  obtain ⟨mA, J, _⟩ := ins_get I.hok ha
  obtain ⟨od, J, _⟩ := J.look
  obtain ⟨m, hF⟩ := I.fr
  refine PySem.W.ksp_setItem hF I.ok.mod.kin J hq hs hfn ?_
  refine wpAny_mono (run_fn (us := [.ref a, yv, vv]) (vs := [.ref a, y, v]) (dvs := []) F hr hb .nil hx I (.cons rfl (.cons ry (.cons rv .nil))) hsp) (fun r s' q => ?_) fun _ _ e => e
  obtain ⟨z, H', I', rz, q⟩ := q
  exact ⟨H', I', q⟩
end
end XL
set_option Elab.async false
set_option linter.all false
set_option maxRecDepth 100000
set_option maxHeartbeats 4000000
/-! XTup: tuples made by a display or by +, as objects without a dict. -/
namespace XL
open PySem PySem.Spec PyProof.Rows L2
section
variable {X : Cx} {es : List Expr} {t : TA} {pos : Pos}
def tTupF (t : TA) : TE := fun σ H Q => t σ H fun xs H1 => xs.length ≤ sizeLine ∧ ∀ p ob, H1 p = none → ob.dict = none → Q (.ref p) (upd H1 p (.frz ob (.tup xs)))
theorem pe_tupF {x1} (h : PA X es t) : PE X (.Tuple es x1 pos) (tTupF t) := by
  refine ⟨fun pins s σ H Q I hq => ?_⟩
  refine wpAny_Tuple_spliced (thn (h.run pos pins s σ H _ I hq) fun us s1 ⟨xs, H1, I1, r, z, q⟩ => ⟨by rw [← r.length]; exact z, ?_⟩)
  have hf : H1 s1.heap.objs.size = none := I1.hok.fresh (Nat.le_refl _)
  refine ⟨.ref s1.heap.objs.size, _, I1.laid (t' := s1.toks) (o := .frz { cls := .type "tuple", data := .seq us.toArray } (.tup xs)) (fun b u e => Heap.get?_push_of_some _ e) (Nat.le_refl _) ?_, rfl, q _ _ hf rfl⟩
  exact ⟨Heap.get?_push_size _ rfl, z, us, r, ⟨_, Heap.get?_push_size _ rfl, rfl, _, rfl⟩⟩
def rCatF (K : PySem.W.Frag) : R2 := fun x y H Q => ∃ a b xs ys, x = .ref a ∧ y = .ref b ∧ SqT K H a xs ∧ SqT K H b ys ∧ xs.length + ys.length ≤ sizeLine ∧
  (xs = [] → Q (.ref b) H) ∧ (xs ≠ [] → ys = [] → Q (.ref a) H) ∧ (xs ≠ [] → ys ≠ [] → ∀ p ob, H p = none → ob.dict = none → Q (.ref p) (upd H p (.frz ob (.tup (xs ++ ys)))))
theorem op_catFK (K : PySem.W.Frag) (h : X.K = K := by rfl) : OpR X (binaryOp .Add) (rCatF K) := by
  subst h
  intro pins s σ H x y v u Q I rx ry h
  obtain ⟨a, b, xs, ys, rfl, rfl, ha, hb, hz, q0, q1, q2⟩ := h
  by_cases hx : xs = []
  · exact op_catA pins s σ H _ _ v u Q I rx ry ⟨a, b, xs, ys, rfl, rfl, ha, hb, hz, q0, fun z => absurd hx z, fun z => absurd hx z⟩
  · cases rx
    cases ry
    obtain ⟨its, r1, p1, _⟩ := I.tuple ha
    obtain ⟨its2, r2, p2, _⟩ := I.tuple hb
    refine HT.cat_tup p1 p2 (fun z => hx (r1.nil_iff.mp z)) (fun z => ⟨.ref a, H, I, rfl, q1 hx (r2.nil_iff.mp z)⟩) (fun z => ?_) (by rw [← r1.length, ← r2.length]; exact hz)
    refine ⟨.ref s.heap.objs.size, _, I.laid (t' := s.toks) (o := .frz { cls := .type "tuple", data := .seq (its ++ its2).toArray } (.tup (xs ++ ys))) (fun b ob q => Heap.get?_push_of_some _ q) (Nat.le_refl _) ?_, rfl, q2 hx (fun w => z (r2.nil_iff.mpr w)) _ _ (I.hok.fresh (Nat.le_refl _)) rfl⟩
    exact ⟨Heap.get?_push_size _ rfl, by rw [List.length_append]; exact hz, _, r1.append r2, IsTup.new _ _⟩
end
section
variable {K : PySem.W.Frag} {a : Addr} {xs : List V} {Qd : Hp → Prop} {B : V → Hp → (Hp → Prop) → Prop} {H0 : Hp}
/-- a clause of a comprehension over a list -/
theorem loopL (Pv : Nat → Hp → Prop) (h0 : Pv 0 H0) (hl : ∀ k H, Pv k H → SqL K H a xs) (hs : ∀ k x H, xs[k]? = some x → Pv k H → B x H (Pv (k + 1))) (hd : ∀ H, Pv xs.length H → Qd H) :
    ∃ W : Nat → Nat → Hp → Prop, (∃ m, W 0 m H0) ∧ ∀ i m H, W i m H → ((Itl K a).stop i H ∧ Qd H) ∨ ((Itl K a).go i H ∧ ∃ Nx : Hp → Prop, (∀ H', Nx H' → ∃ m', m' < m ∧ W (i + 1) m' H') ∧ ∀ x H', (Itl K a).yld i H x H' → B x H' Nx) := by
  refine ⟨fun i m H => m = xs.length - i ∧ i ≤ xs.length ∧ Pv i H, ⟨xs.length, by simp, Nat.zero_le _, h0⟩, ?_⟩
  rintro i m H ⟨rfl, hi, p⟩
  have q := hl i H p
  by_cases hlt : i < xs.length
  · refine .inr ⟨⟨xs, xs[i], q, by simp [hlt]⟩, Pv (i + 1), fun H' p' => ⟨xs.length - (i + 1), by omega, rfl, hlt, p'⟩, fun x H' y => ?_⟩
    obtain ⟨e, y⟩ := y
    subst e
    exact hs i x _ (y xs q) p
  · have e : i = xs.length := by omega
    subst e
    exact .inl ⟨⟨xs, q, Nat.le_refl _⟩, hd H p⟩
/-- a clause of a comprehension over a range -/
theorem loopR {lo : Int} {n : Nat} (Pv : Nat → Hp → Prop) (h0 : Pv 0 H0) (hs : ∀ k H, k < n → Pv k H → B (.int (lo + k)) H (Pv (k + 1))) (hd : ∀ H, Pv n H → Qd H) :
    ∃ W : Nat → Nat → Hp → Prop, (∃ m, W 0 m H0) ∧ ∀ i m H, W i m H → ((Itr lo n).stop i H ∧ Qd H) ∨ ((Itr lo n).go i H ∧ ∃ Nx : Hp → Prop, (∀ H', Nx H' → ∃ m', m' < m ∧ W (i + 1) m' H') ∧ ∀ x H', (Itr lo n).yld i H x H' → B x H' Nx) := by
  refine ⟨fun i m H => m = n - i ∧ i ≤ n ∧ Pv i H, ⟨n, by simp, Nat.zero_le _, h0⟩, ?_⟩
  rintro i m H ⟨rfl, hi, p⟩
  by_cases hlt : i < n
  · refine .inr ⟨hlt, Pv (i + 1), fun H' p' => ⟨n - (i + 1), by omega, rfl, hlt, p'⟩, fun x H' y => ?_⟩
    obtain ⟨e, y⟩ := y
    subst e y
    exact hs i _ hlt p
  · have e : i = n := by omega
    subst e
    exact .inl ⟨Nat.le_refl _, hd H p⟩
/-- row + (item,) -/
theorem cat_one {G H : Hp} {M : List (Addr × HO)} {r : Addr} {n : List Int} {i : Int} {Q : VK} (S : Sep G M H) (hr : TupF G r (n.map V.int)) (hl : n.length ≤ 1000)
    (q : ∀ (p : Addr) (G' H' : Hp), Same G G' → Sep G' M H' → TupF G' p ((n ++ [i]).map V.int) → Q (.ref p) H') :
    [V.int i].length ≤ sizeLine ∧ ∀ p ob, H p = none → ob.dict = none → rCatF K (.ref r) (.ref p) (upd H p (.frz ob (.tup [.int i]))) Q := by
  refine ⟨sz, fun p ob np hob => ?_⟩
  have S1 := S.newG (o := .frz ob (.tup [.int i])) np
  have s1 := S.grow (o := .frz ob (.tup [.int i])) np
  have h1 : TupF (upd G p (.frz ob (.tup [.int i]))) p [.int i] := ⟨ob, hob, upd_same⟩
  refine ⟨r, p, n.map V.int, [.int i], rfl, rfl, ((hr.same s1).same S1.1).tu.sq, (h1.same S1.1).tu.sq, small (by rw [List.length_map]; simp; omega), fun e => ?_, fun _ e => (nomatch e), fun _ _ p2 ob2 np2 hob2 => ?_⟩
  · have e2 : n = [] := List.map_eq_nil_iff.mp e
    subst e2
    exact q p _ _ s1 S1 h1
  · have e3 : n.map V.int ++ [V.int i] = (n ++ [i]).map V.int := by rw [List.map_append]; rfl
    rw [e3]
    exact q p2 _ _ (s1.trans (S1.grow np2)) (S1.newG np2) ⟨ob2, hob2, upd_same⟩
end
end XL
set_option Elab.async false
set_option linter.all false
set_option maxRecDepth 100000
set_option maxHeartbeats 4000000
/-! XExc: an error of the program's own, class E(ScreenError): __init__(self, x): super().__init__(f'..{x!r}'); self.x = x: made, raised, caught. -/
namespace PySem
namespace XExc
open PySem.W PySem.Calls PyProof.Rows PySem.HandSPX
/-! ### the text of __init__ -/
def iA (fld : Str) (p1 p2 : Pos) : Arguments := { posonlyargs := [], args := [{ arg := "self", annotation := none, pos := p1 }, { arg := fld, annotation := none, pos := p2 }], vararg := none, kwonlyargs := [], kw_defaults := [], kwarg := none, defaults := [] }
structure Ps where
  a : Pos
  b : Pos
  c : Pos
  d : Pos
  e : Pos
  f : Pos
  g : Pos
  h : Pos
  i : Pos
  j : Pos
  k : Pos
  l : Pos
  m : Pos
  cv : Int
  cp : cv = 114 ∨ cv = -1
def iSup (q : Ps) : Expr := .Call (.Name "super" q.a) [] [] q.b
def iArg (fld : Str) (msg : Str) (q : Ps) : Expr := .JoinedStr [.Constant (.str msg) 0 q.d, .FormattedValue (.Name fld q.e) q.cv none q.f] q.g
def iCall (fld : Str) (msg : Str) (q : Ps) : Expr := .Call (.Attribute (iSup q) "__init__" q.c) [iArg fld msg q] [] q.h
def iB (fld : Str) (msg : Str) (q : Ps) : List Stmt := [.Expr (iCall fld msg q) q.i, .Assign [.Attribute (.Name "self" q.j) fld q.k] (.Name fld q.l) q.m]
/-- how the call is evaluated (the positions decide nothing here) -/
def Evals (fld msg : Str) (q : Ps) : Prop := ∃ pl : Env → Sem Bool, ∀ env : Env, eval (iCall fld msg q) env = (do
  let ov ← attributeBase (iSup q) "__init__" env (eval (iSup q) env)
  standAt q.c.atName
  let (f, first) ← holding [ov] (getMethod ov "__init__" (pl env))
  callWith q.h f first (backTo q.h (starEach [iArg fld msg q] env)) [])
def iN (fld : Str) : List (Str × NameKind) := [(PySem.Str.ofString "self", .local), (fld, .local), (PySem.Str.ofString "__class__", .free), (PySem.Str.ofString "super", .globalImplicit)]
def iS (fld : Str) : Scope := { kind := .function, names := iN fld, isGenerator := false, isCoroutine := false, more := [] }
/-- what the written part says of the class at C and of its __init__ at fI -/
structure ExTxt (P : Program) (K : Frag) (mg : Str → Option Value) (nm fld msg : Str) (C fI : Addr) : Prop where
  gC : mg nm = some (.ref C)
  cls : ∃ nm q N bs bm sn sub ab col dd k0 k1 k2 k3 k5, K.lookup C = some (excClassObj nm q C N bs bm true sn sub ab col dd k0 k1 k2 k3 k5 "ValueError.__new__") ∧ refsVE bm = true
  sa : findIn K (.ref C) "__setattr__" = some (some (.builtin "object.__setattr__"))
  ga : findIn K (.ref C) "__getattribute__" = some (some (.builtin "BaseException.__getattribute__"))
  gg : findIn K (.ref C) "__getattr__" = some none
  noN : findIn K (.ref C) fld = some none
  iC : findIn K (.ref C) "__init__" = some (some (.ref fI))
  tC : typeIn K (.ref fI) = some (.type "function")
  kC : keepIn K (.ref C) = true
  exC : subIn K (.ref C) (.type "BaseException") = some true
  tyC : typeIn K (.ref C) = some (.type "type")
  hdC : hasDictIn K C = true
  fn : ∃ (oc kV doc pm ct : Value) (od an : Option Addr) (osl : Array (Option Value)) (qual : Str) (cda cc : Addr) (p1 p2 : Pos) (q : Ps) (vs : Array Value) (file : Str) (tf : Tok) (ccl cl : Value) (cdd cld : Option Addr) (ccs csl : Array (Option Value)),
    K.lookup fI = some ⟨oc, od, .func (ksFn "__init__" qual (iA fld p1 p2) (iB fld msg q) (iS fld) .none kV doc pm an (.ref cda) ct cc), osl⟩ ∧ codeIn K (.ref cda) qual = true ∧ K.lookup cda = some ⟨ccl, cdd, .fields vs, ccs⟩ ∧ vs[2]? = some (.str file tf) ∧
    ((P.main.file : Str) == file) = true ∧ K.lookup cc = some ⟨cl, cld, .cell (some (.ref C)), csl⟩ ∧ Evals fld msg q ∧
    ∀ x v : Value, bindArgs (ksFn "__init__" qual (iA fld p1 p2) (iB fld msg q) (iS fld) .none kV doc pm an (.ref cda) ct cc) ⟨[x, v], []⟩ = pure [(("self" : Str), x), (fld, v)]
  sup : ks_superIn K C C "__init__" = some (some (.builtin "ValueError.__init__"))
  subV : subIn K (.ref C) (.type "ValueError") = some true
  mroS : mroIn K C (.ref C) = some true
  opq : nsIn K cStatics "thirdparty.any" = some none
  htop : (P.main.scope.names.lookup ("super" : Str)).isSome = false
  hsup : mg "super" = none
  f1 : fld ≠ "self"
  f2 : fld ≠ "__class__"
  f3 : fld ≠ "super"
  f4 : (fld == ("__debug__" : Str)) = false
  ml : msg.length ≤ 1000
/-- where the program stands -/
def PF (P : Program) (fl : Str) : Prop := ((P.main.file : Str) == fl) = true ∧ (P.main.scope.names.lookup ("super" : Str)).isSome = false
/-- what can be told in the message -/
def Rp (v : Value) : Prop := (∃ (y : Str) (t : Tok), v = .str y t ∧ (reprText y).length ≤ 100000) ∨ ∃ (i : Int) (t : Tok), v = .int i t ∧ i.natAbs.log2 < 1920
structure InitEnd (h h' : Heap) (x C dx : Addr) (fld : Str) (v : Value) : Prop where
  keep : ∀ b o, b ≠ x → h.get? b = some o → h'.get? b = some o
  obj : ∃ t1 : Addr, h'.get? x = some { cls := .ref C, dict := some dx, data := .fields #[.ref t1, .none, .none, .none, .bool false, .none] }
  dbig : h.objs.size ≤ dx
  dne : dx ≠ x
  ns : h'.Ns1 dx (fun y => if y = fld then some v else none)
structure OwnMade (h h' : Heap) (e C d : Addr) (fld : Str) (v : Value) : Prop where
  keep : ∀ b o, h.get? b = some o → h'.get? b = some o
  new : h.objs.size ≤ e
  obj : ∃ oe vs, h'.get? e = some oe ∧ oe.cls = .ref C ∧ oe.dict = some d ∧ oe.data = .fields vs ∧ vs[1]? = some .none
  dbig : h.objs.size ≤ d
  dne : d ≠ e
  ns : h'.Ns1 d (fun y => if y = fld then some v else none)
section
variable {prog : Program} {w : World} {A : Around} {E : Value → Shared → Prop} {h : Heap} {g : Array GenState} {d : Drawn} {t : Nat} {os : OsState}
variable {nm q : Str} {C N : Addr} {bs bm : List Value} {hdct : Bool} {sn : List Str} {sub : List Value} {ab : Bool} {col : Option Bool} {dd : Option Addr} {k0 k1 k2 k3 k5 : Option Value}
theorem call_mw {u e t0 : Addr} {rest : List Value} {Q : Value → Shared → Prop}
    (hC : h.get? C = some (excClassObj nm q C N bs bm hdct sn sub ab col dd k0 k1 k2 k3 k5 "ValueError.__new__")) (he : h.get? e = some (excO C t0)) (hu : h.get? u = some (kxs_mw "ValueError.__init__" e)) (hrest : rest.length ≤ sizeLine)
    (hq : ∀ h' t1, (∀ b o, b ≠ e → h.get? b = some o → h'.get? b = some o) → h.objs.size ≤ h'.objs.size → h'.get? e = some (excO C t1) → Q .none ⟨h', g, d, t, os⟩) :
    wpAny (model prog w) A (call (.ref u) rest) Q E ⟨h, g, d, t, os⟩ := by
  refine wpAny_call (codeAny_of_tree ?_)
  show wpAny _ A.in1 (callAny (.ref u) ⟨rest, []⟩) _ _ _
  simp only [callAny]
  refine wpAny_bind (wpAny_load hu ?_)
  simp only [kxs_mw, show (Value.type "method-wrapper" == Value.type "method" || Value.type "method-wrapper" == Value.type "builtin_function_or_method" || Value.type "method-wrapper" == Value.type "method-wrapper") = true by decide, if_true]
  refine W.KFB.if_so (by decide) ?_
  refine wpAny_bind (check_bound_init F.excBase_ValueError.toExcCallFacts hC he rfl ?_)
  refine wpAny_bind (wpAny_pure (wpAny_pure ?_))
  refine ⟨plainId_quiet F.excBase_ValueError.init.plain _, codeAny_builtin F.excBase_ValueError.initEntry ?_⟩
  rw [Around.under_plainId F.excBase_ValueError.init.plain _]
  wp_walk
  refine hq _ h.objs.size (fun b o hb ho => ?_) ?_ ?_
  · rw [Heap.get?_update_other _ _ (Ne.symm hb)]
    exact Heap.get?_push_of_some _ ho
  · simp [Heap.size_push]
  · rw [Heap.get?_update_self _ (Heap.get?_push_of_some _ he) rfl]
    rfl
end
section
variable {prog : Program} {w : World} {A : Around} {E : Value → Shared → Prop} {R : Result → Shared → Prop} {s : Shared} {K : Frag} {mg mb : Str → Option Value} {nm fld msg : Str} {C fI : Addr}
theorem one_size (v : Value) : [v].length ≤ sizeLine := by
  rw [sizeLine_eq]
  exact (by decide : 1 ≤ 16777216)
theorem reprChar_ge (q c : Nat) : 1 ≤ (Builtin.Str.reprChar q c).length := by
  unfold Builtin.Str.reprChar
  dsimp only
  repeat' split
  all_goals simp only [List.length_append, List.length_cons, List.length_nil]
  all_goals omega
theorem foldl_repr_ge1 (q : Nat) : ∀ (l : List Nat) (acc : Array Nat), acc.size + l.length ≤ (l.foldl (fun out c => out ++ (Builtin.Str.reprChar q c).toArray) acc).size
  | [], acc => Nat.le_refl _
  | c :: r, acc => by
    have ih := foldl_repr_ge1 q r (acc ++ (Builtin.Str.reprChar q c).toArray)
    have hc := reprChar_ge q c
    simp only [List.foldl_cons, List.length_cons]
    simp only [Array.size_append, List.size_toArray] at ih
    omega
theorem reprText_ge (x : Str) : x.length ≤ (reprText x).length := by
  unfold reprText
  show x.length ≤ ((x.cps.foldl (fun out c => out ++ (Builtin.Str.reprChar (reprQuote x) c).toArray) #[reprQuote x]).push (reprQuote x)).size
  rw [Array.size_push, ← Array.foldl_toList]
  have := foldl_repr_ge1 (reprQuote x) x.cps.toList #[reprQuote x]
  have e : x.cps.toList.length = x.length := by simp [Str.length]
  rw [e] at this
  omega
/-- f'..{v!r}' -/
theorem told_ok {env : Env} {q : Ps} {m : Str → Option Value} {v : Value} {Q : Value → Shared → Prop} (hn : s.heap.Ns env.locals m) (hv : m fld = some v) (hr : Rp v) (hml : msg.length ≤ 1000) (hk : env.scope.kind = .function) (hl : env.kindOf fld = some .local) (hd : (fld == ("__debug__" : Str)) = false)
    (h : ∀ u tk, Q u { s with toks := tk }) : wpAny (model prog w) A (eval (iArg fld msg q) env) Q E s := by
  unfold iArg
  have sm : ∀ n : Nat, n ≤ 200000 → n ≤ sizeLine := fun n hn => Nat.le_trans hn (by decide)
  rcases q.cp with ecv | ecv
  · rw [ecv]
    refine wpAny_JoinedStr ?_
    have e0 : evalEach [Expr.Constant (.str msg) 0 q.d, .FormattedValue (.Name fld q.e) 114 none q.f] env = [eval (.Constant (.str msg) 0 q.d) env, eval (.FormattedValue (.Name fld q.e) 114 none q.f) env] := by first | rfl | simp [evalEach]
    rw [e0]
    refine Calls.Constant_str ⟨msg, _, rfl, ?_, ?_⟩
    · rw [Str.length_append]
      exact sm _ (by show 0 + msg.length ≤ _; omega)
    refine wpAny_FormattedValue_repr (ESX.ldL hn hv ?_ hk hl hd)
    rcases hr with ⟨y, t, rfl, hz⟩ | ⟨i, t, rfl, hz⟩
    · have hz' : (reprText y).length ≤ sizeLine := sm _ (by omega)
      have out : ∀ (tk : Tok) (tt : Nat), ∃ (y' : Str) (t' : Tok), Value.str (reprText y) tk = .str y' t' ∧ (Str.empty ++ msg ++ y').length ≤ sizeLine ∧ Joins (model prog w) A E [] (Str.empty ++ msg ++ y') (fun out s₁ => out.length ≤ sizeLine ∧ Q (.str out s₁.toks) { s₁ with toks := s₁.toks + 1 }) { s with toks := tt } := fun tk tt => by
        have hl : (Str.empty ++ msg ++ reprText y).length ≤ sizeLine := by
          rw [Str.length_append, Str.length_append]
          exact sm _ (by show 0 + msg.length + _ ≤ _; omega)
        exact ⟨_, _, rfl, hl, hl, h _ _⟩
      exact pyReprObj_str (wpAny_formatField_str (out _ _) (out _ _) hz') hz'
    · have hz' := int_text_fits hz
      have ln : (toString i : Str).length ≤ 100000 := by
        have e := int_text_length_le (k := 1920) (by decide) hz
        show (Str.ofString (toString i)).length ≤ 100000
        rw [ofString_length]
        omega
      have out : ∀ (tk : Tok) (tt : Nat), ∃ (y' : Str) (t' : Tok), Value.str (toString i) tk = .str y' t' ∧ (Str.empty ++ msg ++ y').length ≤ sizeLine ∧ Joins (model prog w) A E [] (Str.empty ++ msg ++ y') (fun out s₁ => out.length ≤ sizeLine ∧ Q (.str out s₁.toks) { s₁ with toks := s₁.toks + 1 }) { s with toks := tt } := fun tk tt => by
        have hl : (Str.empty ++ msg ++ (toString i : Str)).length ≤ sizeLine := by
          rw [Str.length_append, Str.length_append]
          exact sm _ (by show 0 + msg.length + _ ≤ _; omega)
        exact ⟨_, _, rfl, hl, hl, h _ _⟩
      exact pyReprObj_int hz (wpAny_formatField_str (out _ _) (out _ _) hz')
  · rw [ecv]
    refine wpAny_JoinedStr ?_
    have e0 : evalEach [Expr.Constant (.str msg) 0 q.d, .FormattedValue (.Name fld q.e) (-1) none q.f] env = [eval (.Constant (.str msg) 0 q.d) env, eval (.FormattedValue (.Name fld q.e) (-1) none q.f) env] := by first | rfl | simp [evalEach]
    rw [e0]
    refine Calls.Constant_str ⟨msg, _, rfl, ?_, ?_⟩
    · rw [Str.length_append]
      exact sm _ (by show 0 + msg.length ≤ _; omega)
    refine wpAny_FormattedValue_plain (ESX.ldL hn hv ?_ hk hl hd)
    rcases hr with ⟨y, t, rfl, hz⟩ | ⟨i, t, rfl, hz⟩
    · have hy := reprText_ge y
      have hl : (Str.empty ++ msg ++ y).length ≤ sizeLine := by
        rw [Str.length_append, Str.length_append]
        exact sm _ (by show 0 + msg.length + _ ≤ _; omega)
      have out : ∀ (tk : Tok) (tt : Nat), ∃ (y' : Str) (t' : Tok), Value.str y tk = .str y' t' ∧ (Str.empty ++ msg ++ y').length ≤ sizeLine ∧ Joins (model prog w) A E [] (Str.empty ++ msg ++ y') (fun out s₁ => out.length ≤ sizeLine ∧ Q (.str out s₁.toks) { s₁ with toks := s₁.toks + 1 }) { s with toks := tt } := fun tk tt => ⟨_, _, rfl, hl, hl, h _ _⟩
      exact wpAny_formatField_str (out _ _) (out _ _) (sm _ (by omega))
    · have hz' := int_text_fits hz
      have ln : (toString i : Str).length ≤ 100000 := by
        have e := int_text_length_le (k := 1920) (by decide) hz
        show (Str.ofString (toString i)).length ≤ 100000
        rw [ofString_length]
        omega
      have hl : (Str.empty ++ msg ++ (toString i : Str)).length ≤ sizeLine := by
        rw [Str.length_append, Str.length_append]
        exact sm _ (by show 0 + msg.length + _ ≤ _; omega)
      exact wpAny_formatField_int hz ⟨_, _, rfl, hl, hl, h _ _⟩
end
section
variable {prog : Program} {w : World} {A : Around} {E : Value → Shared → Prop} {R : Result → Shared → Prop} {K : Frag} {mg mb : Str → Option Value} {nm fld msg : Str} {C fI : Addr}
theorem kept_but {K : Frag} {h h' : Heap} {x : Addr} (X : K.In h) (hx : K.lookup x = none) (k : ∀ b o, b ≠ x → h.get? b = some o → h'.get? b = some o) : K.In h' := fun a o e =>
  k a o (fun z => by rw [z, hx] at e; cases e) (X a o e)
theorem exc_init (T : ExTxt prog K mg nm fld msg C fI) {x t0 : Addr} {v : Value} {hp : Heap} {g : Array GenState} {dr : Drawn} {tk : Nat} {os : OsState} (X : K.In hp) (hlim : hp.NoLimit) (hG : hp.Ns mainGlobals mg) (hB : hp.Ns builtinsNs mb) (hbb : ∀ x : Str, x ≠ "__name__" → mb x = bootBuiltins x)
    (hx : hp.get? x = some (excO C t0)) (hnx : K.lookup x = none) (hroom : A.depth < recursionLimit) (hr : Rp v)
    (hq : ∀ h' tk' dx, InitEnd hp h' x C dx fld v → R (.ok (.ret .none)) ⟨h', g, dr, tk', os⟩) :
    codeAny (model prog w) A (.call (.ref fI) ⟨[.ref x, v], []⟩) R ⟨hp, g, dr, tk, os⟩ := by
  obtain ⟨oc, kV, doc, pm, ct, od, an, osl, qual, cda, cc, p1, p2, q, vs, file, tf, ccl, cl, cdd, cld, ccs, csl, ho, hcd, hcda, hvs, hfile, hcc, ⟨pl, hev⟩, hbind⟩ := T.fn
  obtain ⟨nm', q', N, bs, bm, sn, sub, ab, col, dd, k0, k1, k2, k3, k5, hC, hbm⟩ := T.cls
  have hcl : clsIn K C = some { name := nm', bases := bs, mro := .ref C :: bm, ns := N, qualname := q', hasDict := true, slotNames := sn, subclasses := sub, abstract := ab, collection := col, hasDel := false } := by unfold clsIn; rw [hC] <;> rfl
  have e1 : (iS fld).names.lookup fld = some .local := by
    show (iN fld).lookup fld = _
    unfold iN
    have z : (fld == PySem.Str.ofString "self") = false := by simpa using T.f1
    simp [List.lookup, z]
  have e2 : (iS fld).names.lookup ("self" : Str) = some .local := rfl
  have e3 : (iS fld).names.lookup ("__class__" : Str) = some .free := by
    show (iN fld).lookup ("__class__" : Str) = _
    unfold iN
    have z : (("__class__" : Str) == fld) = false := by simpa using Ne.symm T.f2
    have z2 : (("__class__" : Str) == PySem.Str.ofString "self") = false := by decide
    simp [List.lookup, z, z2]
  have e4 : (iS fld).names.lookup ("super" : Str) = some .globalImplicit := by
    show (iN fld).lookup ("super" : Str) = _
    unfold iN
    have z : (("super" : Str) == fld) = false := by simpa using Ne.symm T.f3
    have z2 : (("super" : Str) == PySem.Str.ofString "self") = false := by decide
    have z3 : (("super" : Str) == PySem.Str.ofString "__class__") = false := by decide
    simp [List.lookup, z, z2, z3]
  refine ks_codeAny_call_defAt (fd := ksFn "__init__" qual (iA fld p1 p2) (iB fld msg q) (iS fld) .none kV doc pm an (.ref cda) ct cc) (body := iB fld msg q) (binds := [("self", .ref x), (fld, v)]) hroom (X _ _ ho) rfl hlim (codeRec_of X hcd) rfl (BindsTo.of_eq (hbind _ _)) ?_ ?_ (fun h₁ hn k => ?_) rfl rfl rfl
  · intro y hy
    have hy : y ∈ iN fld := hy
    unfold iN at hy
    simp only [List.mem_cons, List.not_mem_nil, or_false] at hy
    rcases hy with rfl | rfl | rfl | rfl <;> exact fun z => nomatch z
  · intro y hy
    simp only [List.mem_cons, List.not_mem_nil, or_false] at hy
    rcases hy with rfl | rfl
    · exact e2
    · exact e1
  have X₁ : K.In h₁ := X.keeps k
  have hxL : hp.objs.size ≠ x := Nat.ne_of_gt (Heap.lt_size hx)
  have hx₁ := k _ _ hx
  have mS : List.lookup ("self" : Str) (List.reverse [(("self" : Str), Value.ref x), (fld, v)]) = some (.ref x) := by
    show List.lookup ("self" : Str) [(fld, v), (("self" : Str), Value.ref x)] = _
    have z : (("self" : Str) == fld) = false := by simpa using Ne.symm T.f1
    simp [List.lookup, z]
  have mF : List.lookup fld (List.reverse [(("self" : Str), Value.ref x), (fld, v)]) = some v := by
    show List.lookup fld [(fld, v), (("self" : Str), Value.ref x)] = _
    simp [List.lookup]
  refine ks_wpAt_execs_cons (ks_wpAt_Expr_any (ks_wpAt_MethodCall (o := iSup q) (name := "__init__") (he := hev _) ?_))
  have oC := X₁ _ _ hC
  refine ks_wpAt_super_base (env := callEnv (ksFn "__init__" qual (iA fld p1 p2) (iB fld msg q) (iS fld) .none kV doc pm an (.ref cda) ct cc) hp.objs.size fI) e4 e3 (by decide) rfl (X₁ _ _ ho) rfl rfl rfl (X₁ _ _ hcda) rfl hvs hfile T.htop ?_
  refine ks_loadName_global rfl e4 (loadGlobal_builtin (hG.keeps k) T.hsup (hB.keeps k) ((hbb _ (by decide +kernel)).trans (by first | boot_by_name | rfl | kernel_rfl)) ⟨rfl, ?_⟩)
  refine wpAny_loadName_free rfl e3 rfl ⟨_, X₁ _ _ hcc, rfl⟩ ?_
  refine wpAny_loadName_local rfl e2 hn mS ?_
  refine ks_wpAny_isType_cls oC rfl ⟨rfl, ?_⟩
  refine ks_wpAny_call_super oC rfl hx₁ rfl (fun c e => (nomatch e)) (looks_mroIn X₁ T.mroS) (fun h₂ hso k₂ => ?_)
  have X₂ : K.In h₂ := X₁.keeps k₂
  have hx₂ := k₂ _ _ hx₁
  have hsup : alongIn K "__init__" (((Value.ref C :: bm).dropWhile (· != .ref C)).drop 1) = some (some (.builtin "ValueError.__init__")) := by
    have z := T.sup
    unfold ks_superIn at z
    rw [hcl] at z
    exact z
  have I₂ : InstAt h₂ x (excO C t0) C none := ⟨hx₂, rfl, rfl, trivial⟩
  refine kxs_getMethod kxs_ValueError hso (looks_opaque X₂ T.opq) (l₀ := .ref C :: bm) ?_ rfl X₂ hsup (I₂.type.andThen (looks_subIn X₂ T.subV)) (ks_ne X₂ I₂ hcl) (by decide) ?_
  · exact fun A Q E s k q => wpAny_bind ((looks_clsIn X₂ hcl) A _ E s k (wpAny_pure q))
  have hu : (h₂.push (kxs_mw "ValueError.__init__" x)).get? h₂.objs.size = some (kxs_mw "ValueError.__init__" x) := Heap.get?_push_at rfl rfl
  have k₃ : ∀ b o, h₂.get? b = some o → (h₂.push (kxs_mw "ValueError.__init__" x)).get? b = some o := fun b o e => Heap.get?_push_of_some _ e
  have X₃ := X₂.keeps k₃
  have hn₃ : (h₂.push (kxs_mw "ValueError.__init__" x)).Ns hp.objs.size _ := (hn.keeps k₂).keeps k₃
  refine kxs_callWith (i := "ValueError.__init__") (x := x) rfl (evalArgs_plain ?_)
  show wpAny _ _ (spliced ((false, eval (iArg fld msg q) _) :: backTo q.h (starEach [] _))) _ _ _
  refine Calls.spliced_cons (told_ok hn₃ mF hr T.ml rfl e1 T.f4 fun u tk' => Calls.spliced_nil ⟨hu, ?_⟩)
  show wpAny _ _ (call (.ref h₂.objs.size) [u]) _ _ _
  refine call_mw (X₃ _ _ hC) (k₃ _ _ hx₂) hu (one_size _) fun h₄ t1 k₄ sz₄ hx₄ => ?_
  show wpAt _ _ _ (execs _ _) _ _ _
  refine wpAt_of_wpAny ?_
  have X₄ : K.In h₄ := kept_but X₃ hnx k₄
  have hn₄ : h₄.Ns hp.objs.size (fun x_1 => List.lookup x_1 (List.reverse [(("self" : Str), Value.ref x), (fld, v)])) := by
    obtain ⟨oL, es, ep, hL, r⟩ := hn₃
    exact ⟨oL, es, ep, k₄ _ _ hxL hL, r⟩
  refine wpAny_execs_cons (plainObj_wpAny_Assign_Attribute ?_)
  refine ESX.ldL hn₄ mF (ESX.ldL hn₄ mS ?_ rfl e2) rfl e1 T.f4
  refine set_plain X₄ (ox := excO C t1) (od := none) ⟨hx₄, rfl, rfl, trivial⟩ T.sa ?_
  refine exc_osa X₄ hx₄ hcl (show refsVE (.ref C :: bm) = true from hbm) rfl T.noN (fun h₅ tk₅ dx k₅ dn dne hx₅ hn₅ => ?_)
  show wpAny _ _ (execs _ _) _ _ _
  have z : hp.objs.size < h₄.objs.size := hn₄.lt
  exact wpAny_execs_nil (hq h₅ tk₅ dx ⟨fun b o hb e => k₅ b o hb (k₄ b o hb (k₃ b o (k₂ b o (k b o e)))), ⟨t1, hx₅⟩, Nat.le_of_lt (Nat.lt_of_lt_of_le z dn), dne, hn₅⟩)
end
section
variable {prog : Program} {w : World} {A : Around} {R : Result → Shared → Prop} {K : Frag} {mg mb : Str → Option Value} {nm fld msg : Str} {C fI : Addr}
theorem exc_made (T : ExTxt prog K mg nm fld msg C fI) {v : Value} {hp : Heap} {g : Array GenState} {dr : Drawn} {tk : Nat} {os : OsState} (X : K.In hp) (hlim : hp.NoLimit) (hG : hp.Ns mainGlobals mg) (hB : hp.Ns builtinsNs mb) (hbb : ∀ x : Str, x ≠ "__name__" → mb x = bootBuiltins x) (hroom : A.depth + 1 < recursionLimit) (hr : Rp v)
    (hq : ∀ h' tk' e d, OwnMade hp h' e C d fld v → R (.ok (.ret (.ref e))) ⟨h', g, dr, tk', os⟩) :
    codeAny (model prog w) A (.call (.ref C) ⟨[v], []⟩) R ⟨hp, g, dr, tk, os⟩ := by
  obtain ⟨nm', q', N, bs, bm, sn, sub, ab, col, dd, k0, k1, k2, k3, k5, hC, hbm⟩ := T.cls
  have k : ∀ b o, hp.get? b = some o → ((hp.push (kdv_tup [v])).push (excO C hp.objs.size)).get? b = some o := fun b o e => Heap.get?_push_of_some _ (Heap.get?_push_of_some _ e)
  have hget : ((hp.push (kdv_tup [v])).push (excO C hp.objs.size)).get? (hp.objs.size + 1) = some (excO C hp.objs.size) := by heap_get
  have hnx : K.lookup (hp.objs.size + 1) = none := by
    cases e : K.lookup (hp.objs.size + 1) with
    | none => rfl
    | some o =>
      have z : hp.get? (hp.objs.size + 1) = some o := X _ _ e
      exact absurd (Nat.lt_of_succ_lt (Heap.lt_size z)) (Nat.lt_irrefl _)
  refine call_own F.excBase_ValueError (fun X => refsVE_contains X bm hbm) (X _ _ hC) (looks_findIn X T.iC) (fun self => bind_fn X self T.tC) (one_size v) ?_
  refine exc_init (tk := tk) T (X.keeps k) (hlim.keeps k) (hG.keeps k) (hB.keeps k) hbb hget hnx ?_ hr fun h' tk' dx ⟨k', ⟨t1, hx⟩, dn, dne, hns⟩ => ?_
  · show A.depth + 1 < recursionLimit
    exact hroom
  · have old : ∀ b o, hp.get? b = some o → h'.get? b = some o := fun b o e => k' b o (Nat.ne_of_lt (Nat.lt_succ_of_lt (Heap.lt_size e))) (k b o e)
    have z : hp.objs.size + 1 + 1 ≤ dx := by
      first
        | (simpa only [Heap.size_push] using dn)
        | exact dn
        | (have q := dn; rw [Heap.size_push, Heap.size_push] at q; exact q)
    exact ⟨rfl, hq h' tk' (hp.objs.size + 1) dx ⟨old, Nat.le_succ _, ⟨_, _, hx, rfl, rfl, rfl, rfl⟩, Nat.le_trans (Nat.le_trans (Nat.le_succ _) (Nat.le_succ _)) z, dne, hns⟩⟩
end
end XExc
end PySem
namespace XL
open PySem PySem.Spec PyProof.Rows L2
/-! ### the error, over the abstract heap -/
def RpV (v : V) : Prop := (∃ y : Str, v = .str y ∧ (reprText y).length ≤ 100000) ∨ ∃ i : Int, v = .int i ∧ i.natAbs.log2 < 1920
theorem RpV.rp {v : V} {u : Value} (h : RpV v) (r : RelV v u) : PySem.XExc.Rp u := by
  rcases h with ⟨y, rfl, hz⟩ | ⟨i, rfl, hz⟩
  · obtain ⟨t, rfl⟩ := r
    exact .inl ⟨y, t, rfl, hz⟩
  · obtain ⟨t, rfl⟩ := r
    exact .inr ⟨i, t, rfl, hz⟩
theorem relO_one {fld : Str} {v : V} {v' : Value} (r : RelV v v') (f : Str) : RelO (List.lookup f [(fld, v)]) (if f = fld then some v' else none) := by
  by_cases hw : f = fld
  · subst hw
    rw [if_pos rfl]
    have q : List.lookup f [(f, v)] = some v := by simp [List.lookup]
    rw [q]
    exact r
  · rw [if_neg hw]
    have qw : (f == fld) = false := by simpa using hw
    have q2 : List.lookup f [(fld, v)] = none := by simp [List.lookup, qw]
    rw [q2]
    trivial
section
variable {X : Cx} {C fI : Addr} {nm fld msg : Str}
def tMkX (C : Addr) (fld : Str) (ta : TA) : L2.St → Hp → XK → Prop := fun σ H Q => ta σ H fun vs H1 => ∃ v, vs = [v] ∧ RpV v ∧ ∀ d, H1 d = none → Q (.ref C) (some d) (upd H1 d (.xd [(fld, v)]))
theorem pmk_x {a : Expr} {ta : TA} {p pos : Pos} {k : Nat} (T : PySem.XExc.ExTxt X.prog X.K X.mg nm fld msg C fI) (hr : Room (k + 1) X.A) (ha : PA X [a] ta) (hg : Gl X nm := by rfl) (hd : (nm == ("__debug__" : Str)) = false := by decide)
    (he : starEach (a :: []) X.env = (false, eval a X.env) :: starEach [] X.env := by rfl) (hpl : (backTo pos (starEach [] X.env)).any (·.1) = false := by rfl) :
    PMk X (.Call (.Name nm p) [a] [] pos) (tMkX C fld ta) := by
  intro pins s σ H Q I h
  refine wpAny_Call_Name_kw (ld_glob I hg T.gC ?_ hd)
  refine PySem.W.callWith_K (h₀ := X.base) I.ok.mod.kin T.kC (thn (ha.run pos pins s σ H _ I h) fun us s1 hh => ?_) he hpl
  obtain ⟨vs, H1, I1, r1, v, ev, rp, q1⟩ := hh
  subst ev
  refine ⟨I1.kIn, ?_⟩
  cases r1 with
  | cons rv rn =>
    rename_i v' us'
    cases rn
    show wpAny _ _ (call (.ref C) [v']) _ _ _
    have hlim := I1.nolimit
    have hG := I1.mod.glob.keeps I1.bk
    obtain ⟨mb, hB, hbb⟩ := I1.mod.blt
    have hB := hB.keeps I1.bk
    obtain ⟨hp, g, dr, tk, os⟩ := s1
    refine wpAny_call (PySem.XExc.exc_made T I1.kIn hlim hG hB hbb (by have := hr.dp; omega) (rp.rp rv) fun h' tk' e d M => ?_)
    show MkP X pins σ Q (.ref e) ⟨h', g, dr, tk', os⟩
    obtain ⟨oe, fv, hoe, hc, hd, hdat, h1⟩ := M.obj
    have hns := M.ns
    obtain ⟨G', g1, g2⟩ := restrict h' fun b => decide (b ≠ e)
    have gk : ∀ b, b ≠ e → G'.get? b = h'.get? b := fun b hb => g1 b (decide_eq_true hb)
    have ge : G'.get? e = none := g2 e (by simp)
    have old : ∀ b o, hp.get? b = some o → G'.get? b = some o := fun b o q => (gk b (Nat.ne_of_lt (Nat.lt_of_lt_of_le (Heap.lt_size q) M.new))).trans (M.keep b o q)
    have ob : ObjOk X.prog X.w (upd H1 d (.xd [(fld, v)])) G' d (.xd [(fld, v)]) :=
      ⟨_, hns.at (fun o q => (gk d M.dne).trans q), fun f => relO_one rv f⟩
    have J : Inv X pins σ (upd H1 d (.xd [(fld, v)])) ⟨G', g, dr, tk', os⟩ := I1.laid (t' := tk') old M.dbig ob
    refine ⟨e, oe, fv, ⟨G', g, dr, tk', os⟩, _, .ref C, some d, rfl, J, fun b o q => ?_, ge, hoe, ⟨hc, hd⟩, hdat, h1, ?_, rfl, I1.bare, raises_own T.exC T.tyC, q1 d (I1.hok.fresh M.dbig)⟩
    · by_cases hb : b = e
      · have q' : G'.get? b = some o := q
        rw [hb, ge] at q'; cases q'
      · exact (gk b hb).symm.trans q
    · rw [upd_ne (Ne.symm M.dne)]
      exact I1.hok.fresh M.new
def tRaiseX (C : Addr) (fld : Str) (W : WX) (ta : TA) : TS := fun _ σ H => tMkX C fld ta σ H fun cls d H' => W cls d σ H'
theorem ps_raiseX {a : Expr} {ta : TA} {W : WX} {p pos pos2 : Pos} {k : Nat} (hc : X.calm = true) (T : PySem.XExc.ExTxt X.prog X.K X.mg nm fld msg C fI) (hr : Room (k + 1) X.A) (tk : Takes X W) (ha : PA X [a] ta) (hg : Gl X nm := by rfl) (hd : (nm == ("__debug__" : Str)) = false := by decide)
    (he : starEach (a :: []) X.env = (false, eval a X.env) :: starEach [] X.env := by rfl) (hpl : (backTo pos (starEach [] X.env)).any (·.1) = false := by rfl) :
    PS X (.Raise (some (.Call (.Name nm p) [a] [] pos)) none pos2) (tRaiseX C fld W ta) := ps_raise hc tk (pmk_x T hr ha hg hd he hpl)
end
/-! ### isinstance(e, c), isinstance(e, (c, ..)) of a caught error -/
section
variable {X : Cx} {a : Addr} {oe : Obj} {cls : Value} {d : Option Addr} {pn : List (Addr × Obj)}
inductive ClsRs : List V → List Value → Prop where
  | nil : ClsRs [] []
  | cons {c : Addr} {cs : List V} {us : List Value} (h : ClsRs cs us) : ClsRs (.ref c :: cs) (.ref c :: us)
theorem ClsRs.eq : ∀ {cs : List V} {us : List Value}, ClsRs cs us → ∀ {ws : List Value}, Vals cs ws → ws = us
  | _, _, .nil, _, .nil => rfl
  | _, _, .cons h, _, .cons r rs => by
    cases r
    rw [h.eq rs]
def rIsX (K : PySem.W.Frag) (cls : Value) (d : Option Addr) (a : Addr) : List V → Hp → VK → Prop := fun xs H Q => ∃ (D dd : Addr) (fs : List (Str × V)) (b : Bool), cls = .ref D ∧ d = some dd ∧ H dd = some (.xd fs) ∧ ExcC K D ∧
  ((∃ (c : V) (cv : Value), xs = [.ref a, c] ∧ (∀ u, RelV c u → u = cv) ∧ PySem.W.kitOne K (.ref D) cv = some b) ∨ ∃ (p : Addr) (cs : List V) (us : List Value), xs = [.ref a, .ref p] ∧ H p = some (.tup cs) ∧ ClsRs cs us ∧ PySem.W.kitAny K (.ref D) us = some b) ∧ Q (.bl b) H
theorem call_isX (hz : Zc cls d oe) (hf : ∃ vs, oe.data = .fields vs) : CallR (X.suite a ((a, oe) :: pn)) (.builtin "isinstance") (rIsX X.K cls d a) := by
  intro pins s σ H xs us Q I r h
  obtain ⟨D, dd, fs, b, rfl, rfl, hd, C, hcs, q⟩ := h
  obtain ⟨hget, _⟩ := I.pin (a, oe) (List.mem_append.mpr (.inl List.mem_cons_self))
  obtain ⟨vs, hv⟩ := hf
  have hx : ObjOk X.prog X.w H s.heap dd (.xd fs) := I.hok dd _ hd
  obtain ⟨mA, hns, _⟩ := hx
  obtain ⟨od, ho, _⟩ := lookIn_ns hns
  have J : PySem.W.InstAt s.heap a oe D (some od) := ⟨hget, hz.1, by unfold PySem.W.notCls; rw [hv] <;> rfl, by rw [hz.2]; exact ho⟩
  have cl : (PySem.W.clsIn X.K D).isSome = true := by
    obtain ⟨cd, hc, _⟩ := PySem.W.any_some C.hd
    rw [hc]
    rfl
  have Z := PySem.W.kitx_exc (x := a) (ox := oe) (od := some od) cl C.hg C.hk C.hs C.ha C.hn C.ht C.hm
  rcases hcs with ⟨c, cv, rfl, hcv, e⟩ | ⟨p, cs, us2, rfl, hp, hc, e⟩
  · cases r with
    | cons rx rr =>
      cases rr with
      | cons rt rr =>
        cases rr
        cases rx
        have ec := hcv _ rt
        subst ec
        exact PySem.W.kia_one Z I.kIn J e (fun z => nomatch z) fun tk => ⟨.bl b, H, I.kept (t' := tk) fun _ _ z => z, rfl, q⟩
  · cases r with
    | cons rx rr =>
      cases rr with
      | cons rt rr =>
        cases rr
        cases rx
        cases rt
        obtain ⟨_, its, rv, o, h1, h2, n, h3⟩ := (show ObjOk X.prog X.w H s.heap p (.tup cs) from I.hok p _ hp)
        have ei := hc.eq rv
        subst ei
        obtain ⟨oc, od', oda, osl⟩ := o
        dsimp only at h2 h3
        subst h2 h3
        exact PySem.W.kia_tup Z I.kIn J h1 e (fun z => nomatch z) fun tk => ⟨.bl b, H, I.kept (t' := tk) fun _ _ z => z, rfl, q⟩
end
/-! ### own [ ] and [ ] = within a try -/
section
variable {X : Cx} {CX : CXT} {C f : Addr} {fd : FuncData} {ps : List Str} {sp : Sp} {E : L2.St → XK} {n : Nat} {o i e : Expr} {to ti te : TE} {pos pos' : Pos}
def tIxOS (C : Addr) (sp : Sp) (E : L2.St → XK) (to ti : TE) : TE := fun σ H Q => to σ H fun x H1 => ti σ H1 fun y H2 => ∃ a dx fs, x = .ref a ∧ H2 a = some (.ins C dx fs) ∧ sp [.ref a, y] H2 Q (E σ)
theorem pe_ixOS (ho : PE X o to) (hi : PE X i ti) (F : FnOk X.prog X.w X.K X.mg X.base CX n f fd ps sp) (hs : PySem.W.findIn X.K (.ref C) "__getitem__" = some (some (.ref f))) (hf : PySem.W.fnIn X.K f = true) (hfn : PySem.W.isFn X.K (.ref f) = true)
    (hb : Binds X.K fd ps []) (hx : ∀ σ, PassesAt CX X σ (E σ)) (hr : Room (n + 1) X.A) (hsl : ∀ x v, subscripted i true (.ref x) v = runValue (.builtin "lifetime.subscript" ⟨[.ref x, v], []⟩) := by intro _ _; with_unfolding_all rfl) :
    PE X (.Subscript o i pos) (tIxOS C sp E to ti) := by
  refine ⟨fun pins s σ H Q I h => ?_⟩
  refine Subscript_ (thn (ho.run pins s σ H _ I h) fun v s1 ⟨x, H1, I1, r1, q1⟩ => thn (hi.run pins s1 σ H1 _ I1 q1) fun u s2 ⟨y, H2, I2, r2, q2⟩ => ?_)
  obtain ⟨a, dx, fs, rfl, ha, hsp⟩ := q2
  cases r1
  obtain ⟨mA, J, _⟩ := ins_get I2.hok ha
  obtain ⟨od, J, _⟩ := J.look
  obtain ⟨m, hF⟩ := I2.fr
  refine PySem.W.sub_K hF I2.ok.mod.kin J hs hf hfn ?_ (hsl _ _)
  have hl : ([Value.ref a, u] ++ []).length = ps.length := F.len _ _ _ _ hsp
  refine wpAny_call (codeAny_mono (F.run X.A.in1 X.stack s2 H2 ⟨[.ref a, u], []⟩ [.ref a, u] [.ref a, y] Q (E σ) hr.in1 I2.env0.in1 (hb s2 [.ref a, u] I2.kIn hl) (.cons rfl (.cons r2 .nil)) hsp) fun r s' hq => ?_)
  cases r with
  | error e => exact hx σ pins H2 s2 e s' I2 hq
  | ok fl =>
    cases fl with
    | ret u => exact I2.after hq
    | next => exact False.elim hq
    | brk => exact False.elim hq
    | cont => exact False.elim hq
def gSubS (C : Addr) (sp : Sp) (E : L2.St → XK) (to ti : TE) : TG := fun v σ H Q => to σ H fun x H1 => ti σ H1 fun y H2 => ∃ a dx fs, x = .ref a ∧ H2 a = some (.ins C dx fs) ∧ sp [.ref a, y, v] H2 (fun _ H' => Q σ H') (E σ)
theorem pg_subOS (ho : PE X o to) (hi : PE X i ti) (F : FnOk X.prog X.w X.K X.mg X.base CX n f fd ps sp) (hq : PySem.W.noSeq X.K C = true) (hs : PySem.W.findIn X.K (.ref C) "__setitem__" = some (some (.ref f))) (hfn : PySem.W.isFn X.K (.ref f) = true)
    (hb : Binds X.K fd ps []) (hx : ∀ σ, PassesAt CX X σ (E σ)) (hr : Room n X.A)
    (ha : ∀ v, assign (.Subscript o i pos) X.env v = (do
      let ov ← holding [v] (eval o X.env)
      let iv ← holding [v, ov] (eval i X.env)
      standAt pos
      holding [v, ov, iv] (setItem ov iv v)
      release [v, ov, iv] []) := by intro _; rfl) : PG X (.Subscript o i pos) (gSubS C sp E to ti) := by
  refine ⟨fun pins s σ H v u Q I r h => ?_⟩
  rw [ha]
  refine wpAny_bind (wpAny_holding (thn (ho.run pins s σ H _ I h) fun ov s1 ⟨x, H1, I1, r1, q1⟩ => ?_))
  refine wpAny_bind (wpAny_holding (thn (hi.run pins s1 σ H1 _ I1 q1) fun iv s2 ⟨y, H2, I2, r2, q2⟩ => ?_))
  obtain ⟨a, dx, fs, rfl, ha2, hsp⟩ := q2
  cases r1
  obtain ⟨mA, J, _⟩ := ins_get I2.hok ha2
  obtain ⟨od, J, _⟩ := J.look
  obtain ⟨m, hF⟩ := I2.fr
  refine wpAny_bind (wpAny_standAt (wpAny_bind (wpAny_holding (PySem.W.ksp_setItem hF I2.ok.mod.kin J hq hs hfn ?_))))
  refine wpAny_mono (run_fnS (us := [.ref a, iv, u]) (vs := [.ref a, y, v]) (E := E) F hr hb (hx σ) I2 (.cons rfl (.cons r2 (.cons r .nil))) hsp) (fun r s' q => ?_) fun _ _ e => e
  obtain ⟨z, H', I', rz, q⟩ := q
  exact wpAny_release ⟨σ, H', I', q⟩
end
end XL
set_option Elab.async false
set_option linter.all false
set_option maxRecDepth 100000
set_option maxHeartbeats 4000000
/-! XOwnIt: list(o), o an object whose own __iter__ hands on iter(t), t a tuple. -/
namespace XL
open PySem PySem.Spec PyProof.Rows L2
/-- an iterator over the tuple at t, the next place is i -/
def ItT (t it : Addr) (i : Nat) : HO := .ext fun h => IsTupIter h it t i
/-- .. that has ended -/
def ItTE (it : Addr) : HO := .ext fun h => ∃ o, h.get? it = some o
theorem itT_ok {P : Program} {w : World} {H : Hp} {h : Heap} {t it : Addr} {i : Nat} (e : IsTupIter h it t i) : ObjOk P w H h it (ItT t it i) := by
  obtain ⟨o, h1, h2⟩ := e
  exact ⟨⟨o, h1, h2⟩, ⟨_, h1⟩, fun g1 g2 ⟨o', q1, q2⟩ k => ⟨o', k _ q1, q2⟩⟩
theorem itTE_ok {P : Program} {w : World} {H : Hp} {h : Heap} {it : Addr} {o : Obj} (e : h.get? it = some o) : ObjOk P w H h it (ItTE it) := ⟨⟨o, e⟩, ⟨_, e⟩, fun g1 g2 ⟨o', q1⟩ k => ⟨o', k _ q1⟩⟩
section
variable {X : Cx} {pins : List (Addr × Obj)} {σ : L2.St} {H : Hp} {s : Shared}
theorem itT_get {t it : Addr} {i : Nat} (I : Inv X pins σ H s) (e : H it = some (ItT t it i)) : IsTupIter s.heap it t i := (I.hok it _ e).1
theorem call_iter_tup {M : Program} {w : World} {A : Around} {E : Value → Shared → Prop} {s : Shared} {t : Addr} {items : Array Value} {Q : Value → Shared → Prop} (ht : IsTup s.heap t items)
    (h : Q (.ref s.heap.objs.size) { s with heap := s.heap.push { cls := .type "tuple_iterator", data := .fields #[.ref t, .int 0 0] } }) : wpAny (model M w) A (call (.builtin "iter") [.ref t]) Q E s := by
  refine Calls.call_function_entry (by decide +kernel) (by decide +kernel) PySem.W.kdk_entry_iter (PySem.W.kdk_args_iter _) ?_
  unfold Builtin.«iter»
  refine wpAny_bind (m := someArgs "iter" 1 2 _) (wpAny_of_eq (a := [Value.ref t]) (by first | rfl | kernel_rfl!) ?_)
  show wpAny _ _ (pyIter (.ref t) >>= _) _ _ _
  refine wpAny_bind (iter_tuple ht ?_)
  exact wpAny_pure ⟨_, rfl, h⟩
/-- iter(t) -/
def rIterT (K : PySem.W.Frag) : List V → Hp → VK → Prop := fun xs H Q => ∃ (t : Addr) (zs : List V), xs = [.ref t] ∧ SqT K H t zs ∧ ∀ it, H it = none → Q (.ref it) (upd H it (ItT t it 0))
theorem call_iterT : CallR X (.builtin "iter") (rIterT X.K) := by
  intro pins s σ H xs us Q I r h
  obtain ⟨t, zs, rfl, hq, q⟩ := h
  obtain rfl := Vals.ref1 r
  obtain ⟨its, rv, pl, hz⟩ := I.tuple hq
  refine call_iter_tup pl ?_
  exact ⟨.ref s.heap.objs.size, _, I.laid (t' := s.toks) (fun b u e => Heap.get?_push_of_some _ e) (Nat.le_refl _) (itT_ok ⟨_, Heap.get?_push_size _ rfl, rfl, rfl⟩), rfl, q _ (I.hok.fresh (Nat.le_refl _))⟩
theorem call_iterTK (K : PySem.W.Frag) (h : X.K = K := by rfl) : CallR X (.builtin "iter") (rIterT K) := h ▸ call_iterT
theorem sqT_upd {K : PySem.W.Frag} {H : Hp} {t x : Addr} {zs : List V} {o : HO} (h : SqT K H t zs) (hx : ∀ o' xs, H x ≠ some (.tup xs) ∧ H x ≠ some (.frz o' (.tup xs))) : SqT K (upd H x o) t zs := by
  rcases h with (h | ⟨ob, h⟩) | h
  · have ne : t ≠ x := fun z => (hx default zs).1 (by rw [← z]; exact h)
    exact .inl (.inl (by rw [upd_ne ne]; exact h))
  · have ne : t ≠ x := fun z => (hx ob zs).2 (by rw [← z]; exact h)
    exact .inl (.inr ⟨ob, by rw [upd_ne ne]; exact h⟩)
  · exact .inr h
/-- the end of a tuple: the iterator itself stays there -/
theorem next_tup_end {P : Program} {w : World} {A : Around} {E : Value → Shared → Prop} {s : Shared} {it t : Addr} {i : Nat} {items : Array Value} {Q : Option Value → Shared → Prop} (hh : A.handled = none)
    (hit : IsTupIter s.heap it t i) (ht : IsTup s.heap t items) (hx : items[i]? = none)
    (hQ : ∀ h', Heap.ExtBut it s.heap h' → (∃ o, h'.get? it = some o) → Q none { s with heap := h' }) : wpAny (model P w) A (pyNext (.ref it)) Q E s := by
  obtain ⟨o, ho, hc, hd⟩ := id hit
  obtain ⟨ol, hol, _, nl, hdl⟩ := ht
  unfold pyNext
  refine wpAny_bind (wpAny_attempt (wpAny_callSpecial?_slot (name := Str.ofString "__next__") hit.typeIs slot_tupleiter_next (wpAny_call_entry slot_tupleiter_next hit.typeIs entry_tupleiter_next ?_ (args_tupleiter_next _))))
  show wpAny _ _ (field (.ref it) 0 >>= _) _ _ s
  refine wpAny_bind (wpAny_field ho hd (x := .ref t) rfl (PySem.W.KFB.if_not rfl ?_))
  show wpAny _ _ (field (.ref it) 1 >>= _) _ _ s
  refine wpAny_bind (wpAny_field ho hd (x := .int i 0) rfl ?_)
  show wpAny _ _ (seqItems? (.ref t) >>= _) _ _ s
  refine wpAny_bind (wpAny_seqItems hol hdl ?_)
  simp only [Int.toNat_natCast, hx]
  refine wpAny_bind (wpAny_rule (wpAny_bind (wpAny_setField ho hd (by simp) ?_)))
  show wpAny _ _ (newExc (.type "StopIteration") [] >>= _) _ _ _
  refine wpAny_bind ?_
  simp only [newExc, newTuple]
  refine wpAny_bind (wpAny_newObj_type ?_ (by size_fits))
  refine wpAny_bind (m := firstArgMember _ _) (wpAny_of_eq (a := Value.none) (by first | rfl | (simp only [firstArgMember]; rfl)) ?_)
  refine wpAny_newObj_type ?_ (by size_fits)
  simp only [raiseNew]
  refine wpAny_bind (wpAny_handled ?_)
  first | rw [show A.in1.handled = none from hh] | rw [hh]
  refine wpAny_bind (wpAny_pure (wpAny_throw ?_))
  refine wpAny_bind (wpAny_isInstance (T := "StopIteration") (b := true) ⟨_, Heap.get?_push_size _ rfl, rfl⟩ isSubtype_stop ?_)
  exact wpAny_pure (hQ _ (((Heap.SameBut.update ..).extBut.push _).push _) ⟨_, Heap.get?_push_of_some _ (Heap.get?_push_of_some _ (Heap.get?_update_self _ ho (Obj.isFreed_of_fields (Obj.data_mapFields hd _))))⟩)
/-- the loop that fills the list at q -/
theorem loop_tup {A1 : Around} {Rs : Result → Shared → Prop} {q it t : Addr} {zs : List V} (hd : A1.in1.handled = none) (hne : q ≠ it) :
    ∀ (k i : Nat) (H : Hp) (s : Shared), zs.length - i = k → i ≤ zs.length → Inv X pins σ H s → H it = some (ItT t it i) → SqT X.K H t zs → H q = some (.lst (zs.take i)) →
      (∀ s', Inv X pins σ (upd (upd H it (ItTE it)) q (.lst zs)) s' → Rs (.ok (.ret .none)) s') → codeAny (model X.prog X.w) A1 (.builtin "list.extend.loop" ⟨[.ref q, .ref it, .none], []⟩) Rs s := by
  intro k
  induction k with
  | zero =>
    intro i H s hk hi I hit ht hq hR
    obtain ⟨its, rv, pl, hz⟩ := I.tuple ht
    have hin : zs.length = its.length := rv.length
    have mu : Mut (H it) := by rw [hit]; exact True.intro
    refine codeAny_builtin PySem.F.entry_extend_loop ?_
    rw [Around.under_plainId PySem.F.plain_extend_loop _]
    show wpAny _ A1.in1 (pyNext (.ref it) >>= _) _ _ s
    have ei : i = zs.length := by omega
    refine wpAny_bind (next_tup_end hd (itT_get I hit) pl (by rw [List.getElem?_toArray]; exact List.getElem?_eq_none (by omega)) fun h' eb ⟨o, ho⟩ => wpAny_pure ?_)
    have I2 : Inv X pins σ (upd H it (ItTE it)) { s with heap := h' } := I.write (x := it) (e := it) (t' := s.toks) mu (.inl rfl) (fun b o nb z => eb b o nb z) ⟨_, ho⟩ (itTE_ok ho)
    refine hR _ ?_
    have e : upd (upd H it (ItTE it)) q (.lst zs) = upd H it (ItTE it) := by
      funext b
      by_cases hb : b = q
      · rw [hb, upd_same, upd_ne hne, hq, ei, List.take_length]
      · rw [upd_ne hb]
    rw [e]
    exact I2
  | succ k ih =>
    intro i H s hk hi I hit ht hq hR
    obtain ⟨its, rv, pl, hz⟩ := I.tuple ht
    have hin : zs.length = its.length := rv.length
    have mu : Mut (H it) := by rw [hit]; exact True.intro
    have hlt : i < zs.length := by omega
    have hzi := List.getElem?_eq_getElem hlt
    obtain ⟨u, hu, ru⟩ := rv.get hzi
    refine codeAny_builtin PySem.F.entry_extend_loop ?_
    rw [Around.under_plainId PySem.F.plain_extend_loop _]
    show wpAny _ A1.in1 (pyNext (.ref it) >>= _) _ _ s
    refine wpAny_bind (next_tuple_item (itT_get I hit) pl (by rw [List.getElem?_toArray]; exact hu) fun h' hit' sb => ?_)
    obtain ⟨o, ho, _⟩ := id hit'
    have I2 : Inv X pins σ (upd H it (ItT t it (i + 1))) { s with heap := h' } := I.write (x := it) (e := it) (t' := s.toks) mu (.inl rfl) (fun b o nb z => (sb.2 b nb).trans z) ⟨_, ho⟩ (itT_ok hit')
    have hq2 : upd H it (ItT t it (i + 1)) q = some (.lst (zs.take i)) := by rw [upd_ne hne]; exact hq
    show wpAny _ A1.in1 (updateSeq q (·.push u) >>= _) _ _ _
    obtain ⟨z, its2, c, r2, hl, e⟩ := I2.lstM hq2
    have l2 : its2.length ≤ 16777215 := by
      rw [← hl, List.length_take]
      have := hz
      rw [sizeLine_eq] at this
      omega
    refine wpAny_bind (wpAny_updateSeq e rfl (wpAny_pure ⟨plainId_quiet PySem.F.plain_extend_loop _, ?_⟩) (by rw [List.size_toArray, sizeLine_eq]; omega) (by show (its2.toArray.push u).size ≤ sizeLine + 1; rw [Array.size_push, List.size_toArray, sizeLine_eq]; omega))
    have I3 := I2.lset (f := (·.push u)) (its' := its2 ++ [u]) (ys := zs.take i ++ [zs[i]]) (t' := s.toks) hq2 e (by simp) (r2.append (.cons ru .nil)) (by rw [List.length_append, List.length_singleton, List.length_take, sizeLine_eq]; rw [sizeLine_eq] at hz; omega)
    refine ih (i + 1) _ _ (by omega) (by omega) I3 ?_ ?_ ?_ fun s' I4 => hR s' ?_
    · rw [upd_ne (Ne.symm hne), upd_same]
    · exact sqT_upd (sqT_upd ht fun o' xs => ⟨by rw [hit]; exact fun z => (nomatch z), by rw [hit]; exact fun z => (nomatch z)⟩) fun o' xs => ⟨by rw [hq2]; exact fun z => (nomatch z), by rw [hq2]; exact fun z => (nomatch z)⟩
    · rw [upd_same, take_snoc hzi]
    · have e4 : upd (upd (upd (upd H it (ItT t it (i + 1))) q (.lst (zs.take i ++ [zs[i]]))) it (ItTE it)) q (.lst zs) = upd (upd H it (ItTE it)) q (.lst zs) := by
        funext b
        by_cases hb : b = q
        · rw [hb, upd_same, upd_same]
        · rw [upd_ne hb, upd_ne hb]
          by_cases hb2 : b = it
          · rw [hb2, upd_same, upd_same]
          · rw [upd_ne hb2, upd_ne hb2, upd_ne hb, upd_ne hb2]
      rw [← e4]
      exact I4
/-- list(o) -/
def rListIt (K : PySem.W.Frag) (C : Addr) (sp : Sp) (E : XK) : List V → Hp → VK → Prop := fun xs H Q => ∃ a dx fs, xs = [.ref a] ∧ H a = some (.ins C dx fs) ∧
  ∀ q, H q = none → sp [.ref a] (upd H q (.lst [])) (fun v H1 => ∃ (it t : Addr) (zs : List V), v = .ref it ∧ H1 it = some (ItT t it 0) ∧ SqT K H1 t zs ∧ H1 q = some (.lst []) ∧ (∃ dx' fs', H1 a = some (.ins C dx' fs')) ∧ Q (.ref q) (upd (upd H1 it (ItTE it)) q (.lst zs))) E
theorem hint_own {M : Model} {A : Around} {E : Value → Shared → Prop} {s : Shared} {Q : Bool → Shared → Prop} {K : PySem.W.Frag} {C a : Addr} {ox : Obj} {od : Option Obj} (h1 : PySem.W.findIn K (.ref C) "__len__" = some none) (h2 : PySem.W.findIn K (.ref C) "__length_hint__" = some none)
    (hK : K.In s.heap) (J : PySem.W.InstAt s.heap a ox C od) (h : Q true s) : wpAny M A (Builtin.List.listLengthHint (.ref a)) Q E s := by
  unfold Builtin.List.listLengthHint
  refine wpAny_bind (wpAny_bind (J.type.here ((PySem.W.looks_findIn hK h1).here (PySem.W.KFB.if_not rfl (PySem.W.KFB.if_not rfl ?_)))))
  exact wpAny_bind (wpAny_bind (J.type.here ((PySem.W.looks_findIn hK h2).here (wpAny_pure h))))
theorem call_listIt {C f : Addr} {fd : FuncData} {ps : List Str} {sp : Sp} {E : XK} {n : Nat} {CX : CXT} (hs : PySem.W.findIn X.K (.ref C) "__iter__" = some (some (.ref f))) (hfn : PySem.W.isFn X.K (.ref f) = true) (n1 : PySem.W.findIn X.K (.ref C) "__len__" = some none) (n2 : PySem.W.findIn X.K (.ref C) "__length_hint__" = some none)
    (F : FnOk X.prog X.w X.K X.mg X.base CX n f fd ps sp) (hb : Binds X.K fd ps []) (hx : Passes CX X E) (hr : Room (n + 2) X.A) : CallR X (.type "list") (rListIt X.K C sp E) := by
  intro pins s σ H xs us Q I rv h
  obtain ⟨a, dx, fs, rfl, ha, hq⟩ := h
  obtain ⟨u, rfl, ru⟩ := rv.one
  cases ru
  have sb : Sub X n X.A.in1.in1 := (Sub.in1 (Sub.in1 (⟨hr, rfl⟩ : Sub X (n + 2) X.A)))
  refine callType_codes (Q₁ := fun obj s₁ => obj = .ref s.heap.objs.size ∧ s₁ = { s with heap := s.heap.push { cls := .type "list", data := .seq #[] } }) PySem.F.called_list (PySem.F.typeCall_list_1 _) PySem.F.entry_list_init
    (code_list_new _ ⟨rfl, rfl⟩) fun obj s₁ h₁ => ?_
  obtain ⟨rfl, rfl⟩ := h₁
  have hS : (s.heap.push { cls := .type "list", data := .seq #[] }).get? s.heap.objs.size = some { cls := .type "list", data := .seq #[] } := Heap.get?_push_size _ rfl
  refine ⟨⟨_, hS, rfl⟩, PySem.F.args_list_init_2 _ _, ?_⟩
  have fr : H s.heap.objs.size = none := I.hok.fresh (Nat.le_refl _)
  have hsp := hq _ fr
  have I1 : Inv X pins σ (upd H s.heap.objs.size (.lst [])) { s with heap := s.heap.push { cls := .type "list", data := .seq #[] } } := I.lnew (its := []) (t' := s.toks) .nil (Nat.zero_le _)
  show wpAny _ _ (do let old ← Builtin.List.listItems (.ref s.heap.objs.size); Builtin.List.listUpdate (.ref s.heap.objs.size) (fun _ => #[]); letGo old.toList.reverse; Builtin.List.listExtendWith (.ref s.heap.objs.size) (.ref a) .none) _ _ _
  refine wpAny_bind ?_
  unfold Builtin.List.listItems
  refine wpAny_bind (wpAny_seqItems hS rfl (wpAny_pure ?_))
  show wpAny _ _ (updateSeq s.heap.objs.size (fun _ => #[]) >>= fun _ => letGo (#[] : Array Value).toList.reverse >>= fun _ => Builtin.List.listExtendWith (.ref s.heap.objs.size) (.ref a) .none) _ _ _
  refine wpAny_bind (wpAny_updateSeq hS rfl ?_)
  have I2 := I1.lset (f := fun _ => #[]) (its := []) (its' := []) (ys := []) (t' := s.toks) upd_same hS rfl .nil (Nat.zero_le _)
  rw [upd_upd] at I2
  refine wpAny_bind (wpAny_letGo ?_)
  have ha2 : upd H s.heap.objs.size (.lst []) a = some (.ins C dx fs) := by rw [upd_ne (ne_of_none ha fr)]; exact ha
  have hne : s.heap.objs.size ≠ a := Ne.symm (ne_of_none ha fr)
  generalize hH2 : upd H s.heap.objs.size (.lst []) = H2 at *
  generalize s.heap.objs.size = q at *
  obtain ⟨mA, J, _⟩ := ins_get I2.hok ha2
  obtain ⟨od, J, _⟩ := J.look
  obtain ⟨m0, hF⟩ := I2.fr
  unfold Builtin.List.listExtendWith
  refine wpAny_bind (J.type.here ?_)
  have h1 : Builtin.List.listSameRef (.ref q) (.ref a) = false := by simp [Builtin.List.listSameRef, hne]
  have h2 : (Value.ref C == Value.type "list") = false := rfl
  have h3 : (Value.ref C == Value.type "tuple") = false := rfl
  simp only [h1, h2, h3, Bool.or_false, Bool.false_eq_true, if_false]
  refine wpAny_bind (PySem.W.owit_iter hF I2.ok.mod.kin J hs hfn ?_)
  have e0 : ∀ {s : Shared} {H : Hp}, Inv X pins σ H s → Env0 X.prog X.w X.K X.mg X.base X.A.in1.in1 X.stack s H := fun {s H} I => by
    have e := I.env0
    exact ⟨by rw [sb.fr]; exact e.frames, e.mod, e.bs, e.bsz, e.funs, e.frf, e.hok, e.bare⟩
  have hl := F.len _ _ _ _ hsp
  have r2 : Vals [V.ref a] [Value.ref a] := .cons rfl .nil
  refine wpAny_call (codeAny_mono (F.run X.A.in1.in1 X.stack _ _ ⟨[.ref a], []⟩ [.ref a] [.ref a] _ E sb.room (e0 I2) (by
    have := hb _ [.ref a] I2.kIn (by simpa using hl)
    simpa using this) r2 hsp) fun r s' hq' => ?_)
  cases r with
  | error e => exact hx pins σ _ _ e s' I2 hq'
  | ok fl =>
    cases fl with
    | next => exact False.elim hq'
    | brk => exact False.elim hq'
    | cont => exact False.elim hq'
    | ret u =>
      obtain ⟨v, H', I', rv, it, t, zs, ev, hit, ht, hqq, ⟨dx', fs', ha'⟩, hQ⟩ := I2.after hq'
      subst ev
      cases rv
      have hT : s'.TypeIs (.ref it) "tuple_iterator" := (itT_get I' hit).typeIs
      have hqi : q ≠ it := fun z => by
        rw [z, hit] at hqq
        exact (nomatch hqq)
      show wpAny _ _ (specialOf (.ref it) "__next__") _ _ _
      refine wpAny_specialOf hT slot_tupleiter_next.lookup ?_
      obtain ⟨mA', J', _⟩ := ins_get I'.hok ha'
      obtain ⟨od', J', _⟩ := J'.look
      refine wpAny_bind (wpAny_holding (hint_own n1 n2 I'.kIn J' ?_))
      have go : ∀ s'', Inv X pins σ H' s'' → codeAny (model X.prog X.w) X.A.in1 (.builtin "list.extend.loop" ⟨[.ref q, .ref it, .none], []⟩) (wants (fun r s₂ => r = .none ∧ EP X pins σ Q (.ref q) s₂) X.xe) s'' := fun s'' I'' =>
        loop_tup (t := t) (zs := zs) sb.room.hd hqi zs.length 0 H' s'' (by simp) (Nat.zero_le _) I'' hit ht (by rw [hqq]; rfl) fun s3 I3 => ⟨rfl, .ref q, _, I3, rfl, hQ⟩
      obtain ⟨z, its, k, r3, hl3, e3⟩ := I'.lstM hqq
      cases r3
      refine wpAny_ite_split (fun _ => ?_) (fun _ => wpAny_pure ⟨plainId_quiet PySem.F.plain_extend_loop _, go s' I'⟩)
      refine wpAny_bind (wpAny_rule ?_)
      refine wpAny_bind ?_
      show wpAny _ _ (updateSeq q (·.push .none) >>= fun _ => updateSeq q (·.pop)) _ _ _
      refine wpAny_bind (wpAny_updateSeq e3 rfl ?_)
      have I3 := I'.lset (f := (·.push Value.none)) (its' := [Value.none]) (ys := [.non]) (t' := s'.toks) hqq e3 (by simp) (.cons rfl .nil) (by rw [List.length_singleton, sizeLine_eq]; decide)
      obtain ⟨z4, its4, k4, r4, hl4, e4⟩ := I3.lstM upd_same
      obtain ⟨u4, rfl, ru4⟩ := r4.one
      refine wpAny_updateSeq e4 rfl ?_ (by show 1 ≤ sizeLine; rw [sizeLine_eq]; decide) (by show 0 ≤ sizeLine + 1; exact Nat.zero_le _)
      have I4 := I3.lset (f := (·.pop)) (its := [u4]) (its' := []) (ys := []) (t' := s'.toks) upd_same e4 (by rfl) .nil (Nat.zero_le _)
      rw [upd_upd] at I4
      have hH : upd H' q (.lst []) = H' := by
        funext b
        by_cases hb : b = q
        · rw [hb, upd_same, hqq]
        · rw [upd_ne hb]
      rw [hH] at I4
      exact wpAny_pure ⟨plainId_quiet PySem.F.plain_extend_loop _, go _ I4⟩
end
end XL
set_option Elab.async false
set_option linter.all false
set_option maxRecDepth 100000
set_option maxHeartbeats 4000000
/-! XOr: two rules for one piece of text; what classes say of an own error. -/
namespace XL
open PySem PySem.Spec PyProof.Rows L2
section
variable {X : Cx}
theorem pe_or {e : Expr} {t u : TE} (h : PE X e t) (k : PE X e u) : PE X e (fun σ H Q => t σ H Q ∨ u σ H Q) := ⟨fun pins s σ H Q I q => q.elim (h.run pins s σ H Q I) (k.run pins s σ H Q I)⟩
theorem pg_or {e : Expr} {t u : TG} (h : PG X e t) (k : PG X e u) : PG X e (fun v σ H Q => t v σ H Q ∨ u v σ H Q) := ⟨fun pins s σ H v w Q I r q => q.elim (h.run pins s σ H v w Q I r) (k.run pins s σ H v w Q I r)⟩
theorem cr_or {f : Value} {t u : List V → Hp → VK → Prop} (h : CallR X f t) (k : CallR X f u) : CallR X f (fun xs H Q => t xs H Q ∨ u xs H Q) := fun pins s σ H xs us Q I r q => q.elim (h pins s σ H xs us Q I r) (k pins s σ H xs us Q I r)
end
section
variable {P : Program} {w : World} {K : PySem.W.Frag} {mg : Str → Option Value} {base : Heap} {CX : CXT} {k : Nat} {f : Addr} {fd : FuncData} {ps : List Str} {sp sq : Sp}
theorem fn_or (h : FnOk P w K mg base CX k f fd ps sp) (h2 : FnOk P w K mg base CX k f fd ps sq) : FnOk P w K mg base CX k f fd ps (fun vs H Q E => sp vs H Q E ∨ sq vs H Q E) :=
  ⟨fun vs H Q E q => q.elim (h.len vs H Q E) (h2.len vs H Q E), fun A outer s H args us vs Q E hr he hb hv q => q.elim (h.run A outer s H args us vs Q E hr he hb hv) (h2.run A outer s H args us vs Q E hr he hb hv)⟩
end
theorem kit_of {K : PySem.W.Frag} {D C : Addr} {b : Bool} (hne : (Value.ref D == Value.ref C) = false) (h2 : PySem.W.isClsIn K C = true) (h3 : PySem.W.typeIn K (.ref C) = some (.type "type")) (h4 : PySem.W.subIn K (.ref D) (.ref C) = some b) : PySem.W.kitOne K (.ref D) (.ref C) = some b := by
  have e2 : ((PySem.W.clsIn K C).isSome && PySem.W.typeIn K (.ref C) == some (.type "type")) = true := by
    have h2' : (PySem.W.clsIn K C).isSome = true := h2
    rw [h2', h3]
    rfl
  show (if (Value.ref D == Value.ref C) = true then some true else (if ((PySem.W.clsIn K C).isSome && PySem.W.typeIn K (.ref C) == some (.type "type")) = true then PySem.W.subIn K (.ref D) (.ref C) else none)) = some b
  rw [if_neg (by rw [hne]; decide), if_pos e2]
  exact h4
theorem exm_of {K : PySem.W.Frag} {S : Addr} {cls : Value} {b : Bool} (h1 : PySem.W.subIn K (.ref S) (.type "BaseException") = some true) (h2 : PySem.W.isClsIn K S = true) (h3 : PySem.W.typeIn K (.ref S) = some (.type "type")) (h4 : PySem.W.subIn K cls (.ref S) = some b) : PySem.W.exmOne K cls (.ref S) = some b := by
  have e1 : (PySem.W.subIn K (.ref S) (.type "BaseException") == some true) = true := by rw [h1] <;> rfl
  have e2 : ((PySem.W.clsIn K S).isSome && PySem.W.typeIn K (.ref S) == some (.type "type")) = true := by
    have h2' : (PySem.W.clsIn K S).isSome = true := h2
    rw [h2', h3] <;> rfl
  show (if (PySem.W.subIn K (.ref S) (.type "BaseException") == some true) = true then (if ((PySem.W.clsIn K S).isSome && PySem.W.typeIn K (.ref S) == some (.type "type")) = true then PySem.W.subIn K cls (.ref S) else none) else none) = some b
  rw [if_pos e1, if_pos e2]
  exact h4
end XL
set_option Elab.async false
set_option linter.all false
set_option maxRecDepth 100000
set_option maxHeartbeats 4000000
/-! XTxt: texts of small letters; a name that is not used. -/
namespace XL
open PySem PySem.Spec PyProof.Rows L2
def LS : Str := "abcdefghijklmnopqrstuvwxyz"
structure Lt (a b : Nat) (z : Str) : Prop where
  lo : a ≤ z.length
  hi : z.length ≤ b
  ch : ∀ c ∈ z.cps.toList, c ∈ LS.cps.toList
theorem len_tl (z : Str) : z.length = z.cps.toList.length := by
  show z.cps.size = _
  rw [Array.length_toList]
theorem Lt.one {c : Nat} (h : c ∈ LS.cps.toList) : Lt 1 1 ⟨#[c]⟩ := ⟨Nat.le_refl _, Nat.le_refl _, fun d hd => by
  have : d = c := by simpa using hd
  rw [this]
  exact h⟩
theorem Lt.wide {a b a' b' : Nat} {z : Str} (h : Lt a b z) (h1 : a' ≤ a) (h2 : b ≤ b') : Lt a' b' z := ⟨Nat.le_trans h1 h.lo, Nat.le_trans h.hi h2, h.ch⟩
theorem app_len (x y : Str) : (x ++ y).length = x.length + y.length := Str.length_append x y
theorem app_tl (x y : Str) : (x ++ y).cps.toList = x.cps.toList ++ y.cps.toList := by
  rw [Str.cps_append]
  simp
theorem Lt.app {a b c d : Nat} {x y : Str} (h : Lt a b x) (k : Lt c d y) : Lt (a + c) (b + d) (x ++ y) := by
  have h1 := h.lo; have h2 := h.hi; have h3 := k.lo; have h4 := k.hi
  refine ⟨by rw [app_len]; omega, by rw [app_len]; omega, fun e he => ?_⟩
  rw [app_tl] at he
  rcases List.mem_append.mp he with z | z
  · exact h.ch e z
  · exact k.ch e z
theorem cut_mem {z : Str} {lo hi : Option Int} {c : Nat} (h : c ∈ (cutS z lo hi).cps.toList) : c ∈ z.cps.toList := by
  have h2 : c ∈ (z.cps.toList.drop (HT.sIx z.length 0 lo)).take (HT.sIx z.length z.length hi - HT.sIx z.length 0 lo) := by simpa [cutS] using h
  exact List.mem_of_mem_drop (List.mem_of_mem_take h2)
theorem cut_to_len (z : Str) (k : Nat) : (cutS z none (some (k : Int))).length = min k z.length := by
  rw [len_tl]
  show ((z.cps.toList.drop (HT.sIx z.length 0 none)).take (HT.sIx z.length z.length (some (k : Int)) - HT.sIx z.length 0 none)).toArray.toList.length = _
  rw [HT.sIx_nat, HT.sIx_none]
  rw [Nat.sub_zero, List.drop_zero, List.length_take, ← len_tl]
  omega
theorem cut_from_len (z : Str) (k : Nat) (h : k ≤ z.length) : (cutS z (some (k : Int)) none).length = z.length - k := by
  rw [len_tl]
  show ((z.cps.toList.drop (HT.sIx z.length 0 (some (k : Int)))).take (HT.sIx z.length z.length none - HT.sIx z.length 0 (some (k : Int)))).toArray.toList.length = _
  rw [HT.sIx_nat, HT.sIx_none, List.length_take, List.length_drop, ← len_tl]
  omega
theorem Lt.to {a b : Nat} {z : Str} (h : Lt a b z) (k : Nat) : Lt (min k a) (min k b) (cutS z none (some (k : Int))) := by
  have h1 := h.lo; have h2 := h.hi
  exact ⟨by rw [cut_to_len]; omega, by rw [cut_to_len]; omega, fun c hc => h.ch c (cut_mem hc)⟩
theorem joinL_nil : ∀ ps : List (List Nat), TL.joinL [] ps = ps.flatten
  | [] => rfl
  | [p] => by simp [TL.joinL]
  | p :: q :: r => by
    show p ++ ([] ++ TL.joinL [] (q :: r)) = _
    rw [joinL_nil (q :: r)]
    simp
theorem Lt.join {ys : List Str} (h : ∀ y ∈ ys, Lt 1 1 y) : Lt ys.length ys.length (Txt.join "" ys) := by
  have e : (Txt.join "" ys).cps.toList = (ys.map fun y => y.cps.toList).flatten := by
    rw [TL.join_eq]
    exact (TL.tl_join "" ys).trans (joinL_nil _)
  have el : ∀ {ys : List Str}, (∀ y ∈ ys, Lt 1 1 y) → ((ys.map fun y => y.cps.toList).flatten).length = ys.length := by
    intro ys
    induction ys with
    | nil => intro _; rfl
    | cons y r ih =>
      intro h
      have h1 := h y List.mem_cons_self
      have z := ih fun y hy => h y (List.mem_cons_of_mem _ hy)
      have l1 := h1.lo; have l2 := h1.hi
      rw [len_tl] at l1 l2
      rw [List.map_cons, List.flatten_cons, List.length_append, z, List.length_cons]
      omega
  have l := el h
  refine ⟨by rw [len_tl, e, l]; exact Nat.le_refl _, by rw [len_tl, e, l]; exact Nat.le_refl _, fun c hc => ?_⟩
  rw [e] at hc
  obtain ⟨p, hp, hcp⟩ := List.mem_flatten.mp hc
  obtain ⟨y, hy, rfl⟩ := List.mem_map.mp hp
  exact (h y hy).ch c hcp
theorem sum_ones : ∀ {ys : List Str}, (∀ y ∈ ys, Lt 1 1 y) → (ys.map (·.length)).sum = ys.length
  | [], _ => rfl
  | y :: r, h => by
    have h1 := h y List.mem_cons_self
    have z := sum_ones fun y hy => h y (List.mem_cons_of_mem _ hy)
    have l1 := h1.lo; have l2 := h1.hi
    rw [List.map_cons, List.sum_cons, z, List.length_cons]
    omega
/-! ### one that is not used -/
theorem nd_sub {α : Type} [DecidableEq α] : ∀ {xs ys : List α}, xs.Nodup → (∀ x ∈ xs, x ∈ ys) → xs.length ≤ ys.length
  | [], _, _, _ => Nat.zero_le _
  | x :: r, ys, nd, h => by
    have hx := h x List.mem_cons_self
    have nd' := List.nodup_cons.mp nd
    have z := nd_sub (ys := ys.erase x) nd'.2 fun y hy => (List.mem_erase_of_ne (fun e : y = x => nd'.1 (by rw [← e]; exact hy))).mpr (h y (List.mem_cons_of_mem _ hy))
    rw [List.length_erase_of_mem hx] at z
    have : 0 < ys.length := List.length_pos_of_mem hx
    rw [List.length_cons]
    omega
def letter (k : Nat) : Nat := LS.cps.toList.getD k 0
theorem letter_at {k : Nat} (h : k < 26) : LS.cps.toList[k]? = some (letter k) := by
  have z : ∀ j : Nat, j < 26 → LS.cps.toList[j]? = some (letter j) := by decide +kernel
  exact z k h
theorem letter_inj {i j : Nat} (hi : i < 26) (hj : j < 26) (h : letter i = letter j) : i = j := by
  have z : ∀ i : Nat, i < 26 → ∀ j : Nat, j < 26 → letter i = letter j → i = j := by decide +kernel
  exact z i hi j hj h
def tail2 (k : Nat) : Str := (⟨#[letter (k / 26)]⟩ : Str) ++ ⟨#[letter (k % 26)]⟩
theorem tail2_inj {p : Str} {i j : Nat} (hi : i < 676) (hj : j < 676) (h : p ++ tail2 i = p ++ tail2 j) : i = j := by
  have e := congrArg (fun z : Str => z.cps.toList) h
  simp only [app_tl, tail2] at e
  have e2 := List.append_cancel_left e
  have e3 : [letter (i / 26), letter (i % 26)] = [letter (j / 26), letter (j % 26)] := by simpa using e2
  injection e3 with h1 h2
  injection h2 with h2 _
  have a := letter_inj (by omega) (by omega) h1
  have b := letter_inj (by omega) (by omega) h2
  omega
theorem tail2_lt {k : Nat} (h : k < 676) : Lt 2 2 (tail2 k) :=
  (Lt.one (List.mem_of_getElem? (letter_at (by omega)))).app (Lt.one (List.mem_of_getElem? (letter_at (by omega))))
theorem unused (p : Str) (us : List Str) (h : us.length < 676) : ∃ k, k < 676 ∧ p ++ tail2 k ∉ us := by
  apply Classical.byContradiction
  intro no
  have all : ∀ z ∈ (List.range 676).map (fun k => p ++ tail2 k), z ∈ us := fun z hz => by
    obtain ⟨k, hk, rfl⟩ := List.mem_map.mp hz
    apply Classical.byContradiction
    intro q
    exact no ⟨k, List.mem_range.mp hk, q⟩
  have nd : ((List.range 676).map (fun k => p ++ tail2 k)).Nodup := by
    unfold List.Nodup
    rw [List.pairwise_map]
    refine List.Pairwise.imp_of_mem ?_ (List.nodup_range (n := 676))
    intro a b ha hb hab e
    exact hab (tail2_inj (List.mem_range.mp ha) (List.mem_range.mp hb) e)
  have z := nd_sub nd all
  rw [List.length_map, List.length_range] at z
  omega
theorem inV_str {x : Str} (xs : List Str) : inV (.str x) (xs.map V.str) = decide (x ∈ xs) := by
  unfold inV
  induction xs with
  | nil => rfl
  | cons y r ih =>
    rw [List.map_cons, List.any_cons, ih]
    show ((y == x) || decide (x ∈ r)) = decide (x ∈ y :: r)
    by_cases e : x = y
    · subst e; simp
    · have e2 : ¬ y = x := fun q => e q.symm
      simp [e, e2]
theorem strs_flat (xs : List Str) : (xs.map V.str).all flatV = true := by
  rw [List.all_eq_true]
  intro x hx
  obtain ⟨n, _, rfl⟩ := List.mem_map.mp hx
  rfl
end XL
set_option Elab.async false
set_option linter.all false
set_option maxRecDepth 100000
set_option maxHeartbeats 4000000
/-! XLine: C(*row), a method within a try, zip with K said, classes of an own error. -/
namespace XL
open PySem PySem.Spec PyProof.Rows L2
section
variable {X : Cx} {CX : CXT} {k : Nat} {f C : Addr} {fd : FuncData} {ps : List Str} {ds : List Value} {dvs : List V} {sp : Sp} {x m : Str} {p pos apos sp_ : Pos} {e o : Expr} {es : List Expr} {te ta : TE} {t : TA}
def tMakeS (K : PySem.W.Frag) (C : Addr) (sp : Sp) (dvs : List V) (E : XK) (te : TE) : TE := fun σ H Q => te σ H fun y H1 => ∃ a xs, y = V.ref a ∧ (SqT K H1 a xs ∨ SqL K H1 a xs) ∧
  ∀ x dx, H1 x = none → H1 dx = none → dx ≠ x → sp (.ref x :: (xs ++ dvs)) (upd (upd H1 dx (.own x)) x (.ins C dx [])) (fun v H2 => v = .non ∧ Q (.ref x) H2) E
/-- C(*row) -/
theorem pe_makeS {E : XK} (K : PySem.W.Frag) (M : Mk X.K C f) (F : FnOk X.prog X.w X.K X.mg X.base CX k f fd ps sp) (hr : Room (k + 1) X.A) (hg : Gl X x) (hm : X.mg x = some (.ref C)) (hb : Binds X.K fd ps ds) (hd : Vals dvs ds) (hx : Passes CX X E) (he : PE X e te) (hK : X.K = K := by rfl) (hdb : (x == ("__debug__" : Str)) = false := by decide)
    (hst : starEach [.Starred e sp_] X.env = [(true, eval e X.env)] := by rfl) : PE X (.Call (.Name x p) [.Starred e sp_] [] pos) (tMakeS K C sp dvs E te) := by
  subst hK
  refine ⟨fun pins s σ H Q I h => ?_⟩
  refine wpAny_Call_Name_kw (ld_glob I hg hm ?_ hdb)
  refine PySem.W.callWith_S (h₀ := X.base) I.ok.mod.kin M.kp (thn (he.run pins s σ H _ I h) fun v s1 ⟨y, H1, I1, ry, a, xs, ey, hxs, q⟩ => ?_) hst
  subst ey
  obtain rfl : v = Value.ref a := ry
  exact StX.star_any I1 hxs fun us s2 I2 rv => ⟨I2.kIn, run_make M F hr hb hd hx I2 rv q⟩
def tMethS (C : Addr) (m : Str) (sp : Sp) (E : L2.St → XK) (ta : TE) (t : TA) : TE := fun σ H Q => ta σ H fun x H1 => ∃ a dx fs, x = .ref a ∧ H1 a = some (.ins C dx fs) ∧ fs.lookup m = none ∧
  t σ H1 fun vs H2 => sp (x :: vs) H2 Q (E σ)
/-- o.m(..) within a try -/
theorem pe_methT {E : L2.St → XK} {pl : Sem Bool} (he : PE X o ta) (c : Cls X.K C) (hm : Meth X.K C m f) (F : FnOk X.prog X.w X.K X.mg X.base CX k f fd ps sp) (hr : Room k X.A) (hb : Binds X.K fd ps []) (hx : ∀ σ, PassesAt CX X σ (E σ)) (ha : PA X (e :: es) t)
    (hst : starEach (e :: es) X.env = (false, eval e X.env) :: starEach es X.env := by rfl) (hpl : (backTo pos (starEach es X.env)).any (·.1) = false := by rfl)
    (ht : eval (.Call (.Attribute o m apos) (e :: es) [] pos) X.env = (do
      let ov ← eval o X.env
      standAt apos.atName
      let (f, first) ← holding [ov] (getMethod ov m pl)
      callWith pos f first (backTo pos (starEach (e :: es) X.env)) (backToKw pos (keywordEach [] X.env))) := by rfl) :
    PE X (.Call (.Attribute o m apos) (e :: es) [] pos) (tMethS C m sp E ta t) := by
  refine ⟨fun pins s σ H Q I h => ?_⟩
  refine PySem.W.methodCall_KW (pl := pl) (thn (he.run pins s σ H _ I h) fun u s1 ⟨x, H1, I1, rx, a, dx, fs, ex, ea, l, q⟩ => ?_) ht
  subst ex
  obtain rfl : u = Value.ref a := rx
  refine getmeth_ok I1 ea c hm l ?_
  refine PySem.W.callWith_K (first := [.ref a]) (h₀ := X.base) I.ok.mod.kin hm.kp (thn (ha.run pos pins s1 σ H1 _ I1 q) fun us s2 ⟨vs, H2, I2, r, q2⟩ => ⟨I2.kIn, ?_⟩) hst hpl
  exact run_fnS (us := .ref a :: us) (vs := .ref a :: vs) (E := E) F hr hb (hx σ) I2 (.cons rfl r) q2
theorem pe_methT0 {E : L2.St → XK} {pl : Sem Bool} (he : PE X o ta) (c : Cls X.K C) (hm : Meth X.K C m f) (F : FnOk X.prog X.w X.K X.mg X.base CX k f fd ps sp) (hr : Room k X.A) (hb : Binds X.K fd ps []) (hx : ∀ σ, PassesAt CX X σ (E σ))
    (ht : eval (.Call (.Attribute o m apos) [] [] pos) X.env = (do
      let ov ← eval o X.env
      standAt apos.atName
      let (f, first) ← holding [ov] (getMethod ov m pl)
      callWith pos f first (backTo pos (starEach [] X.env)) (backToKw pos (keywordEach [] X.env))) := by rfl) :
    PE X (.Call (.Attribute o m apos) [] [] pos) (tMethS C m sp E ta tNil) := by
  refine ⟨fun pins s σ H Q I h => ?_⟩
  refine PySem.W.methodCall_KW (pl := pl) (thn (he.run pins s σ H _ I h) fun u s1 ⟨x, H1, I1, rx, a, dx, fs, ex, ea, l, q⟩ => ?_) ht
  subst ex
  obtain rfl : u = Value.ref a := rx
  refine getmeth_ok I1 ea c hm l ?_
  exact PySem.W.callWith_K0 (first := [.ref a]) I1.kIn hm.kp (run_fnS (us := [.ref a]) (vs := [.ref a]) (E := E) F hr hb (hx σ) I1 (.cons rfl .nil) q)
theorem pi_zipK {e e2 : Expr} {ta : TA} {p pos tpos : Pos} {elts : List Expr} {kk : Nat} (K : PySem.W.Frag) (hg : Gl X "zip") (hm : X.mg "zip" = none) (ha : PA X [e, e2] ta) (hK : X.K = K := by rfl)
    (hs : starEach [e, e2] X.env = (false, eval e X.env) :: starEach [e2] X.env := by rfl) (hpl : (backTo pos (starEach [e2] X.env)).any (·.1) = false := by rfl) :
    PI X (.Tuple elts kk tpos) (.Call (.Name "zip" p) [e, e2] [] pos) (iZip K ta) := hK ▸ pi_zip hg hm ha hs hpl
end
theorem kit_ty_of {K : PySem.W.Frag} {D : Addr} {T : String} {b : Bool} (h1 : PySem.W.kitMeta T = true) (h2 : PySem.W.subIn K (.ref D) (.type T) = some b) : PySem.W.kitOne K (.ref D) (.type T) = some b := by
  show (if (Value.ref D == Value.type T) = true then some true else (if PySem.W.kitMeta T = true then PySem.W.subIn K (.ref D) (.type T) else none)) = some b
  rw [if_neg (fun h => by cases h), if_pos h1]
  exact h2
end XL
set_option Elab.async false
set_option linter.all false
set_option maxRecDepth 100000
set_option maxHeartbeats 4000000
/-! XHot: a def that raises nothing and walks nothing, called within an except suite. -/
namespace XL
open PySem PySem.Spec PyProof.Rows L2 L2H
/-- what a def promises there -/
structure FnQ (P : Program) (w : World) (K : PySem.W.Frag) (mg : Str → Option Value) (base : Heap) (k : Nat) (f : Addr) (fd : FuncData) (ps : List Str) (sp : Sp) : Prop where
  len : ∀ vs H Q E, sp vs H Q E → vs.length = ps.length
  run : ∀ (A : Around) (outer : List Env) (s : Shared) (H : Hp) (args : Args) (us : List Value) (vs : List V) (Q : VK) (E : XK) (p : Addr × Obj), RoomH k A → PinOk outer H s p → Env0 P w K mg base A outer s H → BindsTo s fd args (ps.zip us) → Vals vs us → sp vs H Q E →
    codeAny (model P w) A (.call (.ref f) args) (CR CX0 outer P w H s Q E) s
theorem okQ {P : Program} {w : World} {K : PySem.W.Frag} {mg : Str → Option Value} {base : Heap} {x qual : Str} {st : Stmt} {f : Addr} {fd : FuncData} {N ps : List Str} {k : Nat} {sp : Sp} (F : Fun K x qual st f fd) (S : FnScope N ps (defScope st)) (len : ∀ vs H Q E, sp vs H Q E → vs.length = ps.length)
    (hbody : ∀ (cdv : Value) (A : Around) (outer : List Env) (s : Shared) (H : Hp) (vs : List V) (Q : VK) (E : XK) (p : Addr × Obj), RoomH k (A.deeper (envOfC qual (defScope st) s.heap.objs.size f cdv)) → sp vs H Q E →
      ∃ t, PSs (cxH CX0 P w K mg base N qual (defScope st) f cdv A outer s H E p) (defBody st) t ∧ t { nx := fun _ H' => Q .non H', rt := Q } (L2.start N vs) H) : FnQ P w K mg base (k + 1) f fd ps sp := by
  obtain ⟨oc, od, kV, doc, pm, an, cdv, ct, osl, rfl, lk, hcd⟩ := F.ex
  refine ⟨len, fun A outer s H args us vs Q E p hr hpin e0 hb r hsp => ?_⟩
  have hl := len _ _ _ _ hsp
  have KX : K.In s.heap := e0.mod.kin.keeps fun b o e => (e0.bs b o e).1
  have lim : s.heap.NoLimit := e0.mod.nolimit.keeps fun b o e => (e0.bs b o e).1
  have hkind : ∀ y ∈ ps.zip us, (defScope st).names.lookup y.1 = some .local ∨ ((defScope st).names.lookup y.1 = some .cell ∧ ((cellsFrom (s.heap.objs.size + 1) (defScope st).names []).lookup y.1).isSome = true) := fun ⟨n, v⟩ hy => by
    rcases S.par n (List.of_mem_zip hy).1 with q | q
    · exact .inl q
    · exact .inr ⟨q, PySem.W.cellsFrom_some _ _ _ (.inl q)⟩
  refine codeAny_call_function hr.depth (KX _ _ lk) rfl S.co S.gen rfl (PySem.W.codeRec_of KX hcd) (hb _ _ _ _ ?_)
  refine wpAny_newFunctionEnv_cells S.kind hkind fun env he s1 x => ?_
  subst he
  refine ⟨lim.keeps x.toInCall.keep, codeAny_func ?_⟩
  obtain ⟨t, ht, hq⟩ := hbody cdv A outer s H vs Q E p (hr.deeper _) hsp
  have I : Inv (cxH CX0 P w K mg base N qual (defScope st) f cdv A outer s H E p) [] (L2.start N vs) H s1 := inv_startH S hpin e0 hl r x
  refine wpAny_mono (ht.run [] s1 (L2.start N vs) H _ I hq) (fun fl s' hs => ?_) fun e s' hs => hs
  have fin : ∀ {σ' : L2.St} {H' : Hp} {v : V} {u : Value}, Inv (cxH CX0 P w K mg base N qual (defScope st) f cdv A outer s H E p) [] σ' H' s' → RelV v u → Q v H' → CE outer P w H s Q u s' :=
    fun {σ' H' v u} J rv q => ⟨v, H', J.os, J.bare, J.base, J.hok, rv, q⟩
  cases fl with
  | ret u =>
    obtain ⟨v, σ', H', J, rv, q⟩ := hs
    exact fin J rv q
  | next =>
    obtain ⟨σ', H', J, q⟩ := hs
    exact fin (v := V.non) (u := Value.none) J rfl q
  | brk =>
    obtain ⟨_, _, _, q⟩ := hs
    exact False.elim q
  | cont =>
    obtain ⟨_, _, _, q⟩ := hs
    exact False.elim q
section
variable {X : Cx} {k : Nat} {f : Addr} {fd : FuncData} {ps : List Str} {sp : Sp} {E : XK} {x : Str} {q pos : Pos} {e : Expr} {es : List Expr} {t : TA}
theorem pe_callQ (F : FnQ X.prog X.w X.K X.mg X.base k f fd ps sp) (hr : RoomH k X.A) (hc : ∃ p, p ∈ X.pn) (hg : Gl X x) (hm : X.mg x = some (.ref f)) (hk : PySem.W.keepIn X.K (.ref f) = true) (hb : Binds X.K fd ps []) (hx : Passes CX0 X E)
    (ha : PA X (e :: es) t) (hdb : (x == ("__debug__" : Str)) = false := by decide) (he : starEach (e :: es) X.env = (false, eval e X.env) :: starEach es X.env := by rfl) (hpl : (backTo pos (starEach es X.env)).any (·.1) = false := by rfl) :
    PE X (.Call (.Name x q) (e :: es) [] pos) (fun σ H Q => t σ H fun vs H1 => sp vs H1 Q E) := by
  refine ⟨fun pins s σ H Q I h => ?_⟩
  refine wpAny_Call_Name_kw (ld_glob I hg hm ?_ hdb)
  refine PySem.W.callWith_K (h₀ := X.base) I.ok.mod.kin hk (thn (ha.run pos pins s σ H _ I h) fun us s1 ⟨vs, H1, I1, r, q⟩ => ⟨I1.kIn, ?_⟩) he hpl
  obtain ⟨p, hp⟩ := hc
  have hl : us.length = ps.length := by rw [← r.length]; exact F.len _ _ _ _ q
  have b := hb s1 us I1.kIn (by rw [List.append_nil]; exact hl)
  rw [List.append_nil] at b
  have P1 := I1.pin p (List.mem_append_left _ hp)
  have hpin : PinOk X.stack H1 s1 p := ⟨P1.1, P1.2.1, fun hm => (List.mem_cons.mp (I1.stkSub p.1 hm)).elim P1.2.2.1 P1.2.2.2.1, P1.2.2.2.2⟩
  refine wpAny_call (codeAny_mono (F.run X.A X.stack s1 H1 ⟨us, []⟩ us vs Q E p hr hpin I1.env0 b r q) fun r s' hq => ?_)
  cases r with
  | error e => exact hx pins σ _ _ e s' I1 hq
  | ok fl =>
    cases fl with
    | ret u => exact I1.after hq
    | next => exact False.elim hq
    | brk => exact False.elim hq
    | cont => exact False.elim hq
end
theorem roomQ {X : Cx} {k j : Nat} {a : Addr} {pn : List (Addr × Obj)} (hr : Room k X.A) (h : j ≤ k) : RoomH j (X.suite a pn).A := ⟨(hr.mono h).dp, (hr.mono h).un⟩
end XL
set_option Elab.async false
set_option linter.all false
set_option maxRecDepth 100000
set_option maxHeartbeats 4000000
/-! XGuard: defs that are called while no repr is under way (Around.guards is known to be empty); repr of data there. -/
namespace XL
open PySem PySem.Spec PyProof.Rows L2
/-- what a def promises when no repr is under way -/
structure FnG (P : Program) (w : World) (K : PySem.W.Frag) (mg : Str → Option Value) (base : Heap) (CX : CXT) (k : Nat) (f : Addr) (fd : FuncData) (ps : List Str) (sp : Sp) : Prop where
  len : ∀ vs H Q E, sp vs H Q E → vs.length = ps.length
  run : ∀ (A : Around) (outer : List Env) (s : Shared) (H : Hp) (args : Args) (us : List Value) (vs : List V) (Q : VK) (E : XK), Room k A → A.guards = some [] → Env0 P w K mg base A outer s H → BindsTo s fd args (ps.zip us) → Vals vs us → sp vs H Q E →
    codeAny (model P w) A (.call (.ref f) args) (CR CX outer P w H s Q E) s
section
variable {P : Program} {w : World} {K : PySem.W.Frag} {mg : Str → Option Value} {base : Heap} {CX : CXT}
theorem FnG.of {k : Nat} {f : Addr} {fd : FuncData} {ps : List Str} {sp : Sp} (F : FnOk P w K mg base CX k f fd ps sp) : FnG P w K mg base CX k f fd ps sp := ⟨F.len, fun A outer s H args us vs Q E hr _ => F.run A outer s H args us vs Q E hr⟩
theorem fnG_of {x qual : Str} {st : Stmt} {f : Addr} {fd : FuncData} {N ps : List Str} {k : Nat} {sp : Sp} (F : Fun K x qual st f fd) (S : FnScope N ps (defScope st)) (len : ∀ vs H Q E, sp vs H Q E → vs.length = ps.length)
    (hbody : ∀ (cdv : Value) (A : Around) (outer : List Env) (s : Shared) (H : Hp) (vs : List V) (Q : VK) (E : XK), Room k (A.deeper (envOfC qual (defScope st) s.heap.objs.size f cdv)) → A.guards = some [] → sp vs H Q E →
      ∃ t, PSs (cxOf CX P w K mg base N qual (defScope st) f cdv A outer s H E) (defBody st) t ∧ t { nx := fun _ H' => Q .non H', rt := Q } (L2.start N vs) H) : FnG P w K mg base CX (k + 1) f fd ps sp := by
  obtain ⟨oc, od, kV, doc, pm, an, cdv, ct, osl, rfl, lk, hcd⟩ := F.ex
  refine ⟨len, fun A outer s H args us vs Q E hr hg e0 hb r hsp => ?_⟩
  have hl := len _ _ _ _ hsp
  have KX : K.In s.heap := e0.mod.kin.keeps fun b o e => (e0.bs b o e).1
  have lim : s.heap.NoLimit := e0.mod.nolimit.keeps fun b o e => (e0.bs b o e).1
  have hkind : ∀ y ∈ ps.zip us, (defScope st).names.lookup y.1 = some .local ∨ ((defScope st).names.lookup y.1 = some .cell ∧ ((cellsFrom (s.heap.objs.size + 1) (defScope st).names []).lookup y.1).isSome = true) := fun ⟨n, v⟩ hy => by
    rcases S.par n (List.of_mem_zip hy).1 with q | q
    · exact .inl q
    · exact .inr ⟨q, PySem.W.cellsFrom_some _ _ _ (.inl q)⟩
  refine codeAny_call_function hr.depth (KX _ _ lk) rfl S.co S.gen rfl (PySem.W.codeRec_of KX hcd) (hb _ _ _ _ ?_)
  refine wpAny_newFunctionEnv_cells S.kind hkind fun env he s1 x => ?_
  subst he
  refine ⟨lim.keeps x.toInCall.keep, codeAny_func ?_⟩
  obtain ⟨t, ht, hq⟩ := hbody cdv A outer s H vs Q E (hr.deeper _) hg hsp
  have I : Inv (cxOf CX P w K mg base N qual (defScope st) f cdv A outer s H E) [] (L2.start N vs) H s1 := inv_start S hr.hd e0 hl r x
  refine wpAny_mono (ht.run [] s1 (L2.start N vs) H _ I hq) (fun fl s' hs => ?_) fun e s' hs => hs
  cases fl with
  | ret u =>
    obtain ⟨v, σ', H', J, rv, q⟩ := hs
    exact ⟨v, H', J.os, J.bare, J.base, J.hok, rv, q⟩
  | next =>
    obtain ⟨σ', H', J, q⟩ := hs
    exact ⟨V.non, H', J.os, J.bare, J.base, J.hok, rfl, q⟩
  | brk =>
    obtain ⟨_, _, _, q⟩ := hs
    exact False.elim q
  | cont =>
    obtain ⟨_, _, _, q⟩ := hs
    exact False.elim q
/-- a def that raises nothing -/
theorem okG {x qual : Str} {st : Stmt} {f : Addr} {fd : FuncData} {N ps : List Str} {k : Nat} {sp : Sp} (F : Fun K x qual st f fd) (S : FnScope N ps (defScope st)) (len : ∀ vs H Q E, sp vs H Q E → vs.length = ps.length)
    (hbody : ∀ (cdv : Value) (A : Around) (outer : List Env) (s : Shared) (H : Hp) (vs : List V) (Q : VK) (E : XK), Room k (A.deeper (envOfC qual (defScope st) s.heap.objs.size f cdv)) → A.guards = some [] → sp vs H Q E →
      ∃ t, PSs (cxOf CX0 P w K mg base N qual (defScope st) f cdv A outer s H E).nox (defBody st) t ∧ t { nx := fun _ H' => Q .non H', rt := Q } (L2.start N vs) H) : FnG P w K mg base CX0 (k + 1) f fd ps sp :=
  fnG_of F S len fun cdv A outer s H vs Q E hr hg hsp => let ⟨t, h, q⟩ := hbody cdv A outer s H vs Q E hr hg hsp; ⟨t, h.nox, q⟩
end
section
variable {X : Cx} {CX : CXT} {k : Nat} {f : Addr} {fd : FuncData} {ps : List Str} {sp : Sp} {E : XK} {x : Str} {p pos : Pos} {e : Expr} {es : List Expr} {t : TA}
theorem run_fnG {pins : List (Addr × Obj)} {σ : L2.St} {H : Hp} {s : Shared} {Q : VK} {us : List Value} {vs : List V} (F : FnG X.prog X.w X.K X.mg X.base CX k f fd ps sp) (hr : Room k X.A) (hg : X.A.guards = some []) (hb : Binds X.K fd ps []) (hx : Passes CX X E)
    (I : Inv X pins σ H s) (r : Vals vs us) (h : sp vs H Q E) : wpAny (model X.prog X.w) X.A (call (.ref f) us) (EP X pins σ Q) X.xe s := by
  have hl : us.length = ps.length := by rw [← r.length]; exact F.len _ _ _ _ h
  have b := hb s us I.kIn (by rw [List.append_nil]; exact hl)
  rw [List.append_nil] at b
  refine wpAny_call (codeAny_mono (F.run X.A X.stack s H ⟨us, []⟩ us vs Q E hr hg I.env0 b r h) fun r s' hq => ?_)
  cases r with
  | error e => exact hx pins σ _ _ e s' I hq
  | ok fl =>
    cases fl with
    | ret u => exact I.after hq
    | next => exact False.elim hq
    | brk => exact False.elim hq
    | cont => exact False.elim hq
theorem pe_callG (F : FnG X.prog X.w X.K X.mg X.base CX k f fd ps sp) (hr : Room k X.A) (hg : X.A.guards = some []) (hgl : Gl X x) (hm : X.mg x = some (.ref f)) (hk : PySem.W.keepIn X.K (.ref f) = true) (hb : Binds X.K fd ps []) (hx : Passes CX X E)
    (ha : PA X (e :: es) t) (hdb : (x == ("__debug__" : Str)) = false := by decide) (he : starEach (e :: es) X.env = (false, eval e X.env) :: starEach es X.env := by rfl) (hpl : (backTo pos (starEach es X.env)).any (·.1) = false := by rfl) :
    PE X (.Call (.Name x p) (e :: es) [] pos) (fun σ H Q => t σ H fun vs H1 => sp vs H1 Q E) := by
  refine ⟨fun pins s σ H Q I h => ?_⟩
  refine wpAny_Call_Name_kw (ld_glob I hgl hm ?_ hdb)
  refine PySem.W.callWith_K (h₀ := X.base) I.ok.mod.kin hk (thn (ha.run pos pins s σ H _ I h) fun us s1 ⟨vs, H1, I1, r, q⟩ => ⟨I1.kIn, ?_⟩) he hpl
  exact run_fnG F hr hg hb hx I1 r q
theorem u70 {k : Nat} {A : Around} (r : Room k A) : A.units + 70 < cLine := by have := r.un; omega
/-- repr of data -/
def rRepr (K : PySem.W.Frag) : List V → Hp → VK → Prop := fun xs H Q => ∃ v d, xs = [v] ∧ Dp K H v d ∧ d.showable = true ∧ d.hasDict = false ∧ d.depth ≤ 64 ∧ d.shown.length ≤ sizeLine ∧ Q (.str d.shown) H
theorem call_reprG (K : PySem.W.Frag) (hg : X.A.guards = some []) (hu : X.A.units + 70 < cLine) (hK : X.K = K := by rfl) : CallR X (.builtin "repr") (rRepr K) := by
  subst hK
  intro pins s σ H xs us Q I r h
  obtain ⟨v, d, rfl, hd, h1, h2, h3, h4, q⟩ := h
  obtain ⟨u, rfl, ru⟩ : ∃ u, us = [u] ∧ RelV v u := by
    cases r with
    | cons a b =>
      cases b
      exact ⟨_, rfl, a⟩
  obtain ⟨as, rd⟩ := Dp.reads I d v u hd ru
  have big : ∀ a : Addr, u = .ref a → wpAny (model X.prog X.w) X.A (call (.builtin "repr") [u]) (EP X pins σ Q) X.xe s := by
    rintro a rfl
    exact repr_of_reads' rd h1 (PyData.noDict_hsm h2) hg (by omega) (fun _ _ e => e) (fun h' t tk hk => ⟨.str d.shown, H, I.kept hk, ⟨_, rfl⟩, q⟩) h4
  cases hd with
  | non =>
    cases ru
    exact PySem.P.repr_of_none ⟨.str _, H, I.tok _, ⟨_, rfl⟩, by simpa only [PyData.shown] using q⟩
  | bl b =>
    cases ru
    exact PySem.P.repr_of_bool ⟨.str _, H, I.tok _, ⟨_, rfl⟩, by simpa only [PyData.shown] using q⟩
  | int i =>
    obtain ⟨t, rfl⟩ := ru
    exact PySem.P.repr_of_int (by simpa [PyData.showable] using h1) ⟨.str _, H, I.tok _, ⟨_, rfl⟩, by simpa only [PyData.shown] using q⟩
  | str x =>
    obtain ⟨t, rfl⟩ := ru
    exact PySem.P.repr_of_str ⟨.str _, H, I.tok _, ⟨_, rfl⟩, by simpa only [PyData.shown] using q⟩ (by simpa only [PyData.shown] using h4)
  | lst _ _ => exact big _ ru
  | tup _ _ => exact big _ ru
end
/-! ### the law's own call -/
theorem law_callG {P : Program} {w : World} {K : PySem.W.Frag} {mg mb : Str → Option Value} {CX : CXT} {k : Nat} {fa a : Addr} {fd : FuncData} {x : Str} {sp : Sp} {s₁ : Shared} {vs : List Value} {ns : List Int}
    (KX : K.In s₁.heap) (hns : s₁.heap.Ns mainGlobals mg) (hb : s₁.heap.Ns builtinsNs mb) (hbb : ∀ x : Str, x ≠ "__name__" → mb x = bootBuiltins x) (hlim : s₁.heap.NoLimit) (hg : s₁.gens = #[])
    (ha : s₁.heap.get? a = some { cls := .type "list", data := .seq vs.toArray }) (hi : IntsAre vs ns) (hl : ns.length ≤ sizeLine) (hr : Room k callerA)
    (F : ∀ base : Heap, K.In base → base.Ns mainGlobals mg → FnG P w K mg base CX k fa fd [x] sp) (hbind : ∀ (s : Shared) (u : Value), BindsTo s fd ⟨[u], []⟩ [(x, u)])
    (hsp : ∀ H : Hp, Only H → SqL K H a (ns.map V.int) → sp [.ref a] H (fun v _ => v = .bl true) fun _ _ _ => False)
    (hCX : ∀ H e s', CX [] H s₁ (fun _ _ _ => False) e s' → False) :
    codeAny (model P w) callerA (.call (.ref fa) ⟨[.ref a], []⟩) (fun r s' => r = .ok (.ret (.bool true)) ∧ OldK s₁.heap s'.heap ∧ s'.os = s₁.os ∧ AllBare s'.gens) s₁ := by
  have rv := vals_ints hi
  have lenV := hi.length
  -- nothing is tracked but the script
  have main : ∀ H : Hp, (∀ b, H b = none ∨ (b = a ∧ K.lookup a = none ∧ H b = some (.frz { cls := .type "list", data := .seq vs.toArray } (.lst (ns.map V.int))))) → SqL K H a (ns.map V.int) → HOk P w H s₁.heap →
      codeAny (model P w) callerA (.call (.ref fa) ⟨[.ref a], []⟩) (fun r s' => r = .ok (.ret (.bool true)) ∧ OldK s₁.heap s'.heap ∧ s'.os = s₁.os ∧ AllBare s'.gens) s₁ := by
    intro H hH hS hok
    have nsK : ∀ {b : Addr} {m : Str → Option Value}, s₁.heap.Ns b m → (hidT s₁.heap H).Ns b m := fun {b m} ⟨o, es, ep, e, d, r⟩ => by
      refine ⟨o, es, ep, hidT_get e ?_, d, r⟩
      rcases hH b with z | ⟨z, _⟩
      · exact z
      · rw [z, ha] at e
        cases e
        cases d
    have hKb : K.In (hidT s₁.heap H) := fun b o e => hidT_get (KX b o e) (by
      rcases hH b with z | ⟨z, z2, _⟩
      · exact z
      · rw [z, z2] at e
        cases e)
    have hM : Mod K mg (hidT s₁.heap H) := ⟨hKb, nsK hns, ⟨mb, nsK hb, hbb⟩, let ⟨mc, h1, h2⟩ := hlim; ⟨mc, nsK h1, h2⟩⟩
    have e0 : Env0 P w K mg (hidT s₁.heap H) callerA [] s₁ H := ⟨rfl, hM, fun b o e => of_hidT e, Nat.le_of_eq (hidT_size _ _), trivial, fun b hb => (nomatch hb), hok, .of_eq hg⟩
    have hO : Only H := fun b => (hH b).imp id fun z => ⟨_, _, z.2.2⟩
    refine codeAny_mono ((F _ hKb (nsK hns)).run callerA [] s₁ H ⟨[.ref a], []⟩ [.ref a] [.ref a] _ _ hr rfl e0 (hbind s₁ (.ref a)) (.cons rfl .nil) (hsp H hO hS)) fun r s' h => ?_
    cases r with
    | error e => exact (hCX H e s' h).elim
    | ok fl =>
      cases fl with
      | next => exact False.elim h
      | brk => exact False.elim h
      | cont => exact False.elim h
      | ret u =>
        obtain ⟨v, H', os, bare, un, hok', r', q⟩ := h
        have q' : v = .bl true := q
        subst q'
        obtain rfl : u = Value.bool true := r'
        refine ⟨rfl, OldK.of_keep fun b o e => ?_, os, bare⟩
        rcases hH b with z | ⟨_, _, z⟩
        · exact un.keep b o e z (fun y => nomatch y) (by simp)
        · obtain ⟨e1, _⟩ := hok b _ z
          obtain ⟨e2, _⟩ := hok' b _ (un.frzs b _ _ z)
          rw [e] at e1
          cases e1
          exact e2
  cases hk : K.lookup a with
  | some o =>
    have e := KX a o hk
    rw [ha] at e
    cases e
    exact main (fun _ => none) (fun _ => .inl rfl) (.inr ⟨_, vs.toArray, _, hk, rfl, rfl, rfl, by rw [List.size_toArray, lenV]; exact hl, by simpa using rv⟩) (fun b u z => nomatch z)
  | none =>
    refine main (fun b => if b = a then some (.frz { cls := .type "list", data := .seq vs.toArray } (.lst (ns.map V.int))) else none) (fun b => ?_) (.inl (.inr ⟨{ cls := .type "list", data := .seq vs.toArray }, if_pos rfl⟩)) (fun b u z => ?_)
    · by_cases hb : b = a
      · exact .inr ⟨hb, hk, if_pos hb⟩
      · exact .inl (if_neg hb)
    · by_cases hb : b = a
      · have z' := (if_pos hb).symm.trans z
        cases z'
        subst hb
        exact ⟨ha, by rw [List.length_map]; exact hl, vs, _, rv, ha⟩
      · have z' := (if_neg hb).symm.trans z
        cases z'
theorem walk_ofG {l : PySem.W.OpenLaw} {n k : Nat} {q : Program} {loose : List Str} {XP : (Str → Option Value) → Heap → Prop} {YP : World → Heap → Prop} {d : DefRec} {K : Params → PySem.W.Frag} {CX : World → CXT} {sp : World → Sp} {x : Str}
    (hn : l.most = some n) (hn2 : n ≤ sizeLine) (hdf : d.params.defaults = []) (hr : Room k callerA)
    (hY : ∀ (w : World) (h : Heap), YP w h → (K w.params).In h)
    (F : ∀ (w : World) (mg : Str → Option Value) (fa : Addr) (h : Heap), (K w.params).In h → h.Ns mainGlobals mg → mg d.name = some (.ref fa) →
      ∃ fd : FuncData, (∀ (s : Shared) (u : Value), BindsTo s fd ⟨[u], []⟩ [(x, u)]) ∧
        ∀ base : Heap, (K w.params).In base → base.Ns mainGlobals mg → FnG l.prog w (K w.params) mg base (CX w) k fa fd [x] (sp w))
    (hsp : ∀ (w : World) (H : Hp) (a : Addr) (ns : List Int), ns.length ≤ n → Only H → SqL (K w.params) H a (ns.map V.int) → sp w [.ref a] H (fun v _ => v = .bl true) fun _ _ _ => False)
    (hCX : ∀ (w : World) (H : Hp) (s : Shared) (e : Value) (s' : Shared), CX w [] H s (fun _ _ _ => False) e s' → False) :
    PySem.W.WalkO q loose XP YP l.row.toRowW d [] (fun f vs => PySem.call f vs) := by
  refine Att.attach_call hn hdf fun w s₀ s₁ mg mb fa o pm cd doc a vs ns G Y ho hd hcd hmg hobj hints hlen hg => ?_
  have KX := hY w _ Y
  obtain ⟨fd, hb, hF⟩ := F w mg fa _ KX G.T.g hmg
  exact law_callG KX G.T.g G.T.b G.T.builtins G.T.nolimit hg hobj hints (Nat.le_trans hlen hn2) hr hF hb (fun H hO hS => hsp w H a ns hlen hO hS) fun H e s' => hCX w H s₁ e s'
end XL
set_option Elab.async false
set_option linter.all false
set_option maxRecDepth 100000
set_option maxHeartbeats 4000000
/-! XStar: defs with a star parameter, called with plain arguments. -/
namespace XL
open PySem PySem.Spec PyProof.Rows L2
/-! ### list.extend of a tuple -/
theorem ext_tup (l : Addr) (items : Array Value) (n : Nat) (b : Addr) (items2 : Array Value) (n2 : Nat) (dc : Option Addr) (sl : Array (Option Value)) (hs0 : ¬(!items.isEmpty && Builtin.List.listTooLong (items.size + items2.size)) = true) (hs1 : items.size ≤ sizeLine) (hs2 : items.size + items2.size ≤ sizeLine + 1) :
    Meets (Builtin.«list.extend» ⟨[.ref l, .ref b], []⟩) (fun _ R s => s.heap.get? l = some { cls := .type "list", dict := none, data := .seq items n, slots := #[] } ∧ s.heap.get? b = some { cls := .type "tuple", dict := dc, data := .seq items2 n2, slots := sl } ∧ R (.ok (.ret Value.none)) { s with heap := s.heap.update l (Obj.mapSeq fun x => x ++ items2), toks := s.toks }) :=
  .of_wp fun prog w A R s h => by
    obtain ⟨hp, g, d, tk, os⟩ := s
    obtain ⟨hl, hb, h⟩ := h
    have f1 := AutoSeq1.idx_int; have f2 := AutoSeq1.sub_tuple_tuple; have f3 := AutoSeq1.sub_list_list; have f4 := AutoSeq1.sub_tuple_list; have f5 := AutoSeq1.sub_list_tuple
    have hz' : (items ++ items2).size ≤ sizeLine + 1 := by rw [Array.size_append]; exact hs2
    wp_walk using (wpAny_updateSeq hl rfl (hz := hs1) (_hz' := hz')), wpAny_loadPart' hl, wpAny_loadPart' hb
    exact ⟨_, rfl, h⟩
def rExtT (K : PySem.W.Frag) : V → List V → Hp → VK → Prop := fun x vs H Q => ∃ l b xs zs, x = .ref l ∧ vs = [.ref b] ∧ H l = some (.lst xs) ∧ SqT K H b zs ∧ xs.length + zs.length ≤ sizeLine ∧ Q .non (upd H l (.lst (xs ++ zs)))
theorem mt_extT {X : Cx} (K : PySem.W.Frag) (hK : X.K = K := by rfl) : MtM X "list.extend" (rExtT K) := by
  subst hK
  intro pins s σ H x vs v us Q I rx rv h
  obtain ⟨l, b, xs, zs, rfl, rfl, hH, hB, hz, q⟩ := h
  cases rx
  obtain ⟨u, rfl, ru⟩ := rv.one
  cases ru
  obtain ⟨z, its, n, r, hl, e⟩ := I.lstM hH
  obtain ⟨its2, r2, ⟨o2, e2, c2, n2, d2⟩, z2⟩ := I.tuple hB
  have hl2 := r2.length
  obtain ⟨oc, od, odt, osl⟩ := o2
  simp only at c2 d2
  subst c2 d2
  have hsz : its.toArray.size + its2.toArray.size ≤ sizeLine := by rw [List.size_toArray, List.size_toArray]; omega
  have hlong : ¬ (!its.toArray.isEmpty && Builtin.List.listTooLong (its.toArray.size + its2.toArray.size)) = true := by
    rw [notLongL hsz, Bool.and_false]
    exact Bool.false_ne_true
  refine call_meets F.slot_list_extend ⟨_, e, rfl⟩ F.entry_list_extend (F.args_list_extend_2 _ _)
    (ext_tup l its.toArray n b its2.toArray n2 od osl hlong (by rw [List.size_toArray]; omega) (by omega)) ⟨e, e2, ?_⟩
  refine ⟨.non, _, I.lset (its' := its ++ its2) hH e (by simp) (r.append r2) ?_, rfl, q⟩
  rw [List.length_append]
  omega
/-- what a def with a star parameter binds -/
def BindsS (fd : FuncData) (ps : List Str) (pv : Str) : Prop := ∀ us rest : List Value, us.length = ps.length → bindArgs fd ⟨us ++ rest, []⟩ = (newTuple rest >>= fun t => pure (ps.zip us ++ [(pv, t)]))
/-- the promise of a def with a star parameter, from that of its body -/
def spS (n : Nat) (sp : Sp) : Sp := fun vs H Q E => ∃ ws rest, vs = ws ++ rest ∧ ws.length = n ∧ rest.length ≤ sizeLine ∧ ∀ p, H p = Option.none → sp (ws ++ [V.ref p]) (upd H p (.tup rest)) Q E
section
variable {P : Program} {w : World} {K : PySem.W.Frag} {mg : Str → Option Value} {base : Heap}
theorem okS {x qual : Str} {st : Stmt} {f : Addr} {fd : FuncData} {N ps : List Str} {pv : Str} {k : Nat} {sp : Sp} (F : Fun K x qual st f fd) (S : FnScope N (ps ++ [pv]) (defScope st)) (hb : BindsS fd ps pv)
    (hbody : ∀ (cdv : Value) (A : Around) (outer : List Env) (s : Shared) (H : Hp) (vs : List V) (Q : VK) (E : XK), Room k (A.deeper (envOfC qual (defScope st) s.heap.objs.size f cdv)) → sp vs H Q E →
      ∃ t, PSs (cxOf CX0 P w K mg base N qual (defScope st) f cdv A outer s H E).nox (defBody st) t ∧ t { nx := fun _ H' => Q .non H', rt := Q } (L2.start N vs) H) : FnR P w K mg base CX0 (k + 1) f (spS ps.length sp) := by
  obtain ⟨oc, od, kV, doc, pm, an, cdv, ct, osl, rfl, lk, hcd⟩ := F.ex
  refine StX.fn_star (pv := pv) (ps := ps) lk hcd S StX.cxUp_none hb fun A outer s H vs Q E hr hsp => ?_
  obtain ⟨t, h, q⟩ := hbody cdv A outer s H vs Q E hr hsp
  exact ⟨t, h.nox, q⟩
end
section
variable {X : Cx} {CX : CXT} {k : Nat} {f : Addr} {sp : Sp} {E : XK} {x : Str} {p pos : Pos} {e : Expr} {es : List Expr} {t : TA}
/-- x(e, ..) by a positional promise -/
theorem pe_callP (F : FnR X.prog X.w X.K X.mg X.base CX k f sp) (hr : Room k X.A) (hgl : Gl X x) (hm : X.mg x = some (.ref f)) (hk : PySem.W.keepIn X.K (.ref f) = true) (hx : Passes CX X E)
    (ha : PA X (e :: es) t) (hdb : (x == ("__debug__" : Str)) = false := by decide) (he : starEach (e :: es) X.env = (false, eval e X.env) :: starEach es X.env := by rfl) (hpl : (backTo pos (starEach es X.env)).any (·.1) = false := by rfl) :
    PE X (.Call (.Name x p) (e :: es) [] pos) (fun σ H Q => t σ H fun vs H1 => sp vs H1 Q E) := by
  refine ⟨fun pins s σ H Q I h => ?_⟩
  refine wpAny_Call_Name_kw (ld_glob I hgl hm ?_ hdb)
  refine PySem.W.callWith_K (h₀ := X.base) I.ok.mod.kin hk (thn (ha.run pos pins s σ H _ I h) fun us s1 ⟨vs, H1, I1, r, q⟩ => ⟨I1.kIn, ?_⟩) he hpl
  exact wpAny_call (run_fnR F hr hx I1 r q)
/-- x() -/
theorem pe_callP0 (F : FnR X.prog X.w X.K X.mg X.base CX k f sp) (hr : Room k X.A) (hgl : Gl X x) (hm : X.mg x = some (.ref f)) (hk : PySem.W.keepIn X.K (.ref f) = true) (hx : Passes CX X E) (hdb : (x == ("__debug__" : Str)) = false := by decide) :
    PE X (.Call (.Name x p) [] [] pos) (fun _ H Q => sp [] H Q E) := by
  refine ⟨fun pins s σ H Q I h => ?_⟩
  refine wpAny_Call_Name_kw (ld_glob I hgl hm ?_ hdb)
  exact PySem.W.callWith_K0 I.kIn hk (wpAny_call (run_fnR (us := []) F hr hx I .nil h))
end
section
variable {B : List Value → Sem (List (Str × Value))} {p1 p2 p3 p4 pv : Str}
theorem bindS0 (h0 : B [] = (newTuple [] >>= fun t => pure [(pv, t)])) (h1 : ∀ r rs, B (r :: rs) = (newTuple (r :: rs) >>= fun t => pure [(pv, t)])) :
    ∀ us rest : List Value, us.length = ([] : List Str).length → B (us ++ rest) = (newTuple rest >>= fun t => pure (([] : List Str).zip us ++ [(pv, t)]))
  | [], [], _ => h0
  | [], r :: rs, _ => h1 r rs
theorem bindS1 (h0 : ∀ a, B [a] = (newTuple [] >>= fun t => pure [(p1, a), (pv, t)])) (h1 : ∀ a r rs, B (a :: r :: rs) = (newTuple (r :: rs) >>= fun t => pure [(p1, a), (pv, t)])) :
    ∀ us rest : List Value, us.length = [p1].length → B (us ++ rest) = (newTuple rest >>= fun t => pure ([p1].zip us ++ [(pv, t)]))
  | [a], [], _ => h0 a
  | [a], r :: rs, _ => h1 a r rs
theorem bindS4 (h0 : ∀ a b c d, B [a, b, c, d] = (newTuple [] >>= fun t => pure [(p1, a), (p2, b), (p3, c), (p4, d), (pv, t)])) (h1 : ∀ a b c d r rs, B (a :: b :: c :: d :: r :: rs) = (newTuple (r :: rs) >>= fun t => pure [(p1, a), (p2, b), (p3, c), (p4, d), (pv, t)])) :
    ∀ us rest : List Value, us.length = [p1, p2, p3, p4].length → B (us ++ rest) = (newTuple rest >>= fun t => pure ([p1, p2, p3, p4].zip us ++ [(pv, t)]))
  | [a, b, c, d], [], _ => h0 a b c d
  | [a, b, c, d], r :: rs, _ => h1 a b c d r rs
end
end XL
set_option Elab.async false
set_option linter.all false
set_option maxRecDepth 100000
set_option maxHeartbeats 4000000
/-! XTree: t[::-1] of a tuple; == of data of more levels; objects whose own __iter__ hands on iter(l), l a list. -/
namespace XL
open PySem PySem.Spec PyProof.Rows L2
section
variable {prog : Program} {w : World} {A : Around} {E : Value → Shared → Prop} {s : Shared}
theorem applied_rev {sl : Addr} {t : Tok} {n : Nat} {Q : Int × Int × Nat → Shared → Prop} (hs : s.heap.IsSliceOf sl .none .none (.int (-1) t)) (h : Q ((n : Int) - 1, -1, n) s) :
    wpAny (model prog w) A (Builtin.Slice.sliceApplied (.ref sl) (pure (n : Int))) Q E s := by
  obtain ⟨os, hos, hcs, hds⟩ := id hs
  unfold Builtin.Slice.sliceApplied Builtin.Slice.sliceFields
  refine wpAny_bind (wpAny_bind (wpAny_field hos hds (x := .none) rfl (wpAny_bind (wpAny_field hos hds (x := .none) rfl (wpAny_bind (wpAny_field hos hds (x := .int (-1) t) rfl (wpAny_pure ?_)))))))
  refine wpAny_bind (HT.slicePart_ (.int (-1) t) ?_)
  show wpAny _ _ (if ((-1 : Int) == 0) = true then _ else _) _ _ s
  rw [if_neg (by decide)]
  refine wpAny_bind (HT.slicePart_ .none (wpAny_bind (HT.slicePart_ .none (wpAny_bind (wpAny_pure ?_)))))
  show wpAny _ _ (pure ((n : Int) - 1, (-1 : Int), Builtin.Slice.slicePlaces ((n : Int) - 1) (-1) (-1))) _ _ s
  have e : Builtin.Slice.slicePlaces ((n : Int) - 1) (-1) (-1) = n := by
    unfold Builtin.Slice.slicePlaces
    have h1 : ¬ ((-1 : Int) > 0) := by decide
    simp only [h1, if_false]
    split
    · rw [show (- -1 : Int) = 1 by decide, Int.ediv_one]
      omega
    · omega
  rw [e]
  exact wpAny_pure h
theorem fm_congr {α β : Type} {f g : α → Option β} : ∀ {l : List α}, (∀ x ∈ l, f x = g x) → l.filterMap f = l.filterMap g
  | [], _ => rfl
  | x :: l, h => by
    rw [List.filterMap_cons, List.filterMap_cons, h x List.mem_cons_self, fm_congr (l := l) fun y hy => h y (List.mem_cons_of_mem _ hy)]
theorem pick_rev (xs : Array Value) : ((List.range xs.size).filterMap fun (k : Nat) => xs[(((xs.size : Int) - 1) + (k : Int) * (-1)).toNat]?).toArray = xs.toList.reverse.toArray := by
  have z := PySem.W.krv_pick xs
  rw [← z]
  unfold slicePick
  rw [PySem.W.krv_bounds]
  show _ = ((sliceRange ((xs.size : Int) - 1) (-1) (-1)).filterMap (xs[·]?)).toArray
  rw [PySem.W.krv_sliceRange, List.filterMap_map]
  congr 1
  refine fm_congr fun k hk => ?_
  have := List.mem_range.mp hk
  have e : (((xs.size : Int) - 1) + (k : Int) * (-1)).toNat = xs.size - 1 - k := by omega
  show xs[_]? = xs[xs.size - 1 - k]?
  rw [e]
theorem getItem_tuple_rev {t sl : Addr} {tk : Tok} {items : Array Value} {Q : Value → Shared → Prop} (ht : IsTup s.heap t items) (hs : s.heap.IsSliceOf sl .none .none (.int (-1) tk))
    (h : Q (.ref s.heap.objs.size) { s with heap := s.heap.push { cls := .type "tuple", data := .seq items.toList.reverse.toArray } }) (hsz : items.size ≤ sizeLine) : wpAny (model prog w) A (getItem (.ref t) (.ref sl)) Q E s := by
  have htake : sizeOk (.seq items.toList.reverse.toArray) := by
    show items.toList.reverse.toArray.size ≤ sizeLine
    rw [List.size_toArray, List.length_reverse, Array.length_toList]
    exact hsz
  obtain ⟨os, hos, hcs, hds⟩ := id hs
  have hTs : s.TypeIs (.ref sl) "slice" := ⟨os, hos, hcs⟩
  unfold getItem
  try with_reducible refine wpAny_holding ?_
  first | refine wpAny_bind (wpAny_pure ?_) | skip
  refine wpAny_bind (wpAny_sequenceKey ht.typeIs (by decide) ?_)
  refine wpAny_bind (wpAny_callSpecial?_slot (name := Str.ofString "__getitem__") ht.typeIs PyProof.Rows.slot_tuple_getitem
    (wpAny_call_entry PyProof.Rows.slot_tuple_getitem ht.typeIs entry_tuple_getitem ?_ (args_tuple_getitem _ _)))
  show wpAny _ _ (Builtin.Tuple.tupleItemsOf (.ref t) >>= _) _ _ s
  refine wpAny_bind (tupleItemsOf_ ht ?_)
  refine wpAny_bind (wpAny_typeOf hTs ?_)
  rw [if_pos (by decide)]
  refine wpAny_bind (applied_rev hs ?_)
  have hno : ¬ (((items.size : Int) - 1 == 0 && (-1 : Int) == 1 && items.size == items.size) = true) := by
    intro q
    rw [Bool.and_eq_true, Bool.and_eq_true] at q
    exact absurd q.1.2 (by decide)
  show wpAny _ _ (if ((items.size : Int) - 1 == 0 && (-1 : Int) == 1 && items.size == items.size) = true then _ else _) _ _ s
  rw [if_neg hno, pick_rev]
  first
    | exact wpAny_bind (m := Builtin.Tuple.tupleExact _) (wpAny_newObj_type (wpAny_pure ⟨_, rfl, wpAny_pure h⟩) htake)
    | exact wpAny_bind (m := Builtin.Tuple.tupleExact _) (wpAny_newObj_type (wpAny_bind (wpAny_pure (wpAny_pure ⟨_, rfl, wpAny_pure h⟩))) htake)
    | exact wpAny_bind (wpAny_bind (m := Builtin.Tuple.tupleExact _) (wpAny_newObj_type (wpAny_pure (wpAny_pure ⟨_, rfl, wpAny_pure h⟩)) htake))
    | exact wpAny_bind (wpAny_bind (m := Builtin.Tuple.tupleExact _) (wpAny_newObj_type (wpAny_pure ⟨_, rfl, wpAny_pure h⟩) htake))
end
def tRevT (K : PySem.W.Frag) (te : TE) : TE := fun σ H Q => te σ H fun x H1 => ∃ a xs, x = .ref a ∧ SqT K H1 a xs ∧ ∀ p, H1 p = none → Q (.ref p) (upd H1 p (.tup xs.reverse))
theorem pe_revT {X : Cx} {e m : Expr} {te : TE} {p2 pos : Pos} (he : PE X e te) (hm : PE X m (tC (.int (-1)))) : PE X (.Subscript e (.Slice none none (some m) p2) pos) (tRevT X.K te) := by
  refine ⟨fun pins s σ H Q I h => ?_⟩
  refine Subscript_ (thn (he.run pins s σ H _ I h) fun v s1 ⟨x, H1, I1, r1, q1⟩ => ?_)
  refine wpAny_Slice (wpAny_evalPart_none (wpAny_evalPart_none (wpAny_evalPart_some (thn (hm.run pins s1 σ H1 (fun y H2 => y = .int (-1) ∧ H2 = H1) I1 ⟨rfl, rfl⟩) fun vm s3 ⟨y, H3, I3, r3, ey, eH⟩ => ?_))))
  subst ey eH
  obtain ⟨t, rfl⟩ := r3
  obtain ⟨a, xs, rfl, hx, q⟩ := q1
  cases r1
  have I4 : L2.Inv X pins σ H3 { s3 with heap := s3.heap.push { cls := .type "slice", data := .fields #[.none, .none, .int (-1) t] } } := I3.kept (t' := s3.toks) fun b ob q => Heap.get?_push_of_some _ q
  obtain ⟨its, r, ht, hz⟩ := I4.tuple hx
  have hlen := r.length
  show wpAny (model X.prog X.w) X.A (subscriptTail e (.Slice none none (some m) p2) (.ref a) (.ref s3.heap.objs.size)) (EP X pins σ Q) X.xe { s3 with heap := s3.heap.push { cls := .type "slice", data := .fields #[.none, .none, .int (-1) t] } }
  refine tail_any (ops := [.ref a, .ref s3.heap.objs.size]) ht.typeIs PyProof.Rows.slot_tuple_getitem.lookup ?_ (by with_unfolding_all rfl)
  refine getItem_tuple_rev ht (Heap.IsSliceOf.new ..) ?_ (by rw [List.size_toArray] <;> omega)
  refine ⟨.ref _, _, I4.laid (t' := s3.toks) (o := .tup xs.reverse) (fun b ob q => Heap.get?_push_of_some _ q) (Nat.le_refl _) ?_, rfl, q _ (I4.hok.fresh (Nat.le_refl _))⟩
  exact ⟨by rw [List.length_reverse]; exact hz, its.reverse, r.reverse, ⟨_, Heap.get?_push_size _ rfl, rfl, _, rfl⟩⟩
theorem pe_revTK {X : Cx} {e m : Expr} {te : TE} {p2 pos : Pos} (K : PySem.W.Frag) (he : PE X e te) (hm : PE X m (tC (.int (-1)))) (h : X.K = K := by rfl) : PE X (.Subscript e (.Slice none none (some m) p2) pos) (tRevT K te) := h ▸ pe_revT he hm
/-! ### == of data of up to 190 levels -/
def rEqL (K : PySem.W.Frag) : R2 := fun x y H Q => ∃ d e, Dp K H x d ∧ Dp K H y e ∧ d.canLay0 = true ∧ e.canLay0 = true ∧ d.depth ≤ 190 ∧ Q (.bl (PyData.eqv d e)) H
theorem op_eqL {X : Cx} (K : PySem.W.Frag) (hu : X.A.units + 190 < cLine) (hK : X.K = K := by rfl) : OpR X (compareOp .Eq) (rEqL K) := by
  subst hK
  intro pins s σ H x y v u Q I rx ry h
  obtain ⟨d, e, hd, he, sd, se, dp, q⟩ := h
  obtain ⟨as, r1⟩ := Dp.reads I d x v hd rx
  obtain ⟨bs, r2⟩ := Dp.reads I e y u he ry
  exact SeqAt.compareEq_reads r1 r2 sd se (by have := Nat.min_le_left d.depth e.depth; omega) ⟨.bl _, H, I, rfl, q⟩
/-! ### a promise that knows how large the heap was -/
structure FnY (P : Program) (w : World) (K : PySem.W.Frag) (mg : Str → Option Value) (base : Heap) (CX : CXT) (k : Nat) (f : Addr) (fd : FuncData) (ps : List Str) (sp : Nat → Sp) : Prop where
  len : ∀ n vs H Q E, sp n vs H Q E → vs.length = ps.length
  run : ∀ (A : Around) (outer : List Env) (s : Shared) (H : Hp) (args : Args) (us : List Value) (vs : List V) (Q : VK) (E : XK), Room k A → Env0 P w K mg base A outer s H → BindsTo s fd args (ps.zip us) → Vals vs us → sp s.heap.objs.size vs H Q E →
    codeAny (model P w) A (.call (.ref f) args) (CR CX outer P w H s Q E) s
section
variable {P : Program} {w : World} {K : PySem.W.Frag} {mg : Str → Option Value} {base : Heap} {CX : CXT}
theorem fnY_of {x qual : Str} {st : Stmt} {f : Addr} {fd : FuncData} {N ps : List Str} {k : Nat} {sp : Nat → Sp} (F : Fun K x qual st f fd) (S : FnScope N ps (defScope st)) (len : ∀ n vs H Q E, sp n vs H Q E → vs.length = ps.length)
    (hbody : ∀ (cdv : Value) (A : Around) (outer : List Env) (s : Shared) (H : Hp) (vs : List V) (Q : VK) (E : XK), Room k (A.deeper (envOfC qual (defScope st) s.heap.objs.size f cdv)) → sp s.heap.objs.size vs H Q E →
      ∃ t, PSs (cxOf CX P w K mg base N qual (defScope st) f cdv A outer s H E) (defBody st) t ∧ t { nx := fun _ H' => Q .non H', rt := Q } (L2.start N vs) H) : FnY P w K mg base CX (k + 1) f fd ps sp := by
  obtain ⟨oc, od, kV, doc, pm, an, cdv, ct, osl, rfl, lk, hcd⟩ := F.ex
  refine ⟨len, fun A outer s H args us vs Q E hr e0 hb r hsp => ?_⟩
  have hl := len _ _ _ _ _ hsp
  have KX : K.In s.heap := e0.mod.kin.keeps fun b o e => (e0.bs b o e).1
  have lim : s.heap.NoLimit := e0.mod.nolimit.keeps fun b o e => (e0.bs b o e).1
  have hkind : ∀ y ∈ ps.zip us, (defScope st).names.lookup y.1 = some .local ∨ ((defScope st).names.lookup y.1 = some .cell ∧ ((cellsFrom (s.heap.objs.size + 1) (defScope st).names []).lookup y.1).isSome = true) := fun ⟨n, v⟩ hy => by
    rcases S.par n (List.of_mem_zip hy).1 with q | q
    · exact .inl q
    · exact .inr ⟨q, PySem.W.cellsFrom_some _ _ _ (.inl q)⟩
  refine codeAny_call_function hr.depth (KX _ _ lk) rfl S.co S.gen rfl (PySem.W.codeRec_of KX hcd) (hb _ _ _ _ ?_)
  refine wpAny_newFunctionEnv_cells S.kind hkind fun env he s1 x => ?_
  subst he
  refine ⟨lim.keeps x.toInCall.keep, codeAny_func ?_⟩
  obtain ⟨t, ht, hq⟩ := hbody cdv A outer s H vs Q E (hr.deeper _) hsp
  have I : Inv (cxOf CX P w K mg base N qual (defScope st) f cdv A outer s H E) [] (L2.start N vs) H s1 := inv_start S hr.hd e0 hl r x
  refine wpAny_mono (ht.run [] s1 (L2.start N vs) H _ I hq) (fun fl s' hs => ?_) fun e s' hs => hs
  cases fl with
  | ret u =>
    obtain ⟨v, σ', H', J, rv, q⟩ := hs
    exact ⟨v, H', J.os, J.bare, J.base, J.hok, rv, q⟩
  | next =>
    obtain ⟨σ', H', J, q⟩ := hs
    exact ⟨V.non, H', J.os, J.bare, J.base, J.hok, rfl, q⟩
  | brk =>
    obtain ⟨_, _, _, q⟩ := hs
    exact False.elim q
  | cont =>
    obtain ⟨_, _, _, q⟩ := hs
    exact False.elim q
theorem okY {x qual : Str} {st : Stmt} {f : Addr} {fd : FuncData} {N ps : List Str} {k : Nat} {sp : Nat → Sp} (F : Fun K x qual st f fd) (S : FnScope N ps (defScope st)) (len : ∀ n vs H Q E, sp n vs H Q E → vs.length = ps.length)
    (hbody : ∀ (cdv : Value) (A : Around) (outer : List Env) (s : Shared) (H : Hp) (vs : List V) (Q : VK) (E : XK), Room k (A.deeper (envOfC qual (defScope st) s.heap.objs.size f cdv)) → sp s.heap.objs.size vs H Q E →
      ∃ t, PSs (cxOf CX0 P w K mg base N qual (defScope st) f cdv A outer s H E).nox (defBody st) t ∧ t { nx := fun _ H' => Q .non H', rt := Q } (L2.start N vs) H) : FnY P w K mg base CX0 (k + 1) f fd ps sp :=
  fnY_of F S len fun cdv A outer s H vs Q E hr hsp => let ⟨t, h, q⟩ := hbody cdv A outer s H vs Q E hr hsp; ⟨t, h.nox, q⟩
end
/-! ### for x in o, o an object whose own __iter__ hands on iter(l) -/
theorem dropH_upd {H : Hp} {a : Addr} {o : HO} (h : H a = none) : ItX.dropH (upd H a o) a = H := by
  funext b
  by_cases e : b = a
  · rw [e, ItX.dropH_same, h]
  · rw [ItX.dropH_ne e, upd_ne e]
def iOwnL (K : PySem.W.Frag) (C : Addr) (sp : Nat → Sp) (E : XK) (te : TE) : TI := fun σ H R => te σ H fun x H1 => ∃ a dx fs, x = .ref a ∧ H1 a = some (.ins C dx fs) ∧
  ∀ n, sp n [.ref a] H1 (fun v H2 => ∃ (it l : Addr), v = .ref it ∧ n ≤ it ∧ H2 it = some (ItO l it 0) ∧ R (Itl K l) (ItX.dropH H2 it)) E
theorem pi_ownL {X : Cx} {CX : CXT} {C f : Addr} {fd : FuncData} {ps : List Str} {sp : Nat → Sp} {E : XK} {n : Nat} {tg e : Expr} {te : TE} (he : PE X e te) (F : FnY X.prog X.w X.K X.mg X.base CX n f fd ps sp)
    (hs : PySem.W.findIn X.K (.ref C) "__iter__" = some (some (.ref f))) (hfn : PySem.W.isFn X.K (.ref f) = true) (hb : Binds X.K fd ps []) (hx : Passes CX X E) (hr : Room n X.A) : PI X tg e (iOwnL X.K C sp E te) := by
  refine ⟨fun pins s σ H R I h => ?_⟩
  refine thn (he.run pins s σ H _ I h) fun u s1 ⟨x, H1, I1, r1, a, dx, fs, ex, ha, hsp0⟩ => ?_
  subst ex
  cases r1
  have hsp := hsp0 s1.heap.objs.size
  obtain ⟨mA, J, _⟩ := ins_get I1.hok ha
  obtain ⟨od, J, _⟩ := J.look
  obtain ⟨m0, hF⟩ := I1.fr
  refine PySem.W.owit_iter hF I1.ok.mod.kin J hs hfn ?_
  have hl := F.len _ _ _ _ _ hsp
  refine wpAny_call (codeAny_mono (F.run X.A X.stack s1 H1 ⟨[.ref a], []⟩ [.ref a] [.ref a] _ E hr I1.env0 (by
    have := hb s1 [.ref a] I1.kIn (by simpa using hl)
    simpa using this) (.cons rfl .nil) hsp) fun r s' hq => ?_)
  cases r with
  | error e => exact hx pins σ _ _ e s' I1 hq
  | ok fl =>
    cases fl with
    | next => exact False.elim hq
    | brk => exact False.elim hq
    | cont => exact False.elim hq
    | ret u =>
      obtain ⟨v, H', I', rv, it, l, ev, young, hit, hR⟩ := I1.after hq
      subst ev
      cases rv
      have eo := itO_get I' hit
      have st : s'.heap.IsListIter it l 0 := ⟨_, eo, rfl, rfl⟩
      show wpAny _ _ (specialOf (.ref it) "__next__") _ _ _
      refine wpAny_specialOf st.typeIs slot_listiter_next.lookup ?_
      have hi' := hit
      unfold ItO at hi'
      refine ⟨it, [it], _, _, ItX.dropH H' it, rfl, ItX.inv_drop I' hi', turn_list l it, st, fun b hb => ?_, hR⟩
      have e : b = it := by simpa using hb
      rw [e]
      exact ItX.inv_fp I' hit (Nat.le_trans I1.sz young)
theorem pi_ownLK {X : Cx} {CX : CXT} {C f : Addr} {fd : FuncData} {ps : List Str} {sp : Nat → Sp} {E : XK} {n : Nat} {tg e : Expr} {te : TE} (K : PySem.W.Frag) (he : PE X e te) (F : FnY X.prog X.w X.K X.mg X.base CX n f fd ps sp)
    (hs : PySem.W.findIn X.K (.ref C) "__iter__" = some (some (.ref f))) (hfn : PySem.W.isFn X.K (.ref f) = true) (hb : Binds X.K fd ps []) (hx : Passes CX X E) (hr : Room n X.A) (h : X.K = K := by rfl) : PI X tg e (iOwnL K C sp E te) := h ▸ pi_ownL he F hs hfn hb hx hr
/-! ### list(o) -/
theorem next_lst_end {P : Program} {w : World} {A : Around} {E : Value → Shared → Prop} {s : Shared} {it t : Addr} {i : Nat} {items : Array Value} {Q : Option Value → Shared → Prop} (hh : A.handled = none)
    (hit : s.heap.IsListIter it t i) (ht : s.heap.IsList t items) (hx : items[i]? = none)
    (hQ : ∀ h', Heap.ExtBut it s.heap h' → (∃ o, h'.get? it = some o) → Q none { s with heap := h' }) : wpAny (model P w) A (pyNext (.ref it)) Q E s := by
  obtain ⟨o, ho, hc, hd⟩ := id hit
  obtain ⟨ol, hol, _, nl, hdl⟩ := ht
  unfold pyNext
  refine wpAny_bind (wpAny_attempt (wpAny_callSpecial?_slot (name := Str.ofString "__next__") hit.typeIs slot_listiter_next (wpAny_call_entry slot_listiter_next hit.typeIs entry_listiter_next ?_ (args_listiter_next _))))
  show wpAny _ _ (field (.ref it) 0 >>= _) _ _ s
  refine wpAny_bind (wpAny_field ho hd (x := .ref t) rfl (PySem.W.KFB.if_not rfl ?_))
  show wpAny _ _ (field (.ref it) 1 >>= _) _ _ s
  refine wpAny_bind (wpAny_field ho hd (x := .int i 0) rfl ?_)
  show wpAny _ _ (seqItems? (.ref t) >>= _) _ _ s
  refine wpAny_bind (wpAny_seqItems hol hdl ?_)
  simp only [Int.toNat_natCast, hx]
  refine wpAny_bind (wpAny_rule (wpAny_bind (wpAny_setField ho hd (by simp) ?_)))
  show wpAny _ _ (newExc (.type "StopIteration") [] >>= _) _ _ _
  refine wpAny_bind ?_
  simp only [newExc, newTuple]
  refine wpAny_bind (wpAny_newObj_type ?_ (by size_fits))
  refine wpAny_bind (m := firstArgMember _ _) (wpAny_of_eq (a := Value.none) (by first | rfl | (simp only [firstArgMember]; rfl)) ?_)
  refine wpAny_newObj_type ?_ (by size_fits)
  simp only [raiseNew]
  refine wpAny_bind (wpAny_handled ?_)
  first | rw [show A.in1.handled = none from hh] | rw [hh]
  refine wpAny_bind (wpAny_pure (wpAny_throw ?_))
  refine wpAny_bind (wpAny_isInstance (T := "StopIteration") (b := true) ⟨_, Heap.get?_push_size _ rfl, rfl⟩ isSubtype_stop ?_)
  exact wpAny_pure (hQ _ (((Heap.SameBut.update ..).extBut.push _).push _) ⟨_, Heap.get?_push_of_some _ (Heap.get?_push_of_some _ (Heap.get?_update_self _ ho (Obj.isFreed_of_fields (Obj.data_mapFields hd _))))⟩)
def ItL (l it : Addr) (i : Nat) : HO := .ext fun h => h.IsListIter it l i
theorem itL_ok {P : Program} {w : World} {H : Hp} {h : Heap} {t it : Addr} {i : Nat} (e : h.IsListIter it t i) : ObjOk P w H h it (ItL t it i) := by
  obtain ⟨o, ho, r⟩ := id e
  exact ⟨e, ⟨_, ho⟩, fun g1 g2 q k => q.at fun o e => k o e⟩
section
variable {X : Cx} {pins : List (Addr × Obj)} {σ : L2.St} {H : Hp} {s : Shared}
theorem itL_get {t it : Addr} {i : Nat} (I : Inv X pins σ H s) (e : H it = some (ItL t it i)) : s.heap.IsListIter it t i := (I.hok it _ e).1
/-- the loop that fills the list at q -/
theorem loop_lst {A1 : Around} {Rs : Result → Shared → Prop} {q it t : Addr} {zs : List V} (hd : A1.in1.handled = none) (hne : q ≠ it) :
    ∀ (k i : Nat) (H : Hp) (s : Shared), zs.length - i = k → i ≤ zs.length → Inv X pins σ H s → H it = some (ItL t it i) → it ≠ t → q ≠ t → H t = some (.lst zs) → H q = some (.lst (zs.take i)) →
      (∀ s', Inv X pins σ (upd (upd H it (ItTE it)) q (.lst zs)) s' → Rs (.ok (.ret .none)) s') → codeAny (model X.prog X.w) A1 (.builtin "list.extend.loop" ⟨[.ref q, .ref it, .none], []⟩) Rs s := by
  intro k
  induction k with
  | zero =>
    intro i H s hk hi I hit nit nqt ht hq hR
    obtain ⟨its, rv, pl, hz⟩ := I.list (SqL.of ht)
    have hin : zs.length = its.length := rv.length
    have mu : Mut (H it) := by rw [hit]; exact True.intro
    refine codeAny_builtin PySem.F.entry_extend_loop ?_
    rw [Around.under_plainId PySem.F.plain_extend_loop _]
    show wpAny _ A1.in1 (pyNext (.ref it) >>= _) _ _ s
    have ei : i = zs.length := by omega
    refine wpAny_bind (next_lst_end hd (itL_get I hit) pl.isList (by rw [List.getElem?_toArray]; exact List.getElem?_eq_none (by omega)) fun h' eb ⟨o, ho⟩ => wpAny_pure ?_)
    have I2 : Inv X pins σ (upd H it (ItTE it)) { s with heap := h' } := I.write (x := it) (e := it) (t' := s.toks) mu (.inl rfl) (fun b o nb z => eb b o nb z) ⟨_, ho⟩ (itTE_ok ho)
    refine hR _ ?_
    have e : upd (upd H it (ItTE it)) q (.lst zs) = upd H it (ItTE it) := by
      funext b
      by_cases hb : b = q
      · rw [hb, upd_same, upd_ne hne, hq, ei, List.take_length]
      · rw [upd_ne hb]
    rw [e]
    exact I2
  | succ k ih =>
    intro i H s hk hi I hit nit nqt ht hq hR
    obtain ⟨its, rv, pl, hz⟩ := I.list (SqL.of ht)
    have hin : zs.length = its.length := rv.length
    have mu : Mut (H it) := by rw [hit]; exact True.intro
    have hlt : i < zs.length := by omega
    have hzi := List.getElem?_eq_getElem hlt
    obtain ⟨u, hu, ru⟩ := rv.get hzi
    refine codeAny_builtin PySem.F.entry_extend_loop ?_
    rw [Around.under_plainId PySem.F.plain_extend_loop _]
    show wpAny _ A1.in1 (pyNext (.ref it) >>= _) _ _ s
    refine wpAny_bind (wpAny_pyNext_list_item (itL_get I hit) pl.isList (by rw [List.getElem?_toArray]; exact hu) fun h' hit' sb => ?_)
    obtain ⟨o, ho, _⟩ := id hit'
    have I2 : Inv X pins σ (upd H it (ItL t it (i + 1))) { s with heap := h' } := I.write (x := it) (e := it) (t' := s.toks) mu (.inl rfl) (fun b o nb z => (sb.2 b nb).trans z) ⟨_, ho⟩ (itL_ok hit')
    have hq2 : upd H it (ItL t it (i + 1)) q = some (.lst (zs.take i)) := by rw [upd_ne hne]; exact hq
    show wpAny _ A1.in1 (updateSeq q (·.push u) >>= _) _ _ _
    obtain ⟨z, its2, c, r2, hl, e⟩ := I2.lstM hq2
    have l2 : its2.length ≤ 16777215 := by
      rw [← hl, List.length_take]
      have := hz
      rw [sizeLine_eq] at this
      omega
    refine wpAny_bind (wpAny_updateSeq e rfl (wpAny_pure ⟨plainId_quiet PySem.F.plain_extend_loop _, ?_⟩) (by rw [List.size_toArray, sizeLine_eq]; omega) (by show (its2.toArray.push u).size ≤ sizeLine + 1; rw [Array.size_push, List.size_toArray, sizeLine_eq]; omega))
    have I3 := I2.lset (f := (·.push u)) (its' := its2 ++ [u]) (ys := zs.take i ++ [zs[i]]) (t' := s.toks) hq2 e (by simp) (r2.append (.cons ru .nil)) (by rw [List.length_append, List.length_singleton, List.length_take, sizeLine_eq]; rw [sizeLine_eq] at hz; omega)
    refine ih (i + 1) _ _ (by omega) (by omega) I3 ?_ nit nqt ?_ ?_ fun s' I4 => hR s' ?_
    · rw [upd_ne (Ne.symm hne), upd_same]
    · rw [upd_ne (Ne.symm nqt), upd_ne (Ne.symm nit)]
      exact ht
    · rw [upd_same, take_snoc hzi]
    · have e4 : upd (upd (upd (upd H it (ItL t it (i + 1))) q (.lst (zs.take i ++ [zs[i]]))) it (ItTE it)) q (.lst zs) = upd (upd H it (ItTE it)) q (.lst zs) := by
        funext b
        by_cases hb : b = q
        · rw [hb, upd_same, upd_same]
        · rw [upd_ne hb, upd_ne hb]
          by_cases hb2 : b = it
          · rw [hb2, upd_same, upd_same]
          · rw [upd_ne hb2, upd_ne hb2, upd_ne hb, upd_ne hb2]
      rw [← e4]
      exact I4
def rListItL (C : Addr) (sp : Nat → Sp) (E : XK) : List V → Hp → VK → Prop := fun xs H Q => ∃ a dx fs, xs = [.ref a] ∧ H a = some (.ins C dx fs) ∧
  ∀ q n, H q = none → sp n [.ref a] (upd H q (.lst [])) (fun v H1 => ∃ (it t : Addr) (zs : List V), v = .ref it ∧ H1 it = some (ItO t it 0) ∧ it ≠ t ∧ q ≠ t ∧ H1 t = some (.lst zs) ∧ H1 q = some (.lst []) ∧ (∃ dx' fs', H1 a = some (.ins C dx' fs')) ∧ Q (.ref q) (upd (upd H1 it (ItTE it)) q (.lst zs))) E
theorem call_listItL {C f : Addr} {fd : FuncData} {ps : List Str} {sp : Nat → Sp} {E : XK} {n : Nat} {CX : CXT} (hs : PySem.W.findIn X.K (.ref C) "__iter__" = some (some (.ref f))) (hfn : PySem.W.isFn X.K (.ref f) = true) (n1 : PySem.W.findIn X.K (.ref C) "__len__" = some none) (n2 : PySem.W.findIn X.K (.ref C) "__length_hint__" = some none)
    (F : FnY X.prog X.w X.K X.mg X.base CX n f fd ps sp) (hb : Binds X.K fd ps []) (hx : Passes CX X E) (hr : Room (n + 2) X.A) : CallR X (.type "list") (rListItL C sp E) := by
  intro pins s σ H xs us Q I rv h
  obtain ⟨a, dx, fs, rfl, ha, hq⟩ := h
  obtain ⟨u, rfl, ru⟩ := rv.one
  cases ru
  have sb : Sub X n X.A.in1.in1 := (Sub.in1 (Sub.in1 (⟨hr, rfl⟩ : Sub X (n + 2) X.A)))
  refine callType_codes (Q₁ := fun obj s₁ => obj = .ref s.heap.objs.size ∧ s₁ = { s with heap := s.heap.push { cls := .type "list", data := .seq #[] } }) PySem.F.called_list (PySem.F.typeCall_list_1 _) PySem.F.entry_list_init
    (code_list_new _ ⟨rfl, rfl⟩) fun obj s₁ h₁ => ?_
  obtain ⟨rfl, rfl⟩ := h₁
  have hS : (s.heap.push { cls := .type "list", data := .seq #[] }).get? s.heap.objs.size = some { cls := .type "list", data := .seq #[] } := Heap.get?_push_size _ rfl
  refine ⟨⟨_, hS, rfl⟩, PySem.F.args_list_init_2 _ _, ?_⟩
  have fr : H s.heap.objs.size = none := I.hok.fresh (Nat.le_refl _)
  have hsp := fun n => hq _ n fr
  have I1 : Inv X pins σ (upd H s.heap.objs.size (.lst [])) { s with heap := s.heap.push { cls := .type "list", data := .seq #[] } } := I.lnew (its := []) (t' := s.toks) .nil (Nat.zero_le _)
  show wpAny _ _ (do let old ← Builtin.List.listItems (.ref s.heap.objs.size); Builtin.List.listUpdate (.ref s.heap.objs.size) (fun _ => #[]); letGo old.toList.reverse; Builtin.List.listExtendWith (.ref s.heap.objs.size) (.ref a) .none) _ _ _
  refine wpAny_bind ?_
  unfold Builtin.List.listItems
  refine wpAny_bind (wpAny_seqItems hS rfl (wpAny_pure ?_))
  show wpAny _ _ (updateSeq s.heap.objs.size (fun _ => #[]) >>= fun _ => letGo (#[] : Array Value).toList.reverse >>= fun _ => Builtin.List.listExtendWith (.ref s.heap.objs.size) (.ref a) .none) _ _ _
  refine wpAny_bind (wpAny_updateSeq hS rfl ?_)
  have I2 := I1.lset (f := fun _ => #[]) (its := []) (its' := []) (ys := []) (t' := s.toks) upd_same hS rfl .nil (Nat.zero_le _)
  rw [upd_upd] at I2
  refine wpAny_bind (wpAny_letGo ?_)
  have ha2 : upd H s.heap.objs.size (.lst []) a = some (.ins C dx fs) := by rw [upd_ne (ne_of_none ha fr)]; exact ha
  have hne : s.heap.objs.size ≠ a := Ne.symm (ne_of_none ha fr)
  generalize hH2 : upd H s.heap.objs.size (.lst []) = H2 at *
  generalize s.heap.objs.size = q at *
  obtain ⟨mA, J, _⟩ := ins_get I2.hok ha2
  obtain ⟨od, J, _⟩ := J.look
  obtain ⟨m0, hF⟩ := I2.fr
  unfold Builtin.List.listExtendWith
  refine wpAny_bind (J.type.here ?_)
  have h1 : Builtin.List.listSameRef (.ref q) (.ref a) = false := by simp [Builtin.List.listSameRef, hne]
  have h2 : (Value.ref C == Value.type "list") = false := rfl
  have h3 : (Value.ref C == Value.type "tuple") = false := rfl
  simp only [h1, h2, h3, Bool.or_false, Bool.false_eq_true, if_false]
  refine wpAny_bind (PySem.W.owit_iter hF I2.ok.mod.kin J hs hfn ?_)
  have e0 : ∀ {s : Shared} {H : Hp}, Inv X pins σ H s → Env0 X.prog X.w X.K X.mg X.base X.A.in1.in1 X.stack s H := fun {s H} I => by
    have e := I.env0
    exact ⟨by rw [sb.fr]; exact e.frames, e.mod, e.bs, e.bsz, e.funs, e.frf, e.hok, e.bare⟩
  have hl := F.len _ _ _ _ _ (hsp 0)
  have r2 : Vals [V.ref a] [Value.ref a] := .cons rfl .nil
  refine wpAny_call (codeAny_mono (F.run X.A.in1.in1 X.stack _ _ ⟨[.ref a], []⟩ [.ref a] [.ref a] _ E sb.room (e0 I2) (by
    have := hb _ [.ref a] I2.kIn (by simpa using hl)
    simpa using this) r2 (hsp _)) fun r s' hq' => ?_)
  cases r with
  | error e => exact hx pins σ _ _ e s' I2 hq'
  | ok fl =>
    cases fl with
    | next => exact False.elim hq'
    | brk => exact False.elim hq'
    | cont => exact False.elim hq'
    | ret u =>
      obtain ⟨v, H', I', rv, it, t, zs, ev, hit, nit, nqt, ht, hqq, ⟨dx', fs', ha'⟩, hQ⟩ := I2.after hq'
      subst ev
      cases rv
      have stt : ∀ s'', Inv X pins σ H' s'' → s''.heap.IsListIter it t 0 := fun s'' I'' => ⟨_, itO_get I'' hit, rfl, rfl⟩
      have hT : s'.TypeIs (.ref it) "list_iterator" := (stt s' I').typeIs
      have hqi : q ≠ it := fun z => by
        rw [z, hit] at hqq
        exact (nomatch hqq)
      show wpAny _ _ (specialOf (.ref it) "__next__") _ _ _
      refine wpAny_specialOf hT slot_listiter_next.lookup ?_
      obtain ⟨mA', J', _⟩ := ins_get I'.hok ha'
      obtain ⟨od', J', _⟩ := J'.look
      refine wpAny_bind (wpAny_holding (hint_own n1 n2 I'.kIn J' ?_))
      have go : ∀ s'', Inv X pins σ H' s'' → codeAny (model X.prog X.w) X.A.in1 (.builtin "list.extend.loop" ⟨[.ref q, .ref it, .none], []⟩) (wants (fun r s₂ => r = .none ∧ EP X pins σ Q (.ref q) s₂) X.xe) s'' := fun s'' I'' =>
by
        have mu : Mut (H' it) := by rw [hit]; exact True.intro
        obtain ⟨oi, ei, _⟩ := id (stt s'' I'')
        have I5 : Inv X pins σ (upd H' it (ItL t it 0)) s'' := I''.write (x := it) (e := it) (t' := s''.toks) mu (.inl rfl) (fun b o nb z => z) ⟨_, ei⟩ (itL_ok (stt s'' I''))
        refine loop_lst (t := t) (zs := zs) sb.room.hd hqi zs.length 0 _ s'' (by simp) (Nat.zero_le _) I5 upd_same nit nqt (by rw [upd_ne (Ne.symm nit)]; exact ht) (by rw [upd_ne hqi, hqq]; rfl) fun s3 I3 => ?_
        rw [upd_upd] at I3
        exact ⟨rfl, .ref q, _, I3, rfl, hQ⟩
      obtain ⟨z, its, k, r3, hl3, e3⟩ := I'.lstM hqq
      cases r3
      refine wpAny_ite_split (fun _ => ?_) (fun _ => wpAny_pure ⟨plainId_quiet PySem.F.plain_extend_loop _, go s' I'⟩)
      refine wpAny_bind (wpAny_rule ?_)
      refine wpAny_bind ?_
      show wpAny _ _ (updateSeq q (·.push .none) >>= fun _ => updateSeq q (·.pop)) _ _ _
      refine wpAny_bind (wpAny_updateSeq e3 rfl ?_)
      have I3 := I'.lset (f := (·.push Value.none)) (its' := [Value.none]) (ys := [.non]) (t' := s'.toks) hqq e3 (by simp) (.cons rfl .nil) (by rw [List.length_singleton, sizeLine_eq]; decide)
      obtain ⟨z4, its4, k4, r4, hl4, e4⟩ := I3.lstM upd_same
      obtain ⟨u4, rfl, ru4⟩ := r4.one
      refine wpAny_updateSeq e4 rfl ?_ (by show 1 ≤ sizeLine; rw [sizeLine_eq]; decide) (by show 0 ≤ sizeLine + 1; exact Nat.zero_le _)
      have I4 := I3.lset (f := (·.pop)) (its := [u4]) (its' := []) (ys := []) (t' := s'.toks) upd_same e4 (by rfl) .nil (Nat.zero_le _)
      rw [upd_upd] at I4
      have hH : upd H' q (.lst []) = H' := by
        funext b
        by_cases hb : b = q
        · rw [hb, upd_same, hqq]
        · rw [upd_ne hb]
      rw [hH] at I4
      exact wpAny_pure ⟨plainId_quiet PySem.F.plain_extend_loop _, go _ I4⟩
end
theorem u190 {k : Nat} {A : Around} (r : Room k A) : A.units + 190 < cLine := by have := r.un; omega
end XL
set_option Elab.async false
set_option linter.all false
set_option maxRecDepth 100000
set_option maxHeartbeats 4000000
/-! XFoc: o.f = v by an own property's setter; C(..) within a try; a call that raises within a def that lets it out; a written tuple. -/
namespace XL
open PySem PySem.Spec PyProof.Rows L2
structure PSet (K : PySem.W.Frag) (C : Addr) (f : Str) (p g : Addr) : Prop where
  tk : PySem.W.takerIn K C f = some (some (.ref p))
  ty : PySem.W.typeIn K (.ref p) = some (.type "property")
  rec_ : ∃ a rest, PySem.W.recIn K p "property" = some (a :: .ref g :: rest)
def sPSet (C : Addr) (sp : Sp) (E : XK) (ta tv : TE) : TS := fun D σ H => tv σ H fun y H1 => ta σ H1 fun x H2 => ∃ a dx fs, x = .ref a ∧ H2 a = some (.ins C dx fs) ∧ sp [.ref a, y] H2 (fun _ H3 => D.nx σ H3) E
section
variable {X : Cx} {CX : CXT} {k : Nat} {C p g : Addr} {f : Str} {fd : FuncData} {ps : List Str} {sp : Sp} {E : XK} {o value : Expr} {pos pos' : Pos} {ta tv : TE}
theorem Room.in2 {k : Nat} {A : Around} (r : Room (k + 2) A) : Room k A.in1.in1 := (Room.in1 (Room.in1 r))
/-- o.f = v, f a property with a setter -/
theorem ps_pset (ha : PE X o ta) (hv : PE X value tv) (c : Cls X.K C) (hp : PSet X.K C f p g) (F : FnOk X.prog X.w X.K X.mg X.base CX k g fd ps sp) (hr : Room (k + 2) X.A) (hb : Binds X.K fd ps []) (hx : Passes CX X E)
    (hs : swapsWith value (some (.Attribute o f pos')) pos.line X.env = pure false) : PS X (.Assign [.Attribute o f pos'] value pos) (sPSet C sp E ta tv) := by
  refine ⟨fun pins s σ H D I h => ?_⟩
  refine plainObj_wpAny_Assign_Attribute (thn (hv.run pins s σ H _ I h) fun u s1 ⟨y, H1, I1, ry, q⟩ => thn (ha.run pins s1 σ H1 _ I1 q) fun ov s2 ⟨x, H2, I2, rx, a, dx, fs, ex, ea, q2⟩ => ?_) hs
  subst ex
  obtain rfl : ov = Value.ref a := rx
  obtain ⟨mA, O, _, _, _, _⟩ := ins_get I2.hok ea
  obtain ⟨od, J, _⟩ := O.look
  obtain ⟨a0, rest, hrec⟩ := hp.rec_
  have I3 := I2.tok (s2.toks + 1)
  have hl : ([Value.ref a, u] : List Value).length = ps.length := by
    rw [← F.len _ _ _ _ q2]
    rfl
  refine PySem.W.set_plain I2.kIn J c.sa (PySem.W.osa_descr PySem.W.KF.slot_pset I3.kIn J c.po hp.tk hp.ty (PySem.W.prop_set I3.kIn hrec ?_))
  have b := hb { s2 with toks := s2.toks + 1 } [.ref a, u] I3.kIn (by rw [List.append_nil]; exact hl)
  rw [List.append_nil] at b
  refine codeAny_mono (F.run X.A.in1.in1 X.stack { s2 with toks := s2.toks + 1 } H2 ⟨[.ref a, u], []⟩ [.ref a, u] [.ref a, y] _ E (Room.in2 hr) I3.env0.in1.in1 b (.cons rfl (.cons ry .nil)) q2) fun r s' hq => ?_
  cases r with
  | error e => exact hx pins σ _ _ e s' I3 hq
  | ok fl =>
    cases fl with
    | ret u =>
      obtain ⟨v, H', I', rv, q3⟩ := I3.after hq
      exact ⟨σ, H', I', q3⟩
    | next => exact False.elim hq
    | brk => exact False.elim hq
    | cont => exact False.elim hq
end
/-- what leaves a def by its own promise -/
theorem passO {X : Cx} {E : XK} (tk : Takes X (fun cls d _ H => E cls d H)) : Passes (L2.CX X.prog X.w) X E := fun pins σ H s e s' I c => passes_call tk (fun _ _ _ _ h => h) pins σ H s e s' I c
section
variable {X : Cx} {CX : CXT} {k : Nat} {f C : Addr} {fd : FuncData} {ps : List Str} {ds : List Value} {dvs : List V} {sp : Sp} {E : L2.St → XK} {x : Str} {p pos : Pos} {e : Expr} {es : List Expr} {t : TA}
theorem run_makeT {pins : List (Addr × Obj)} {σ : L2.St} {H : Hp} {s : Shared} {Q : VK} {us : List Value} {vs : List V} (M : Mk X.K C f) (F : FnOk X.prog X.w X.K X.mg X.base CX k f fd ps sp) (hr : Room (k + 1) X.A) (hb : Binds X.K fd ps ds) (hd : Vals dvs ds)
    (hx : PassesAt CX X σ (E σ)) (I : Inv X pins σ H s) (r : Vals vs us)
    (h : ∀ x dx, H x = none → H dx = none → dx ≠ x → sp (.ref x :: (vs ++ dvs)) (upd (upd H dx (.own x)) x (.ins C dx [])) (fun v H2 => v = .non ∧ Q (.ref x) H2) (E σ)) :
    wpAny (model X.prog X.w) X.A (call (.ref C) us) (EP X pins σ Q) X.xe s := by
  have hq := h (s.heap.objs.size + 1) s.heap.objs.size (I.hok.fresh (Nat.le_succ _)) (I.hok.fresh (Nat.le_refl _)) (Nat.ne_of_lt (Nat.lt_succ_self _))
  have I2 := Inv.made (C := C) I
  have r2 : Vals (V.ref (s.heap.objs.size + 1) :: (vs ++ dvs)) (Value.ref (s.heap.objs.size + 1) :: (us ++ ds)) := .cons rfl (r.append hd)
  have hl : (Value.ref (s.heap.objs.size + 1) :: us ++ ds).length = ps.length := by
    have e := r2.length
    rw [F.len _ _ _ _ hq] at e
    exact e.symm
  refine wpAny_call (make_map (f := f) I.kIn M.makes M.init (beq_iff_eq.mp M.fn) (codeAny_mono (F.run _ X.stack _ _ ⟨Value.ref (s.heap.objs.size + 1) :: us, []⟩ (Value.ref (s.heap.objs.size + 1) :: (us ++ ds)) _ _ (E σ) (hr.make C us [])
    (I2.env0.make C us []) (hb _ (Value.ref (s.heap.objs.size + 1) :: us) I2.kIn hl) r2 hq) fun r s' hq' => ?_))
  cases r with
  | error e => exact hx pins _ _ e s' I2 hq'
  | ok fl =>
    cases fl with
    | ret u =>
      obtain ⟨v, H', I3, rv, ev, q3⟩ := I2.after hq'
      subst ev
      exact ⟨rv, ⟨V.ref (s.heap.objs.size + 1), H', I3, rfl, q3⟩⟩
    | next => exact False.elim hq'
    | brk => exact False.elim hq'
    | cont => exact False.elim hq'
def tMakeT (C : Addr) (sp : Sp) (dvs : List V) (E : L2.St → XK) (t : TA) : TE := fun σ H Q => t σ H fun vs H1 => ∀ x dx, H1 x = none → H1 dx = none → dx ≠ x → sp (.ref x :: (vs ++ dvs)) (upd (upd H1 dx (.own x)) x (.ins C dx [])) (fun v H2 => v = .non ∧ Q (.ref x) H2) (E σ)
/-- C(e, ..) within a try -/
theorem pe_makeT (M : Mk X.K C f) (F : FnOk X.prog X.w X.K X.mg X.base CX k f fd ps sp) (hr : Room (k + 1) X.A) (hg : Gl X x) (hm : X.mg x = some (.ref C)) (hb : Binds X.K fd ps ds) (hd : Vals dvs ds) (hx : ∀ σ, PassesAt CX X σ (E σ))
    (ha : PA X (e :: es) t) (hdb : (x == ("__debug__" : Str)) = false := by decide) (he : starEach (e :: es) X.env = (false, eval e X.env) :: starEach es X.env := by rfl) (hpl : (backTo pos (starEach es X.env)).any (·.1) = false := by rfl) :
    PE X (.Call (.Name x p) (e :: es) [] pos) (tMakeT C sp dvs E t) := by
  refine ⟨fun pins s σ H Q I h => ?_⟩
  refine wpAny_Call_Name_kw (ld_glob I hg hm ?_ hdb)
  refine PySem.W.callWith_K (h₀ := X.base) I.ok.mod.kin M.kp (thn (ha.run pos pins s σ H _ I h) fun us s1 ⟨vs, H1, I1, r, q⟩ => ⟨I1.kIn, ?_⟩) he hpl
  exact run_makeT M F hr hb hd (hx σ) I1 r q
end
/-- the calls of a def with one default: with and without it -/
structure Dfl1 (K : PySem.W.Frag) (fd : FuncData) (ps : List Str) (dv : V) : Prop where
  all : Binds K fd ps []
  one : ∃ ds, Vals [dv] ds ∧ Binds K fd ps ds
end XL
namespace XL
open PySem PySem.Spec PyProof.Rows L2
section
variable {X : Cx} {pos : Pos}
theorem pg_unlK (K : PySem.W.Frag) (n : Nat) {es : List Expr} {k : Nat} {t : TGs} (h : PGs X es t) (hc : X.calm = true := by rfl) (hK : X.K = K := by rfl)
    (hn : (assignEach es X.env).length = n := by rfl) (hst : (assignEach es X.env).findIdx? (·.1) = none := by rfl) : PG X (.Tuple es k pos) (gUnl K n t) := hK ▸ pg_unl hc h hn hst
theorem mt_indexK (K : PySem.W.Frag) (hK : X.K = K := by rfl) : MtR X "list.index" (rIndex K) := hK ▸ mt_index
end
end XL
set_option Elab.async false
set_option linter.all false
set_option maxRecDepth 100000
set_option maxHeartbeats 4000000
/-! XDel: del xs[a:]. -/
namespace XL
open PySem PySem.Spec PyProof.Rows L2
section
variable {prog : Program} {w : World} {A : Around} {E : Value → Shared → Prop} {s : Shared}
def selF (a n : Int) (i : Nat) : Bool := if (1 : Int) > 0 then a ≤ i && i < n && ((i : Int) - a) % 1 == 0 else n < i && i ≤ a && (a - i) % (-1) == 0
theorem selF_eq (a n i : Nat) : selF (a : Int) (n : Int) i = (decide (a ≤ i) && decide (i < n)) := by
  unfold selF
  rw [if_pos (by decide)]
  have h : (((i : Int) - (a : Int)) % 1 == 0) = true := by rw [Int.emod_one]; rfl
  rw [h, Bool.and_true]
  congr 1
  · exact decide_eq_decide.mpr Int.ofNat_le
  · exact decide_eq_decide.mpr Int.ofNat_lt
theorem zip_keep : ∀ (xs : List Value) (j a n : Nat), j + xs.length ≤ n → ((xs.zipIdx j).filterMap fun (p : Value × Nat) => if (selF (a : Int) (n : Int) p.2) = true then none else some p.1) = xs.take (a - j)
  | [], _, _, _, _ => by simp
  | x :: r, j, a, n, h => by
    rw [List.length_cons] at h
    rw [List.zipIdx_cons, List.filterMap_cons, selF_eq]
    have ih := zip_keep r (j + 1) a n (by omega)
    by_cases hj : a ≤ j
    · have e1 : (decide (a ≤ j) && decide (j < n)) = true := by rw [decide_eq_true hj, decide_eq_true (by omega)]; rfl
      have e0 : a - j = 0 := by omega
      have e2 : a - (j + 1) = 0 := by omega
      rw [e2, List.take_zero] at ih
      rw [e0, List.take_zero]
      simp only [e1, if_true]
      exact ih
    · have e1 : (decide (a ≤ j) && decide (j < n)) = false := by rw [decide_eq_false hj]; rfl
      have e0 : a - j = a - (j + 1) + 1 := by omega
      rw [e0, List.take_succ_cons, ← ih]
      simp only [e1, Bool.false_eq_true, if_false]
theorem bounds_from {a n : Nat} (h : a ≤ n) : sliceBounds (some (a : Int)) none none n = ((a : Int), (n : Int), 1) := by
  simp only [sliceBounds, Option.getD_none]
  have h1 : ¬ ((a : Int) < 0) := by omega
  simp only [h1, if_false, show (1 : Int) > 0 by decide, if_true]
  congr 1
  omega
/-- list.__delitem__ with a slice from a place on -/
theorem delItem_from {l sl : Addr} {items : Array Value} {n : Nat} {vl : Value} {a : Nat} {Q : Unit → Shared → Prop}
    (e : s.heap.get? l = some { cls := .type "list", data := .seq items n }) (hs : s.heap.IsSliceOf sl vl .none .none) (pl : IsPart vl (some (a : Int))) (hac : a ≤ items.size) (hsz : items.size ≤ sizeLine)
    (h : Q () { s with heap := s.heap.update l (Obj.mapSeq fun xs => (xs.toList.zipIdx.filterMap fun (p : Value × Nat) => if (selF (a : Int) (items.size : Int) p.2) = true then none else some p.1).toArray) }) :
    wpAny (model prog w) A (delItem (.ref l) (.ref sl)) Q E s := by
  have hl : s.heap.IsList l items := PySem.IsL.isList e
  obtain ⟨os, hos, hcs, hds⟩ := id hs
  have hTs : s.TypeIs (.ref sl) "slice" := ⟨os, hos, hcs⟩
  have hstep : ¬ ((rawPart none == rawInt 0) = true) := Bool.false_ne_true
  have hz' : ((fun xs : Array Value => (xs.toList.zipIdx.filterMap fun (p : Value × Nat) => if (selF (a : Int) (items.size : Int) p.2) = true then none else some p.1).toArray) items).size ≤ sizeLine + 1 := by
    show (_ : List Value).toArray.size ≤ _
    rw [List.size_toArray, zip_keep items.toList 0 a items.size (by rw [Array.length_toList]; omega), List.length_take, Array.length_toList]
    omega
  unfold delItem
  try with_reducible refine wpAny_holding ?_
  first | refine wpAny_bind (wpAny_pure ?_) | skip
  refine wpAny_bind (wpAny_sequenceKey hl.typeIs (by decide) ?_)
  refine wpAny_bind (wpAny_callSpecial?_slot (name := Str.ofString "__delitem__") hl.typeIs PySem.F.slot_list_delitem
    (wpAny_call_entry PySem.F.slot_list_delitem hl.typeIs PySem.F.entry_list_delitem ?_ (PySem.F.args_list_delitem_2 _ _)))
  show wpAny _ _ (Builtin.List.listSubscript? (.ref sl) >>= _) _ _ s
  refine wpAny_bind ?_
  unfold Builtin.List.listSubscript?
  refine wpAny_bind (wpAny_specialOf hTs slice_no_index ?_)
  simp only [Option.isNone_none, if_true]
  refine wpAny_pure ?_
  show wpAny _ _ (typeOf (.ref sl) >>= _) _ _ s
  refine wpAny_bind (wpAny_typeOf hTs ?_)
  first
    | rw [if_neg (by decide)]
    | refine PySem.W.KFB.if_not (by decide) ?_
  rw [listSliceParts_eq]
  refine wpAny_bind (wpAny_bind (wpAny_field hos hds (x := .none) rfl (wpAny_bind (wpAny_listPart .none ?_))))
  rw [if_neg hstep]
  refine wpAny_bind (wpAny_field hos hds (x := vl) rfl (wpAny_bind (wpAny_listPart pl ?_)))
  refine wpAny_bind (wpAny_field hos hds (x := .none) rfl (wpAny_bind (wpAny_listPart .none (wpAny_pure ?_))))
  unfold Builtin.List.listItems
  refine wpAny_bind (wpAny_bind (wpAny_seqItems e rfl (wpAny_pure ?_)))
  refine wpAny_bind (wpAny_of_eq ((sliceIndices_raw (some (a : Int)) none none items.size (by simp)).trans (congrArg (pure : Int × Int × Int → Sem (Int × Int × Int)) (bounds_from hac))) ?_)
  refine wpAny_bind (wpAny_rule ?_)
  show wpAny _ _ (updateSeq l (fun xs => (xs.toList.zipIdx.filterMap fun (p : Value × Nat) => if (selF (a : Int) (items.size : Int) p.2) = true then none else some p.1).toArray) >>= _) _ _ s
  refine wpAny_bind (wpAny_updateSeq (hz := hsz) (_hz' := hz') e rfl ?_)
  refine wpAny_bind (wpAny_letGo ?_)
  first
    | exact wpAny_bind (wpAny_pure (wpAny_pure ⟨.none, rfl, wpAny_pure h⟩))
    | exact wpAny_pure ⟨.none, rfl, wpAny_pure h⟩
end
section
variable {X : Cx} {pos : Pos}
def tDelF (to ti : TE) : TS := fun D σ H => to σ H fun x H1 => ti σ H1 fun y H2 => ∃ (l : Addr) (xs : List V) (k : Nat), x = .ref l ∧ y = .int (k : Nat) ∧ H2 l = some (.lst xs) ∧ k ≤ xs.length ∧ D.nx σ (upd H2 l (.lst (xs.take k)))
theorem ps_delFrom {o lo : Expr} {to ti : TE} {p2 tpos : Pos} (ho : PE X o to) (hi : PE X lo ti) : PS X (.Delete [.Subscript o (.Slice (some lo) none none p2) tpos] pos) (tDelF to ti) := by
  refine ⟨fun pins s σ H D I h => ?_⟩
  refine wpAny_Delete (wpAny_deleteEach_cons (wpAny_delete_Subscript (thn (ho.run pins s σ H _ I h) fun u s1 ⟨x, H1, I1, rx, q1⟩ => ?_)))
  refine wpAny_Slice (wpAny_evalPart_some (thn (hi.run pins s1 σ H1 _ I1 q1) fun iv s2 ⟨y, H2, I2, ry, q2⟩ => wpAny_evalPart_none (wpAny_evalPart_none ?_)))
  obtain ⟨l, xs, k, rfl, rfl, hH, hk, q2⟩ := q2
  cases (show u = Value.ref l from rx)
  obtain ⟨t, rfl⟩ := (show ∃ t, iv = Value.int (k : Nat) t from ry)
  have I4 : L2.Inv X pins σ H2 { s2 with heap := s2.heap.push { cls := .type "slice", data := .fields #[.int (k : Nat) t, .none, .none] } } := I2.kept (t' := s2.toks) fun b ob q => Heap.get?_push_of_some _ q
  obtain ⟨z, its, n, r, hl, e⟩ := I4.lstM hH
  refine delItem_from (a := k) e (Heap.IsSliceOf.new ..) (.int _ _) (by rw [List.size_toArray, ← hl]; exact hk) (by rw [List.size_toArray]; omega) ?_
  refine wpAny_deleteEach_nil ⟨σ, _, I4.lset (its' := its.take k) (t' := s2.toks) hH e ?_ (r.take k) ?_, q2⟩
  · show (_ : List Value).toArray = _
    rw [zip_keep its 0 k _ (by rw [List.size_toArray]; omega)]
    rfl
  · rw [List.length_take]
    omega
end
theorem Sep.setAt {G H : Hp} {M : List (Addr × HO)} {i : Nat} {a : Addr} {o o' : HO} (S : Sep G M H) (h : M[i]? = some (a, o)) : Sep G (M.set i (a, o')) (upd H a o') := by
  have hi := (List.getElem?_eq_some_iff.mp h).1
  have S1 := S.perm (perm_erase h).symm
  have S2 := S1.set (o' := o')
  have e : (M.set i (a, o'))[i]? = some (a, o') := List.getElem?_set_self hi
  have p := perm_erase e
  rw [List.eraseIdx_set_eq] at p
  exact S2.perm p
end XL
namespace XL
open PySem PySem.Spec PyProof.Rows L2
/-! ### a text, several times -/
def repS (x : Str) (k : Nat) : Str := ⟨(List.replicate k x.cps).foldl (· ++ ·) #[]⟩
theorem foldl_cps : ∀ (k : Nat) (a : Array Nat) (x : Array Nat), ((List.replicate k x).foldl (· ++ ·) a).toList = a.toList ++ (List.replicate k x.toList).flatten
  | 0, a, x => by simp
  | k + 1, a, x => by
    rw [List.replicate_succ, List.foldl_cons, foldl_cps k, List.replicate_succ, List.flatten_cons]
    simp
theorem repS_tl (x : Str) (k : Nat) : (repS x k).cps.toList = (List.replicate k x.cps.toList).flatten := by
  have := foldl_cps k #[] x.cps
  simpa [repS] using this
theorem repS_len (x : Str) : ∀ k : Nat, (repS x k).length = k * x.length := by
  intro k
  rw [len_tl, repS_tl]
  induction k with
  | zero => simp
  | succ k ih =>
    rw [List.replicate_succ, List.flatten_cons, List.length_append, ih, ← len_tl, Nat.succ_mul]
    omega
theorem repS_mem {x : Str} {k c : Nat} (h : c ∈ (repS x k).cps.toList) : c ∈ x.cps.toList := by
  rw [repS_tl] at h
  obtain ⟨l, hl, hc⟩ := List.mem_flatten.mp h
  rw [(List.mem_replicate.mp hl).2] at hc
  exact hc
def yMulS : R2 := fun x y H Q => match x, y with
  | .str z, .int k => 2 ≤ k ∧ k ≤ 1000 ∧ 1 ≤ z.length ∧ z.length ≤ 1000 ∧ Q (.str (repS z k.toNat)) H
  | _, _ => False
theorem op_mulS {X : Cx} : OpR X (binaryOp .Mult) yMulS := by
  intro pins s σ H x y v u Q I rx ry h
  unfold yMulS at h
  split at h
  · rename_i z k
    obtain ⟨h1, h2, h3, h4, q⟩ := h
    obtain ⟨t, rfl⟩ := rx
    obtain ⟨t', rfl⟩ := ry
    have hk : ¬ k < 1 := by omega
    have hc : (k == 1 || z.length == 0) = false := by
      rw [Bool.or_eq_false_iff]
      exact ⟨beq_eq_false_iff_ne.mpr (by omega), beq_eq_false_iff_ne.mpr (by omega)⟩
    have hl : z.length * k.toNat ≤ 1000 * 1000 := Nat.mul_le_mul h4 (by omega)
    refine P.mul_str (by rw [decide_eq_false (by omega), decide_eq_false (by omega)]; rfl) (fun _ _ h => ?_) (fun _ _ => ?_) ?_
    · have : (z.length : Int) ≤ (2 ^ 63 - 1) / k := by
        rw [Int.le_ediv_iff_mul_le (by omega)]
        have e : (z.length : Int) * k = ((z.length * k.toNat : Nat) : Int) := by rw [Int.natCast_mul, Int.toNat_of_nonneg (by omega)]
        rw [e]
        omega
      omega
    · unfold Builtin.Str.tooLong
      exact decide_eq_false (by rw [sizeLine_eq]; omega)
    · rw [if_neg hk, if_neg (by rw [hc]; decide)]
      refine ⟨?_, .str (repS z k.toNat), H, I.tok _, ⟨_, rfl⟩, q⟩
      show (repS z k.toNat).length ≤ sizeLine
      rw [repS_len, sizeLine_eq, Nat.mul_comm]
      omega
  · exact h.elim
end XL
set_option Elab.async false
set_option linter.all false
set_option maxRecDepth 100000
set_option maxHeartbeats 4000000
/-! XPage: x in o by an own __contains__. -/
namespace XL
open PySem PySem.Spec PyProof.Rows L2
section
variable {X : Cx} {CX : CXT} {C f : Addr} {fd : FuncData} {ps : List Str} {sp : Sp} {E : XK} {n : Nat}
def yInO (C : Addr) (sp : Sp) (E : XK) (ng : Bool) : R2 := fun x y H Q => ∃ a dx fs, y = .ref a ∧ H a = some (.ins C dx fs) ∧ sp [.ref a, x] H (fun v H' => match v with
  | .bl b => Q (.bl (if ng = true then !b else b)) H'
  | _ => False) E
theorem op_inO (F : FnOk X.prog X.w X.K X.mg X.base CX n f fd ps sp) (hs : PySem.W.findIn X.K (.ref C) "__contains__" = some (some (.ref f))) (hf : PySem.W.isFn X.K (.ref f) = true) (hb : Binds X.K fd ps []) (hx : Passes CX X E) (hr : Room n X.A) : OpR X (compareOp .In) (yInO C sp E false) := by
  intro pins s σ H x y u v Q I rx ry h
  obtain ⟨a, dx, fs, rfl, ha, hsp⟩ := h
  cases ry
  obtain ⟨mA, J1, _⟩ := ins_get I.hok ha
  obtain ⟨od, J1, _⟩ := J1.look
  obtain ⟨m, hF⟩ := I.fr
  refine PySem.W.in_K hF I.ok.mod.kin J1 hs hf (wpAny_mono (run_fn (us := [.ref a, u]) (vs := [.ref a, x]) (dvs := []) F hr hb .nil hx I (.cons rfl (.cons rx .nil)) hsp) (fun r s' q => ?_) fun _ _ e => e)
  obtain ⟨z, H', I', rz, q⟩ := q
  cases z with
  | bl b =>
    cases rz
    exact wpAny_truthy_bool ⟨.bl b, H', I', rfl, q⟩
  | _ => exact q.elim
theorem op_ninO (F : FnOk X.prog X.w X.K X.mg X.base CX n f fd ps sp) (hs : PySem.W.findIn X.K (.ref C) "__contains__" = some (some (.ref f))) (hf : PySem.W.isFn X.K (.ref f) = true) (hb : Binds X.K fd ps []) (hx : Passes CX X E) (hr : Room n X.A) : OpR X (compareOp .NotIn) (yInO C sp E true) := by
  intro pins s σ H x y u v Q I rx ry h
  obtain ⟨a, dx, fs, rfl, ha, hsp⟩ := h
  cases ry
  obtain ⟨mA, J1, _⟩ := ins_get I.hok ha
  obtain ⟨od, J1, _⟩ := J1.look
  obtain ⟨m, hF⟩ := I.fr
  refine PySem.W.notIn_K hF I.ok.mod.kin J1 hs hf (wpAny_mono (run_fn (us := [.ref a, u]) (vs := [.ref a, x]) (dvs := []) F hr hb .nil hx I (.cons rfl (.cons rx .nil)) hsp) (fun r s' q => ?_) fun _ _ e => e)
  obtain ⟨z, H', I', rz, q⟩ := q
  cases z with
  | bl b =>
    cases rz
    exact wpAny_truthy_bool ⟨.bl (!b), H', I', rfl, q⟩
  | _ => exact q.elim
end
theorem _root_.L2.Room.u190 {k : Nat} {A : Around} (r : L2.Room k A) : A.units + 190 < cLine := by have := r.un; omega
/-! ### == and != of data of up to 190 levels, and of plain values -/
def rNeL (K : PySem.W.Frag) : R2 := fun x y H Q => ∃ d e, Dp K H x d ∧ Dp K H y e ∧ d.canLay0 = true ∧ e.canLay0 = true ∧ d.depth ≤ 190 ∧ Q (.bl (!PyData.eqv d e)) H
theorem op_neL {X : Cx} (K : PySem.W.Frag) (hu : X.A.units + 190 < cLine) (hK : X.K = K := by rfl) : OpR X (compareOp .NotEq) (rNeL K) := by
  subst hK
  intro pins s σ H x y v u Q I rx ry h
  obtain ⟨d, e, hd, he, sd, se, dp, q⟩ := h
  obtain ⟨as, r1⟩ := Dp.reads I d x v hd rx
  obtain ⟨bs, r2⟩ := Dp.reads I e y u he ry
  exact SeqAt.compareNe_reads r1 r2 sd se (by have := Nat.min_le_left d.depth e.depth; omega) ⟨.bl _, H, I, rfl, q⟩
def yEqL (K : PySem.W.Frag) : R2 := fun x y H Q => match x, y with
  | .int i, .int j => Q (.bl (decide (i = j))) H
  | .str i, .str j => Q (.bl (decide (i = j))) H
  | .bl i, .bl j => Q (.bl (decide (i = j))) H
  | .ref a, .ref b => rEqL K (.ref a) (.ref b) H Q
  | x, y => scal x y = true ∧ Q (.bl (decide (x = y))) H
def yNeL (K : PySem.W.Frag) : R2 := fun x y H Q => match x, y with
  | .int i, .int j => Q (.bl (!decide (i = j))) H
  | .str i, .str j => Q (.bl (!decide (i = j))) H
  | .bl i, .bl j => Q (.bl (!decide (i = j))) H
  | .ref a, .ref b => rNeL K (.ref a) (.ref b) H Q
  | x, y => scal x y = true ∧ Q (.bl (!decide (x = y))) H
theorem op_eqLK {X : Cx} (K : PySem.W.Frag) (hu : X.A.units + 190 < cLine) (hK : X.K = K := by rfl) : OpR X (compareOp .Eq) (yEqL K) := by
  refine or_str (OpR.or (op_eq (X := X)) (op_eqL K hu hK)) fun x y H Q h => ?_
  unfold yEqL at h
  split at h
  · exact .inl ⟨rfl, by rw [deci]; exact h⟩
  · exact .inl ⟨rfl, by rw [decs]; exact h⟩
  · exact .inl ⟨rfl, by rw [decb]; exact h⟩
  · exact .inr h
  · exact .inl h
theorem op_neLK {X : Cx} (K : PySem.W.Frag) (hu : X.A.units + 190 < cLine) (hK : X.K = K := by rfl) : OpR X (compareOp .NotEq) (yNeL K) := by
  refine or_str (OpR.or (op_ne (X := X)) (op_neL K hu hK)) fun x y H Q h => ?_
  unfold yNeL at h
  split at h
  · exact .inl ⟨rfl, by rw [deci]; exact h⟩
  · exact .inl ⟨rfl, by rw [decs]; exact h⟩
  · exact .inl ⟨rfl, by rw [decb]; exact h⟩
  · exact .inr h
  · exact .inl h
end XL
set_option Elab.async false
set_option linter.all false
set_option maxRecDepth 100000
set_option maxHeartbeats 4000000
/-! XCnt: xs.count(x) of data. -/
namespace XL
open PySem PySem.Spec PyProof.Rows L2
theorem _root_.L2.Room.u65 {k : Nat} {A : Around} (r : L2.Room k A) : A.units + 65 < cLine := by have := r.un; omega
def rCntD (K : PySem.W.Frag) : V → List V → Hp → VK → Prop := fun x xs H Q => ∃ (a : Addr) (y : V) (ys : List V) (d : PyData) (ds : List PyData), x = V.ref a ∧ xs = [y] ∧ SqL K H a ys ∧ DpAll K H ys ds ∧ Dp K H y d ∧
  PyData.canLayAll0 ds = true ∧ SeqAt.shaped d = true ∧ Q (.int ((ds.countP fun z => PyData.eqv z d : Nat) : Int)) H
theorem mt_countD {X : Cx} (K : PySem.W.Frag) (hu : X.A.units + 65 < cLine) (h : X.K = K := by rfl) : MtR X "list.count" (rCntD K) := by
  subst h
  intro pins s σ H x xs v us Q I rx rxs h
  obtain ⟨a, y, ys, d, ds, rfl, rfl, hs, ha, hy, hxs, sd, q⟩ := h
  cases rx
  cases rxs with
  | cons ry rt =>
    rename_i uy ut
    cases rt
    obtain ⟨bs, r1⟩ := Dp.reads I d y uy hy ry
    have hroom : X.A.units + 1 + min (PyData.depthAll ds) d.depth < cLine := room_in_shaped sd hu
    obtain ⟨its, rv, ⟨⟨cls, dd, data, sl⟩, n, ho, hc, hdn, hd⟩, hlen⟩ := I.list hs
    simp only at hc hd
    subst hc hd
    obtain ⟨as, h4⟩ := Dp.readsAll I ds _ its ha rv
    have hmap : its.map (SeqAt.readOf s.heap) = ds := SeqAt.readsAll_map ds its as hxs h4
    refine call_meets PySem.F.slot_list_count ⟨_, ho, rfl⟩ PySem.F.entry_list_count (PySem.F.args_list_count_2 _ _)
      (SeqAt.list_countAt a its.toArray n dd sl uy (fun u => PyData.eqv (SeqAt.readOf s.heap u) d)) ⟨ho, SeqAt.items_eqAt (vs := its.toArray) (show ReadsAll s.heap its.toArray.toList ds as from h4) r1 hxs (SeqAt.canLay_of_shaped sd) hroom, ?_⟩
    have ec : its.toArray.toList.countP (fun u => PyData.eqv (SeqAt.readOf s.heap u) d) = ds.countP fun z => PyData.eqv z d := by
      rw [← hmap, List.countP_map]
      rfl
    refine ⟨.int ((ds.countP fun z => PyData.eqv z d : Nat) : Int), H, I.tok _, ⟨s.toks, ?_⟩, q⟩
    show Value.int ((its.toArray.toList.countP (fun u => PyData.eqv (SeqAt.readOf s.heap u) d) : Nat) : Int) s.toks = Value.int ((ds.countP fun z => PyData.eqv z d : Nat) : Int) s.toks
    rw [ec]
end XL
set_option Elab.async false
set_option linter.all false
set_option maxRecDepth 100000
set_option maxHeartbeats 4000000
/-! XIn: x in l, l a list, items data of up to 185 levels. -/
namespace XL
open PySem PySem.Spec PyProof.Rows L2
def rInL (K : PySem.W.Frag) : R2 := fun x y H Q => ∃ d ds, Dp K H x d ∧ Dp K H y (.list ds) ∧ d.canLay0 = true ∧ d.depth ≤ 185 ∧ PyData.canLayAll0 ds = true ∧ Q (.bl (ds.any fun z => PyData.eqv z d)) H
theorem in_deepLK {X : Cx} (K : PySem.W.Frag) (hu : X.A.units + 190 < cLine) (h : X.K = K := by rfl) : OpR X (compareOp .In) (rInL K) := by
  subst h
  intro pins s σ H x y v u Q I rx ry h
  obtain ⟨d, ds, hd, he, sd, dp, se, q⟩ := h
  obtain ⟨as, r1⟩ := Dp.reads I d x v hd rx
  obtain ⟨bs, r2⟩ := Dp.reads I (.list ds) y u he ry
  exact SeqAt.in_list_reads r2 r1 se sd (by have := Nat.min_le_right (PyData.depthAll ds) d.depth; omega) ⟨.bl _, H, I, rfl, q⟩
end XL
set_option Elab.async false
set_option linter.all false
set_option maxRecDepth 100000
set_option maxHeartbeats 4000000
/-! XPat: tuples that are put together and cut. -/
namespace XL
open PySem PySem.Spec PyProof.Rows L2
section
variable {K : PySem.W.Frag} {G H : Hp} {M : List (Addr × HO)} {a b : Addr} {xs ys : List V} {Q : VK}
theorem op_catAK {X : Cx} (K : PySem.W.Frag) (h : X.K = K := by rfl) : OpR X (binaryOp .Add) (rCatA K) := h ▸ op_catA
theorem cat_ok (S : Sep G M H) (ha : SqT K G a xs) (hb : SqT K G b ys) (hl : xs.length + ys.length ≤ sizeLine) (q : ∀ c G' H', Same G G' → SqT K G' c (xs ++ ys) → Sep G' M H' → Q (.ref c) H') : rCatA K (.ref a) (.ref b) H Q := by
  refine ⟨a, b, xs, ys, rfl, rfl, S.t ha, S.t hb, hl, fun e => ?_, fun _ e => ?_, fun _ _ p np => ?_⟩
  · subst e
    exact q b G H (Same.refl G) hb S
  · subst e
    exact q a G H (Same.refl G) (by rw [List.append_nil]; exact ha) S
  · exact q p _ _ (S.grow np) (SqT.of upd_same) (S.newG np)
theorem cutA_ok {lo hi : Option Int} (S : Sep G M H) (ha : SqT K G a xs) (q : ∀ c G' H', Same G G' → SqT K G' c (cutV xs lo hi) → Sep G' M H' → Q (.ref c) H') : rSlA K (.ref a) lo hi H Q := by
  refine ⟨a, xs, rfl, S.t ha, fun e => ?_, fun _ p np => ?_⟩
  · refine q a G H (Same.refl G) ?_ S
    have : cutV xs lo hi = xs := by
      unfold cutV
      rw [e.1, e.2, Nat.sub_zero, List.drop_zero, List.take_length]
    rw [this]
    exact ha
  · exact q p _ _ (S.grow np) (SqT.of upd_same) (S.newG np)
end
theorem sqT_ty {K : PySem.W.Frag} {H : Hp} {a : Addr} {xs : List V} (h : SqT K H a xs) : TyX K H (.ref a) (.type "tuple") := by
  rcases h with (h | ⟨o, h⟩) | ⟨o, _, _, h, c, _⟩
  · exact .base (.tup h)
  · exact .fTuple h
  · exact .kTuple h c
end XL
set_option Elab.async false
set_option linter.all false
set_option maxRecDepth 100000
set_option maxHeartbeats 4000000
/-! XRem: xs.remove(m) of a text that is there. -/
namespace XL
open PySem PySem.Spec PyProof.Rows L2
theorem isStr_at (k : Str) : ∀ {vs : List Value} {ns : List Str}, StrsAre vs ns → ∀ (i : Nat) (h : i < vs.length), isStrOf k vs[i] = true ↔ ns[i]? = some k
  | _, _, .nil, i, h => absurd h (by simp)
  | _, _, .cons n t hr, 0, _ => by
    show (n == k) = true ↔ some n = some k
    rw [beq_iff_eq, Option.some_inj]
  | _, _, .cons n t hr, i + 1, h => isStr_at k hr i (Nat.lt_of_succ_lt_succ h)
theorem first_atS : ∀ {ns : List Str} {k : Str}, k ∈ ns → ∃ j, j < ns.length ∧ ns[j]? = some k ∧ (∀ i, i < j → ns[i]? ≠ some k) ∧ ns.eraseIdx j = ns.erase k
  | [], k, h => absurd h (by simp)
  | a :: r, k, h => by
    by_cases e : a = k
    · refine ⟨0, Nat.succ_pos _, by rw [e] <;> rfl, fun i hi => absurd hi (Nat.not_lt_zero _), ?_⟩
      rw [e, List.erase_cons_head] <;> rfl
    · have hr : k ∈ r := by
        rcases List.mem_cons.mp h with z | z
        · exact absurd z.symm e
        · exact z
      obtain ⟨j, h1, h2, h3, h4⟩ := first_atS hr
      refine ⟨j + 1, Nat.succ_lt_succ h1, h2, fun i hi => ?_, ?_⟩
      · cases i with
        | zero =>
          intro z
          exact e (Option.some.inj z)
        | succ i => exact h3 i (Nat.lt_of_succ_lt_succ hi)
      · rw [List.erase_cons_tail (by rw [beq_iff_eq]; exact e), ← h4] <;> rfl
theorem map_eraseS (f : Str → V) : ∀ (ns : List Str) (j : Nat), (ns.map f).eraseIdx j = (ns.eraseIdx j).map f
  | [], _ => rfl
  | _ :: _, 0 => rfl
  | n :: r, j + 1 => by
    show f n :: (r.map f).eraseIdx j = f n :: (r.eraseIdx j).map f
    rw [map_eraseS f r j]
def rRemS : V → List V → Hp → VK → Prop := fun x xs H Q => ∃ (a : Addr) (zs : List Str) (m : Str), x = .ref a ∧ xs = [.str m] ∧ H a = some (.lst (zs.map V.str)) ∧ m ∈ zs ∧ Q .non (upd H a (.lst ((zs.erase m).map V.str)))
theorem mt_removeS {X : Cx} : MtR X "list.remove" rRemS := by
  intro pins s σ H x xs v us Q I rx rxs h
  obtain ⟨a, zs, m, rfl, rfl, hH, hm, q⟩ := h
  cases rx
  cases rxs with
  | cons ry rt =>
    rename_i uy ut
    cases rt
    obtain ⟨t, rfl⟩ := (show ∃ t, uy = Value.str m t from ry)
    obtain ⟨z, its, n, r, hl, e0⟩ := I.lstM hH
    have hi : StrsAre its zs := Vals.strs r
    have heq := eq_isStrOf m t hi
    have hnl : zs.length = its.length := by rw [← hl, List.length_map]
    have hsz : its.toArray.size ≤ sizeLine := by rw [List.size_toArray, ← hl]; exact z
    obtain ⟨j, j1, j2, j3, j4⟩ := first_atS hm
    have hj : j < its.length := by omega
    refine call_meets PySem.F.slot_list_remove ⟨_, e0, rfl⟩ PySem.F.entry_list_remove (PySem.F.args_list_remove_2 _ _)
      (MeetsSeq.list_remove a its.toArray n (.str m t) (isStrOf m) (fun y hy => heq y (by simpa using hy)) j (by rw [List.size_toArray]; exact hj) ?hit (fun i hi2 hlt => ?hno) hsz) ⟨e0, ?_⟩
    case hit =>
      show isStrOf m its[j] = true
      exact (isStr_at m hi j hj).mpr j2
    case hno =>
      have hi3 : i < its.length := by rw [List.size_toArray] at hi2; exact hi2
      show isStrOf m its[i] = false
      rw [Bool.eq_false_iff]
      intro w
      exact j3 i hlt ((isStr_at m hi i hi3).mp w)
    have r2 : Vals ((zs.erase m).map V.str) (its.eraseIdx j) := by
      have w := r.eraseIdx j
      rw [map_eraseS, j4] at w
      exact w
    refine ⟨.non, _, I.lset (its' := its.eraseIdx j) hH e0 ?_ r2 ?_, rfl, q⟩
    · show its.toArray.eraseIdxIfInBounds j = (its.eraseIdx j).toArray
      rw [List.eraseIdxIfInBounds_toArray]
    · rw [List.length_map]
      have := List.length_erase_le (a := m) (l := zs)
      rw [List.length_map] at z
      omega
end XL
set_option Elab.async false
set_option linter.all false
set_option maxRecDepth 100000
set_option maxHeartbeats 4000000
/-! XProp: a property of an own class is read within an except suite. -/
namespace XL
open PySem PySem.Spec PyProof.Rows L2 L2H
section
variable {X : Cx} {k : Nat} {C p g a dx : Addr} {fs : List (Str × V)} {f : Str} {fd : FuncData} {ps : List Str} {sp : Sp} {E : XK} {e : Expr} {pos : Pos} {ta : TE}
theorem getpropQ {pins : List (Addr × Obj)} {σ : L2.St} {H : Hp} {s : Shared} {Q : VK} {b : Bool} {E' : Value → Shared → Prop} (I : L2.Inv X pins σ H s) (ea : H a = some (.ins C dx fs)) (c : Cls X.K C) (hp : PropOf X.K C f p g)
    (F : FnQ X.prog X.w X.K X.mg X.base k g fd ps sp) (hr : RoomH (k + 1) X.A) (hc : ∃ q, q ∈ X.pn) (hb : Binds X.K fd ps []) (hx : Passes CX0 X.nox E) (h : sp [.ref a] H Q E) :
    wpAny (model X.prog X.w) X.A (getAttr (.ref a) f b) (EP X pins σ Q) E' s := by
  obtain ⟨mA, O, _, _, _, _⟩ := ins_get I.hok ea
  obtain ⟨od, J, _⟩ := O.look
  obtain ⟨rest, hrec⟩ := hp.rec_
  have I1 := I.tok (s.toks + 1)
  have hl : ([Value.ref a] ++ []).length = ps.length := by
    rw [← F.len _ _ _ _ h]
    rfl
  have hcl : (PySem.W.clsIn X.K C).isSome = true := by
    obtain ⟨cd, hc, _⟩ := PySem.W.any_some c.hd
    rw [hc]
    rfl
  obtain ⟨q, hq⟩ := hc
  have P1 := I1.pin q (List.mem_append_left _ hq)
  have hpin : PinOk X.stack H { s with toks := s.toks + 1 } q := ⟨P1.1, P1.2.1, fun hm => (List.mem_cons.mp (I1.stkSub q.1 hm)).elim P1.2.2.1 P1.2.2.2.1, P1.2.2.2.2⟩
  have hr1 : RoomH k X.A.in1 := ⟨by have := hr.dp; show X.A.depth + 3 * k + 5 < _; omega, by have := hr.un; show X.A.units + 1 + 16 * k + 200 < _; omega⟩
  have b1 := hb { s with toks := s.toks + 1 } [.ref a] I1.kIn hl
  rw [List.append_nil] at b1
  refine PySem.W.get_bind I.kIn J (PySem.W.plainGet_of (c.get f)).1 (PySem.W.findObj_data hcl hp.at_ hp.get hp.tak) (PySem.W.plainGet_of (c.get f)).2 (wpAny_call (PySem.W.prop_get (s := { s with toks := s.toks + 1 }) I.kIn hrec ?_))
  refine codeAny_mono (F.run X.A.in1 X.stack { s with toks := s.toks + 1 } H ⟨[.ref a], []⟩ [.ref a] [.ref a] Q E q hr1 hpin I1.env0.in1 b1 (.cons rfl .nil) h) fun r s' hq => ?_
  cases r with
  | error er => exact False.elim (hx pins σ H { s with toks := s.toks + 1 } er s' (I1.wish _) hq)
  | ok fl =>
    cases fl with
    | ret u =>
      obtain ⟨v, H', I3, rv, q3⟩ := I1.after hq
      show wpAny _ _ (handedOut u) _ _ _
      rw [PySem.W.handedOut_of (handed_of rv)]
      exact wpAny_pure ⟨v, H', I3, rv, q3⟩
    | next => exact False.elim hq
    | brk => exact False.elim hq
    | cont => exact False.elim hq
theorem pe_propQ (he : PE X e ta) (c : Cls X.K C) (hp : PropOf X.K C f p g) (F : FnQ X.prog X.w X.K X.mg X.base k g fd ps sp) (hr : RoomH (k + 1) X.A) (hc : ∃ q, q ∈ X.pn) (hb : Binds X.K fd ps []) (hx : Passes CX0 X.nox E)
    (hab : attributeBase e f X.env (eval e X.env) = eval e X.env) : PE X (.Attribute e f pos) (tProp C sp [] E ta) := by
  refine ⟨fun pins s σ H Q I h => ?_⟩
  refine attr_of hab (thn (he.run pins s σ H _ I h) fun u s1 ⟨x, H1, I1, rx, a, dx, fs, ex, ea, q⟩ => ?_)
  subst ex
  obtain rfl : u = Value.ref a := rx
  exact getpropQ I1 ea c hp F hr hc hb hx q
end
end XL
set_option Elab.async false
set_option linter.all false
set_option maxRecDepth 100000
set_option maxHeartbeats 4000000
/-! XLe: tuples of ints are compared by `<=`. -/
namespace XL
open PySem PySem.Spec PyProof.Rows L2
theorem op_leTK {X : Cx} (K : PySem.W.Frag) (hu : X.A.units + 64 < cLine) (h : X.K = K := by rfl) : OpR X (compareOp .LtE) (rLeT K) := h ▸ op_leT (by omega)
end XL
set_option Elab.async false
set_option linter.all false
set_option maxRecDepth 100000
set_option maxHeartbeats 4000000
namespace K11
open PySem PySem.Spec PyProof.Rows L2 XL
def topS (i : Nat) : Stmt := PySem.Challenge.pw_drawnanew_k11_between_leads.main.body.getD i (.Pass ⟨0, 0, 0, 0⟩)
abbrev s_is_number : Stmt := topS 11
theorem sc_is_number : FnScope ["thing", "low", "high"] ["thing", "low", "high"] (defScope s_is_number) := ⟨rfl, rfl, rfl, by decide +kernel, rfl, by decide +kernel, by decide +kernel⟩
abbrev s_nodes_of : Stmt := topS 14
theorem sc_nodes_of : FnScope ["root", "out", "waiting", "node"] ["root"] (defScope s_nodes_of) := ⟨rfl, rfl, rfl, by decide +kernel, rfl, by decide +kernel, by decide +kernel⟩
abbrev s_order_of : Stmt := topS 15
theorem sc_order_of : FnScope ["root", "piece"] ["root"] (defScope s_order_of) := ⟨rfl, rfl, rfl, by decide +kernel, rfl, by decide +kernel, by decide +kernel⟩
abbrev s_Page_init : Stmt := inClass (topS 16) 0
theorem sc_Page_init : FnScope ["self", "root", "nodes", "above", "order", "node", "below"] ["self", "root"] (defScope s_Page_init) := ⟨rfl, rfl, rfl, by decide +kernel, rfl, by decide +kernel, by decide +kernel⟩
abbrev s_Page_top : Stmt := inClass (topS 16) 1
theorem sc_Page_top : FnScope ["self"] ["self"] (defScope s_Page_top) := ⟨rfl, rfl, rfl, by decide +kernel, rfl, by decide +kernel, by decide +kernel⟩
abbrev s_Page_getitem : Stmt := inClass (topS 16) 3
theorem sc_Page_getitem : FnScope ["self", "mark"] ["self", "mark"] (defScope s_Page_getitem) := ⟨rfl, rfl, rfl, by decide +kernel, rfl, by decide +kernel, by decide +kernel⟩
abbrev s_Page_contains : Stmt := inClass (topS 16) 4
theorem sc_Page_contains : FnScope ["self", "mark"] ["self", "mark"] (defScope s_Page_contains) := ⟨rfl, rfl, rfl, by decide +kernel, rfl, by decide +kernel, by decide +kernel⟩
abbrev s_Page_iter : Stmt := inClass (topS 16) 5
theorem sc_Page_iter : FnScope ["self"] ["self"] (defScope s_Page_iter) := ⟨rfl, rfl, rfl, by decide +kernel, rfl, by decide +kernel, by decide +kernel⟩
abbrev s_Page_eq : Stmt := inClass (topS 16) 6
theorem sc_Page_eq : FnScope ["self", "other"] ["self", "other"] (defScope s_Page_eq) := ⟨rfl, rfl, rfl, by decide +kernel, rfl, by decide +kernel, by decide +kernel⟩
abbrev s_Page_parent : Stmt := inClass (topS 16) 7
theorem sc_Page_parent : FnScope ["self", "mark"] ["self", "mark"] (defScope s_Page_parent) := ⟨rfl, rfl, rfl, by decide +kernel, rfl, by decide +kernel, by decide +kernel⟩
abbrev s_check_patch : Stmt := topS 20
theorem sc_check_patch : FnScope ["patch"] ["patch"] (defScope s_check_patch) := ⟨rfl, rfl, rfl, by decide +kernel, rfl, by decide +kernel, by decide +kernel⟩
abbrev s_path_to : Stmt := topS 21
theorem sc_path_to : FnScope ["root", "mark", "waiting", "node", "path", "k"] ["root", "mark"] (defScope s_path_to) := ⟨rfl, rfl, rfl, by decide +kernel, rfl, by decide +kernel, by decide +kernel⟩
abbrev s_node_on : Stmt := topS 22
theorem sc_node_on : FnScope ["root", "path", "node", "k"] ["root", "path"] (defScope s_node_on) := ⟨rfl, rfl, rfl, by decide +kernel, rfl, by decide +kernel, by decide +kernel⟩
abbrev s_with_node : Stmt := topS 23
theorem sc_with_node : FnScope ["root", "path", "node", "line", "k", "grown", "depth", "upper"] ["root", "path", "node"] (defScope s_with_node) := ⟨rfl, rfl, rfl, by decide +kernel, rfl, by decide +kernel, by decide +kernel⟩
abbrev s_with_children : Stmt := topS 24
theorem sc_with_children : FnScope ["root", "path", "children", "node"] ["root", "path", "children"] (defScope s_with_children) := ⟨rfl, rfl, rfl, by decide +kernel, rfl, by decide +kernel, by decide +kernel⟩
abbrev s_check_marks : Stmt := topS 25
theorem sc_check_marks : FnScope ["root", "node", "known", "mark"] ["root", "node"] (defScope s_check_marks) := ⟨rfl, rfl, rfl, by decide +kernel, rfl, by decide +kernel, by decide +kernel⟩
abbrev s_check_at : Stmt := topS 26
theorem sc_check_at : FnScope ["at", "count"] ["at", "count"] (defScope s_check_at) := ⟨rfl, rfl, rfl, by decide +kernel, rfl, by decide +kernel, by decide +kernel⟩
abbrev s_with_put : Stmt := topS 27
theorem sc_with_put : FnScope ["root", "path", "patch", "children", "at"] ["root", "path", "patch"] (defScope s_with_put) := ⟨rfl, rfl, rfl, by decide +kernel, rfl, by decide +kernel, by decide +kernel⟩
abbrev s_with_say : Stmt := topS 28
theorem sc_with_say : FnScope ["root", "path", "patch", "node"] ["root", "path", "patch"] (defScope s_with_say) := ⟨rfl, rfl, rfl, by decide +kernel, rfl, by decide +kernel, by decide +kernel⟩
abbrev s_with_drop : Stmt := topS 29
theorem sc_with_drop : FnScope ["root", "path", "upper", "k", "back"] ["root", "path"] (defScope s_with_drop) := ⟨rfl, rfl, rfl, by decide +kernel, rfl, by decide +kernel, by decide +kernel⟩
abbrev s_with_move : Stmt := topS 30
theorem sc_with_move : FnScope ["root", "path", "patch", "children", "k", "others", "at"] ["root", "path", "patch"] (defScope s_with_move) := ⟨rfl, rfl, rfl, by decide +kernel, rfl, by decide +kernel, by decide +kernel⟩
abbrev s_root_after : Stmt := topS 31
theorem sc_root_after : FnScope ["root", "patch", "path"] ["root", "patch"] (defScope s_root_after) := ⟨rfl, rfl, rfl, by decide +kernel, rfl, by decide +kernel, by decide +kernel⟩
abbrev s_Patches_init : Stmt := inClass (topS 32) 0
theorem sc_Patches_init : FnScope ["self", "page", "rows", "root", "undone", "patch", "back"] ["self", "page", "rows"] (defScope s_Patches_init) := ⟨rfl, rfl, rfl, by decide +kernel, rfl, by decide +kernel, by decide +kernel⟩
abbrev s_Patches_page : Stmt := inClass (topS 32) 1
theorem sc_Patches_page : FnScope ["self"] ["self"] (defScope s_Patches_page) := ⟨rfl, rfl, rfl, by decide +kernel, rfl, by decide +kernel, by decide +kernel⟩
abbrev s_Patches_end : Stmt := inClass (topS 32) 2
theorem sc_Patches_end : FnScope ["self"] ["self"] (defScope s_Patches_end) := ⟨rfl, rfl, rfl, by decide +kernel, rfl, by decide +kernel, by decide +kernel⟩
abbrev s_Patches_iter : Stmt := inClass (topS 32) 4
theorem sc_Patches_iter : FnScope ["self"] ["self"] (defScope s_Patches_iter) := ⟨rfl, rfl, rfl, by decide +kernel, rfl, by decide +kernel, by decide +kernel⟩
abbrev s_check_roots : Stmt := topS 33
theorem sc_check_roots : FnScope ["old", "new"] ["old", "new"] (defScope s_check_roots) := ⟨rfl, rfl, rfl, by decide +kernel, rfl, by decide +kernel, by decide +kernel⟩
abbrev s_staying : Stmt := topS 34
theorem sc_staying : FnScope ["old", "new", "stays", "mark", "upper"] ["old", "new"] (defScope s_staying) := ⟨rfl, rfl, rfl, by decide +kernel, rfl, by decide +kernel, by decide +kernel⟩
abbrev s_longest_run : Stmt := topS 35
theorem sc_longest_run : FnScope ["numbers", "lengths", "earlier", "last", "k", "length", "came", "j", "run"] ["numbers"] (defScope s_longest_run) := ⟨rfl, rfl, rfl, by decide +kernel, rfl, by decide +kernel, by decide +kernel⟩
abbrev s_moves_between : Stmt := topS 36
theorem sc_moves_between : FnScope ["now", "wanted", "kept", "rows", "order", "k", "at", "mark"] ["now", "wanted"] (defScope s_moves_between) := ⟨rfl, rfl, rfl, by decide +kernel, rfl, by decide +kernel, by decide +kernel⟩
abbrev s_between : Stmt := topS 37
theorem sc_between : FnScope ["old", "new", "stays", "mark", "rows", "now", "wanted", "at", "below"] ["old", "new"] (defScope s_between) := ⟨rfl, rfl, rfl, by decide +kernel, rfl, by decide +kernel, by decide +kernel⟩
abbrev s_mixed : Stmt := topS 39
theorem sc_mixed : FnScope ["_law_number_here", "_law_turn", "_law_first", "_law_second"] ["_law_number_here", "_law_turn"] (defScope s_mixed) := ⟨rfl, rfl, rfl, by decide +kernel, rfl, by decide +kernel, by decide +kernel⟩
abbrev s_bag : Stmt := topS 40
theorem sc_bag : FnScope ["_law_script", "_law_cell", "_law_numbers", "_law_seed", "_law_at"] ["_law_script"] (defScope s_bag) := ⟨rfl, rfl, rfl, by decide +kernel, rfl, by decide +kernel, by decide +kernel⟩
abbrev s_pick : Stmt := topS 41
theorem sc_pick : FnScope ["_law_bag_here", "_law_many", "_law_turn", "_law_cell", "_law_worth"] ["_law_bag_here", "_law_many"] (defScope s_pick) := ⟨rfl, rfl, rfl, by decide +kernel, rfl, by decide +kernel, by decide +kernel⟩
abbrev s_mingled : Stmt := topS 43
theorem sc_mingled : FnScope ["_law_bag_here", "_law_things", "_law_left", "_law_out", "_law_step"] ["_law_bag_here", "_law_things"] (defScope s_mingled) := ⟨rfl, rfl, rfl, by decide +kernel, rfl, by decide +kernel, by decide +kernel⟩
abbrev s_sorted : Stmt := topS 44
theorem sc_sorted : FnScope ["_law_things", "_law_out", "_law_thing", "_law_at"] ["_law_things"] (defScope s_sorted) := ⟨rfl, rfl, rfl, by decide +kernel, rfl, by decide +kernel, by decide +kernel⟩
abbrev s_number : Stmt := topS 45
theorem sc_number : FnScope ["_law_thing"] ["_law_thing"] (defScope s_number) := ⟨rfl, rfl, rfl, by decide +kernel, rfl, by decide +kernel, by decide +kernel⟩
abbrev s_sign : Stmt := topS 46
theorem sc_sign : FnScope ["_law_number_here", "_law_signs"] ["_law_number_here"] (defScope s_sign) := ⟨rfl, rfl, rfl, by decide +kernel, rfl, by decide +kernel, by decide +kernel⟩
abbrev s_marks : Stmt := topS 47
theorem sc_marks : FnScope ["_law_bag_here", "_law_count", "_law_fill", "_law_way", "_law_at", "_law_shift", "_law_told", "_law_step", "_law_k"] ["_law_bag_here", "_law_count"] (defScope s_marks) := ⟨rfl, rfl, rfl, by decide +kernel, rfl, by decide +kernel, by decide +kernel⟩
abbrev s_label : Stmt := topS 48
theorem sc_label : FnScope ["_law_bag_here", "_law_way", "_law_step"] ["_law_bag_here"] (defScope s_label) := ⟨rfl, rfl, rfl, by decide +kernel, rfl, by decide +kernel, by decide +kernel⟩
abbrev s_parents : Stmt := topS 49
theorem sc_parents : FnScope ["_law_bag_here", "_law_count", "_law_way", "_law_out", "_law_levels", "_law_k", "_law_above"] ["_law_bag_here", "_law_count"] (defScope s_parents) := ⟨rfl, rfl, rfl, by decide +kernel, rfl, by decide +kernel, by decide +kernel⟩
abbrev s_moved_parents : Stmt := topS 50
theorem sc_moved_parents : FnScope ["_law_bag_here", "_law_parents_here", "_law_out", "_law_k", "_law_sought", "_law_line", "_law_step"] ["_law_bag_here", "_law_parents_here"] (defScope s_moved_parents) := ⟨rfl, rfl, rfl, by decide +kernel, rfl, by decide +kernel, by decide +kernel⟩
abbrev s_ranks : Stmt := topS 51
theorem sc_ranks : FnScope ["_law_bag_here", "_law_many", "_law_way", "_law_out", "_law_step", "_law_k"] ["_law_bag_here", "_law_many"] (defScope s_ranks) := ⟨rfl, rfl, rfl, by decide +kernel, rfl, by decide +kernel, by decide +kernel⟩
abbrev s_grown : Stmt := topS 52
theorem sc_grown : FnScope ["_law_k", "_law_marks_here", "_law_labels", "_law_above", "_law_ranks_here", "_law_below", "_law_j", "_law_rank"] ["_law_k", "_law_marks_here", "_law_labels", "_law_above", "_law_ranks_here"] (defScope s_grown) := ⟨rfl, rfl, rfl, by decide +kernel, rfl, by decide +kernel, by decide +kernel⟩
abbrev s_standing : Stmt := topS 53
theorem sc_standing : FnScope ["_law_bag_here", "_law_parents_here", "_law_k", "_law_there", "_law_out", "_law_above"] ["_law_bag_here", "_law_parents_here"] (defScope s_standing) := ⟨rfl, rfl, rfl, by decide +kernel, rfl, by decide +kernel, by decide +kernel⟩
abbrev s_pair : Stmt := topS 54
theorem sc_pair : FnScope ["_law_bag_here", "_law_many", "_law_marks_here", "_law_labels", "_law_parents_here", "_law_ranks_here", "_law_old", "_law_mark", "_law_label_here"] ["_law_bag_here", "_law_many"] (defScope s_pair) := ⟨rfl, rfl, rfl, by decide +kernel, rfl, by decide +kernel, by decide +kernel⟩
abbrev s_table : Stmt := topS 55
theorem sc_table : FnScope ["_law_root", "_law_out", "_law_waiting", "_law_node_here", "_law_above", "_law_at", "_law_level", "_law_k"] ["_law_root"] (defScope s_table) := ⟨rfl, rfl, rfl, by decide +kernel, rfl, by decide +kernel, by decide +kernel⟩
abbrev s_node : Stmt := topS 56
theorem sc_node : FnScope ["_law_root", "_law_mark", "_law_row"] ["_law_root", "_law_mark"] (defScope s_node) := ⟨rfl, rfl, rfl, by decide +kernel, rfl, by decide +kernel, by decide +kernel⟩
abbrev s_marked : Stmt := topS 57
theorem sc_marked : FnScope ["_law_root", "_law_row"] ["_law_root"] (defScope s_marked) := ⟨rfl, rfl, rfl, by decide +kernel, rfl, by decide +kernel, by decide +kernel⟩
abbrev s_after : Stmt := topS 58
theorem sc_after : FnScope ["_law_node_here", "_law_patch", "_law_below", "_law_label_here", "_law_k", "_law_moved", "_law_child"] ["_law_node_here", "_law_patch"] (defScope s_after) := ⟨rfl, rfl, rfl, by decide +kernel, rfl, by decide +kernel, by decide +kernel⟩
abbrev s_due : Stmt := topS 59
theorem sc_due : FnScope ["_law_root", "_law_patch", "_law_rows", "_law_found", "_law_node_here", "_law_above", "_law_at", "_law_level", "_law_most", "_law_known", "_law_mark", "_law_row"] ["_law_root", "_law_patch"] (defScope s_due) := ⟨rfl, rfl, rfl, by decide +kernel, rfl, by decide +kernel, by decide +kernel⟩
abbrev s_stays : Stmt := topS 60
theorem sc_stays : FnScope ["_law_old", "_law_new", "_law_beneath", "_law_node_here", "_law_above", "_law_at", "_law_level", "_law_out"] ["_law_old", "_law_new"] (defScope s_stays) := ⟨rfl, rfl, rfl, by decide +kernel, rfl, by decide +kernel, by decide +kernel⟩
abbrev s_sound : Stmt := topS 61
theorem sc_sound : FnScope ["_law_patch", "_law_brought"] ["_law_patch", "_law_brought"] (defScope s_sound) := ⟨rfl, rfl, rfl, by decide +kernel, rfl, by decide +kernel, by decide +kernel⟩
abbrev s_leads : Stmt := topS 62
theorem sc_leads : FnScope ["_law_old", "_law_new", "_law_rows", "_law_stays_here", "_law_brought", "_law_root", "_law_patch", "_law_row", "_law_mark"] ["_law_old", "_law_new", "_law_rows"] (defScope s_leads) := ⟨rfl, rfl, rfl, by decide +kernel, rfl, by decide +kernel, by decide +kernel⟩
abbrev s_refused : Stmt := topS 63
theorem sc_refused : FnScope ["_law_old", "_law_new", "_law_way", "_law_told", "e"] ["_law_old", "_law_new", "_law_way"] (defScope s_refused) := ⟨rfl, rfl, rfl, by decide +kernel, rfl, by decide +kernel, by decide +kernel⟩
abbrev s_law : Stmt := topS 64
theorem sc_law : FnScope ["_law_script", "_law_bag_here", "_law_many", "_law_old", "_law_new", "_law_trees", "_law_pages", "_law_i", "_law_j", "_law_row", "_law_tree", "_law_page"] ["_law_script"] (defScope s_law) := ⟨rfl, rfl, rfl, by decide +kernel, rfl, by decide +kernel, by decide +kernel⟩
abbrev s_NoNode_init : Stmt := inClass (topS 6) 0
abbrev s_TwiceMarked_init : Stmt := inClass (topS 5) 0
abbrev s_TooMany_init : Stmt := inClass (topS 3) 0
abbrev s_NotOnePage_init : Stmt := inClass (topS 9) 0
/-- what the top leaves -/
structure Top (K : PySem.W.Frag) (mg : Str → Option Value) (W : World) where
  m_ValueError : mg "ValueError" = none
  m_abs : mg "abs" = none
  m_bool : mg "bool" = none
  m_enumerate : mg "enumerate" = none
  m_int : mg "int" = none
  m_isinstance : mg "isinstance" = none
  m_iter : mg "iter" = none
  m_len : mg "len" = none
  m_list : mg "list" = none
  m_range : mg "range" = none
  m_str : mg "str" = none
  m_tuple : mg "tuple" = none
  v_MOST_NODES : ∃ t, mg "MOST_NODES" = some (.int 400 t)
  a_is_number : Addr
  d_is_number : FuncData
  F_is_number : Fun K "is_number" "is_number" s_is_number a_is_number d_is_number
  b_is_number : Binds K d_is_number ["thing", "low", "high"] []
  g_is_number : mg "is_number" = some (.ref a_is_number)
  a_nodes_of : Addr
  d_nodes_of : FuncData
  F_nodes_of : Fun K "nodes_of" "nodes_of" s_nodes_of a_nodes_of d_nodes_of
  b_nodes_of : Binds K d_nodes_of ["root"] []
  g_nodes_of : mg "nodes_of" = some (.ref a_nodes_of)
  a_order_of : Addr
  d_order_of : FuncData
  F_order_of : Fun K "order_of" "order_of" s_order_of a_order_of d_order_of
  b_order_of : Binds K d_order_of ["root"] []
  g_order_of : mg "order_of" = some (.ref a_order_of)
  a_Page_init : Addr
  d_Page_init : FuncData
  F_Page_init : Fun K "__init__" "Page.__init__" s_Page_init a_Page_init d_Page_init
  b_Page_init : Binds K d_Page_init ["self", "root"] []
  a_Page_top : Addr
  d_Page_top : FuncData
  F_Page_top : Fun K "top" "Page.top" s_Page_top a_Page_top d_Page_top
  b_Page_top : Binds K d_Page_top ["self"] []
  a_Page_getitem : Addr
  d_Page_getitem : FuncData
  F_Page_getitem : Fun K "__getitem__" "Page.__getitem__" s_Page_getitem a_Page_getitem d_Page_getitem
  b_Page_getitem : Binds K d_Page_getitem ["self", "mark"] []
  a_Page_contains : Addr
  d_Page_contains : FuncData
  F_Page_contains : Fun K "__contains__" "Page.__contains__" s_Page_contains a_Page_contains d_Page_contains
  b_Page_contains : Binds K d_Page_contains ["self", "mark"] []
  a_Page_iter : Addr
  d_Page_iter : FuncData
  F_Page_iter : Fun K "__iter__" "Page.__iter__" s_Page_iter a_Page_iter d_Page_iter
  b_Page_iter : Binds K d_Page_iter ["self"] []
  a_Page_eq : Addr
  d_Page_eq : FuncData
  F_Page_eq : Fun K "__eq__" "Page.__eq__" s_Page_eq a_Page_eq d_Page_eq
  b_Page_eq : Binds K d_Page_eq ["self", "other"] []
  a_Page_parent : Addr
  d_Page_parent : FuncData
  F_Page_parent : Fun K "parent" "Page.parent" s_Page_parent a_Page_parent d_Page_parent
  b_Page_parent : Binds K d_Page_parent ["self", "mark"] []
  a_check_patch : Addr
  d_check_patch : FuncData
  F_check_patch : Fun K "check_patch" "check_patch" s_check_patch a_check_patch d_check_patch
  b_check_patch : Binds K d_check_patch ["patch"] []
  g_check_patch : mg "check_patch" = some (.ref a_check_patch)
  a_path_to : Addr
  d_path_to : FuncData
  F_path_to : Fun K "path_to" "path_to" s_path_to a_path_to d_path_to
  b_path_to : Binds K d_path_to ["root", "mark"] []
  g_path_to : mg "path_to" = some (.ref a_path_to)
  a_node_on : Addr
  d_node_on : FuncData
  F_node_on : Fun K "node_on" "node_on" s_node_on a_node_on d_node_on
  b_node_on : Binds K d_node_on ["root", "path"] []
  g_node_on : mg "node_on" = some (.ref a_node_on)
  a_with_node : Addr
  d_with_node : FuncData
  F_with_node : Fun K "with_node" "with_node" s_with_node a_with_node d_with_node
  b_with_node : Binds K d_with_node ["root", "path", "node"] []
  g_with_node : mg "with_node" = some (.ref a_with_node)
  a_with_children : Addr
  d_with_children : FuncData
  F_with_children : Fun K "with_children" "with_children" s_with_children a_with_children d_with_children
  b_with_children : Binds K d_with_children ["root", "path", "children"] []
  g_with_children : mg "with_children" = some (.ref a_with_children)
  a_check_marks : Addr
  d_check_marks : FuncData
  F_check_marks : Fun K "check_marks" "check_marks" s_check_marks a_check_marks d_check_marks
  b_check_marks : Binds K d_check_marks ["root", "node"] []
  g_check_marks : mg "check_marks" = some (.ref a_check_marks)
  a_check_at : Addr
  d_check_at : FuncData
  F_check_at : Fun K "check_at" "check_at" s_check_at a_check_at d_check_at
  b_check_at : Binds K d_check_at ["at", "count"] []
  g_check_at : mg "check_at" = some (.ref a_check_at)
  a_with_put : Addr
  d_with_put : FuncData
  F_with_put : Fun K "with_put" "with_put" s_with_put a_with_put d_with_put
  b_with_put : Binds K d_with_put ["root", "path", "patch"] []
  g_with_put : mg "with_put" = some (.ref a_with_put)
  a_with_say : Addr
  d_with_say : FuncData
  F_with_say : Fun K "with_say" "with_say" s_with_say a_with_say d_with_say
  b_with_say : Binds K d_with_say ["root", "path", "patch"] []
  g_with_say : mg "with_say" = some (.ref a_with_say)
  a_with_drop : Addr
  d_with_drop : FuncData
  F_with_drop : Fun K "with_drop" "with_drop" s_with_drop a_with_drop d_with_drop
  b_with_drop : Binds K d_with_drop ["root", "path"] []
  g_with_drop : mg "with_drop" = some (.ref a_with_drop)
  a_with_move : Addr
  d_with_move : FuncData
  F_with_move : Fun K "with_move" "with_move" s_with_move a_with_move d_with_move
  b_with_move : Binds K d_with_move ["root", "path", "patch"] []
  g_with_move : mg "with_move" = some (.ref a_with_move)
  a_root_after : Addr
  d_root_after : FuncData
  F_root_after : Fun K "root_after" "root_after" s_root_after a_root_after d_root_after
  b_root_after : Binds K d_root_after ["root", "patch"] []
  g_root_after : mg "root_after" = some (.ref a_root_after)
  a_Patches_init : Addr
  d_Patches_init : FuncData
  F_Patches_init : Fun K "__init__" "Patches.__init__" s_Patches_init a_Patches_init d_Patches_init
  b_Patches_init : Binds K d_Patches_init ["self", "page", "rows"] []
  a_Patches_page : Addr
  d_Patches_page : FuncData
  F_Patches_page : Fun K "page" "Patches.page" s_Patches_page a_Patches_page d_Patches_page
  b_Patches_page : Binds K d_Patches_page ["self"] []
  a_Patches_end : Addr
  d_Patches_end : FuncData
  F_Patches_end : Fun K "end" "Patches.end" s_Patches_end a_Patches_end d_Patches_end
  b_Patches_end : Binds K d_Patches_end ["self"] []
  a_Patches_iter : Addr
  d_Patches_iter : FuncData
  F_Patches_iter : Fun K "__iter__" "Patches.__iter__" s_Patches_iter a_Patches_iter d_Patches_iter
  b_Patches_iter : Binds K d_Patches_iter ["self"] []
  a_check_roots : Addr
  d_check_roots : FuncData
  F_check_roots : Fun K "check_roots" "check_roots" s_check_roots a_check_roots d_check_roots
  b_check_roots : Binds K d_check_roots ["old", "new"] []
  g_check_roots : mg "check_roots" = some (.ref a_check_roots)
  a_staying : Addr
  d_staying : FuncData
  F_staying : Fun K "staying" "staying" s_staying a_staying d_staying
  b_staying : Binds K d_staying ["old", "new"] []
  g_staying : mg "staying" = some (.ref a_staying)
  a_longest_run : Addr
  d_longest_run : FuncData
  F_longest_run : Fun K "longest_run" "longest_run" s_longest_run a_longest_run d_longest_run
  b_longest_run : Binds K d_longest_run ["numbers"] []
  g_longest_run : mg "longest_run" = some (.ref a_longest_run)
  a_moves_between : Addr
  d_moves_between : FuncData
  F_moves_between : Fun K "moves_between" "moves_between" s_moves_between a_moves_between d_moves_between
  b_moves_between : Binds K d_moves_between ["now", "wanted"] []
  g_moves_between : mg "moves_between" = some (.ref a_moves_between)
  a_between : Addr
  d_between : FuncData
  F_between : Fun K "between" "between" s_between a_between d_between
  b_between : Binds K d_between ["old", "new"] []
  g_between : mg "between" = some (.ref a_between)
  a_mixed : Addr
  d_mixed : FuncData
  F_mixed : Fun K "_law_mixed" "_law_mixed" s_mixed a_mixed d_mixed
  b_mixed : Binds K d_mixed ["_law_number_here", "_law_turn"] []
  g_mixed : mg "_law_mixed" = some (.ref a_mixed)
  a_bag : Addr
  d_bag : FuncData
  F_bag : Fun K "_law_bag" "_law_bag" s_bag a_bag d_bag
  b_bag : Binds K d_bag ["_law_script"] []
  g_bag : mg "_law_bag" = some (.ref a_bag)
  a_pick : Addr
  d_pick : FuncData
  F_pick : Fun K "_law_pick" "_law_pick" s_pick a_pick d_pick
  b_pick : Binds K d_pick ["_law_bag_here", "_law_many"] []
  g_pick : mg "_law_pick" = some (.ref a_pick)
  a_mingled : Addr
  d_mingled : FuncData
  F_mingled : Fun K "_law_mingled" "_law_mingled" s_mingled a_mingled d_mingled
  b_mingled : Binds K d_mingled ["_law_bag_here", "_law_things"] []
  g_mingled : mg "_law_mingled" = some (.ref a_mingled)
  a_sorted : Addr
  d_sorted : FuncData
  F_sorted : Fun K "_law_sorted" "_law_sorted" s_sorted a_sorted d_sorted
  b_sorted : Binds K d_sorted ["_law_things"] []
  g_sorted : mg "_law_sorted" = some (.ref a_sorted)
  a_number : Addr
  d_number : FuncData
  F_number : Fun K "_law_number" "_law_number" s_number a_number d_number
  b_number : Binds K d_number ["_law_thing"] []
  g_number : mg "_law_number" = some (.ref a_number)
  a_sign : Addr
  d_sign : FuncData
  F_sign : Fun K "_law_sign" "_law_sign" s_sign a_sign d_sign
  b_sign : Binds K d_sign ["_law_number_here"] []
  g_sign : mg "_law_sign" = some (.ref a_sign)
  a_marks : Addr
  d_marks : FuncData
  F_marks : Fun K "_law_marks" "_law_marks" s_marks a_marks d_marks
  b_marks : Binds K d_marks ["_law_bag_here", "_law_count"] []
  g_marks : mg "_law_marks" = some (.ref a_marks)
  a_label : Addr
  d_label : FuncData
  F_label : Fun K "_law_label" "_law_label" s_label a_label d_label
  b_label : Binds K d_label ["_law_bag_here"] []
  g_label : mg "_law_label" = some (.ref a_label)
  a_parents : Addr
  d_parents : FuncData
  F_parents : Fun K "_law_parents" "_law_parents" s_parents a_parents d_parents
  b_parents : Binds K d_parents ["_law_bag_here", "_law_count"] []
  g_parents : mg "_law_parents" = some (.ref a_parents)
  a_moved_parents : Addr
  d_moved_parents : FuncData
  F_moved_parents : Fun K "_law_moved_parents" "_law_moved_parents" s_moved_parents a_moved_parents d_moved_parents
  b_moved_parents : Binds K d_moved_parents ["_law_bag_here", "_law_parents_here"] []
  g_moved_parents : mg "_law_moved_parents" = some (.ref a_moved_parents)
  a_ranks : Addr
  d_ranks : FuncData
  F_ranks : Fun K "_law_ranks" "_law_ranks" s_ranks a_ranks d_ranks
  b_ranks : Binds K d_ranks ["_law_bag_here", "_law_many"] []
  g_ranks : mg "_law_ranks" = some (.ref a_ranks)
  a_grown : Addr
  d_grown : FuncData
  F_grown : Fun K "_law_grown" "_law_grown" s_grown a_grown d_grown
  b_grown : Binds K d_grown ["_law_k", "_law_marks_here", "_law_labels", "_law_above", "_law_ranks_here"] []
  g_grown : mg "_law_grown" = some (.ref a_grown)
  a_standing : Addr
  d_standing : FuncData
  F_standing : Fun K "_law_standing" "_law_standing" s_standing a_standing d_standing
  b_standing : Binds K d_standing ["_law_bag_here", "_law_parents_here"] []
  g_standing : mg "_law_standing" = some (.ref a_standing)
  a_pair : Addr
  d_pair : FuncData
  F_pair : Fun K "_law_pair" "_law_pair" s_pair a_pair d_pair
  b_pair : Binds K d_pair ["_law_bag_here", "_law_many"] []
  g_pair : mg "_law_pair" = some (.ref a_pair)
  a_table : Addr
  d_table : FuncData
  F_table : Fun K "_law_table" "_law_table" s_table a_table d_table
  b_table : Binds K d_table ["_law_root"] []
  g_table : mg "_law_table" = some (.ref a_table)
  a_node : Addr
  d_node : FuncData
  F_node : Fun K "_law_node" "_law_node" s_node a_node d_node
  b_node : Binds K d_node ["_law_root", "_law_mark"] []
  g_node : mg "_law_node" = some (.ref a_node)
  a_marked : Addr
  d_marked : FuncData
  F_marked : Fun K "_law_marked" "_law_marked" s_marked a_marked d_marked
  b_marked : Binds K d_marked ["_law_root"] []
  g_marked : mg "_law_marked" = some (.ref a_marked)
  a_after : Addr
  d_after : FuncData
  F_after : Fun K "_law_after" "_law_after" s_after a_after d_after
  b_after : Binds K d_after ["_law_node_here", "_law_patch"] []
  g_after : mg "_law_after" = some (.ref a_after)
  a_due : Addr
  d_due : FuncData
  F_due : Fun K "_law_due" "_law_due" s_due a_due d_due
  b_due : Binds K d_due ["_law_root", "_law_patch"] []
  g_due : mg "_law_due" = some (.ref a_due)
  a_stays : Addr
  d_stays : FuncData
  F_stays : Fun K "_law_stays" "_law_stays" s_stays a_stays d_stays
  b_stays : Binds K d_stays ["_law_old", "_law_new"] []
  g_stays : mg "_law_stays" = some (.ref a_stays)
  a_sound : Addr
  d_sound : FuncData
  F_sound : Fun K "_law_sound" "_law_sound" s_sound a_sound d_sound
  b_sound : Binds K d_sound ["_law_patch", "_law_brought"] []
  g_sound : mg "_law_sound" = some (.ref a_sound)
  a_leads : Addr
  d_leads : FuncData
  F_leads : Fun K "_law_leads" "_law_leads" s_leads a_leads d_leads
  b_leads : Binds K d_leads ["_law_old", "_law_new", "_law_rows"] []
  g_leads : mg "_law_leads" = some (.ref a_leads)
  a_refused : Addr
  d_refused : FuncData
  F_refused : Fun K "_law_refused" "_law_refused" s_refused a_refused d_refused
  b_refused : Binds K d_refused ["_law_old", "_law_new", "_law_way"] []
  g_refused : mg "_law_refused" = some (.ref a_refused)
  a_law : Addr
  d_law : FuncData
  F_law : Fun K "law" "law" s_law a_law d_law
  b_law : Binds K d_law ["_law_script"] []
  g_law : mg "law" = some (.ref a_law)
  U_WORDS : Addr
  g_WORDS : mg "WORDS" = some (.ref U_WORDS)
  sq_WORDS : ∀ H, SqT K H U_WORDS [V.str "drop", V.str "put", V.str "move", V.str "say"]
  wt_WORDS : ∃ o, K.lookup U_WORDS = some o ∧ o.cls = .type "tuple" ∧ o.dict = none
  U_LENGTHS : Addr
  g_LENGTHS : mg "LENGTHS" = some (.ref U_LENGTHS)
  sq_LENGTHS : ∀ H, SqT K H U_LENGTHS [V.int 2, V.int 4, V.int 3, V.int 3]
  wt_LENGTHS : ∃ o, K.lookup U_LENGTHS = some o ∧ o.cls = .type "tuple" ∧ o.dict = none
  C_Page : Addr
  g_Page : mg "Page" = some (.ref C_Page)
  cl_Page : Cls K C_Page
  na_Page_tree : NoAttr K C_Page "tree"
  na_Page_nodes : NoAttr K C_Page "nodes"
  na_Page_above : NoAttr K C_Page "above"
  na_Page_order : NoAttr K C_Page "order"
  mk_Page : Mk K C_Page a_Page_init
  sp_Page_getitem : PySem.W.findIn K (.ref C_Page) "__getitem__" = some (some (.ref a_Page_getitem)) ∧ PySem.W.isFn K (.ref a_Page_getitem) = true ∧ PySem.W.fnIn K a_Page_getitem = true
  sp_Page_contains : PySem.W.findIn K (.ref C_Page) "__contains__" = some (some (.ref a_Page_contains)) ∧ PySem.W.isFn K (.ref a_Page_contains) = true
  sp_Page_iter : PySem.W.findIn K (.ref C_Page) "__iter__" = some (some (.ref a_Page_iter)) ∧ PySem.W.isFn K (.ref a_Page_iter) = true
  sp_Page_eq : PySem.W.findIn K (.ref C_Page) "__eq__" = some (some (.ref a_Page_eq)) ∧ PySem.W.isFn K (.ref a_Page_eq) = true
  me_Page_parent : Meth K C_Page "parent" a_Page_parent
  p_Page_top : Addr
  pr_Page_top : PropOf K C_Page "top" p_Page_top a_Page_top
  ty_Page : PySem.W.findIn K (.ref C_Page) "__class__" = some (some (.builtin "object.__class__")) ∧ PySem.W.specialIn K (.builtin "object.__class__") "__get__" = some (some (.builtin "getset_descriptor.__get__")) ∧ PySem.W.takesIn K (.builtin "object.__class__") = some true ∧ PySem.W.mroIn K C_Page (.type "object") = some true ∧ PySem.W.kitOne K (.ref C_Page) (.ref C_Page) = some true
  C_Patches : Addr
  g_Patches : mg "Patches" = some (.ref C_Patches)
  cl_Patches : Cls K C_Patches
  na_Patches_first_page : NoAttr K C_Patches "first_page"
  na_Patches_last_page : NoAttr K C_Patches "last_page"
  na_Patches_rows : NoAttr K C_Patches "rows"
  na_Patches_undone : NoAttr K C_Patches "undone"
  mk_Patches : Mk K C_Patches a_Patches_init
  sp_Patches_iter : PySem.W.findIn K (.ref C_Patches) "__iter__" = some (some (.ref a_Patches_iter)) ∧ PySem.W.isFn K (.ref a_Patches_iter) = true
  p_Patches_page : Addr
  pr_Patches_page : PropOf K C_Patches "page" p_Patches_page a_Patches_page
  p_Patches_end : Addr
  pr_Patches_end : PropOf K C_Patches "end" p_Patches_end a_Patches_end
  ty_Patches : PySem.W.findIn K (.ref C_Patches) "__class__" = some (some (.builtin "object.__class__")) ∧ PySem.W.specialIn K (.builtin "object.__class__") "__get__" = some (some (.builtin "getset_descriptor.__get__")) ∧ PySem.W.takesIn K (.builtin "object.__class__") = some true ∧ PySem.W.mroIn K C_Patches (.type "object") = some true ∧ PySem.W.kitOne K (.ref C_Patches) (.ref C_Patches) = some true
  x_file : Str
  C_ScreenError : Addr
  g_ScreenError : mg "ScreenError" = some (.ref C_ScreenError)
  C_BadPatch : Addr
  g_BadPatch : mg "BadPatch" = some (.ref C_BadPatch)
  C_RootStays : Addr
  g_RootStays : mg "RootStays" = some (.ref C_RootStays)
  C_NoNode : Addr
  i_NoNode : Addr
  g_NoNode : mg "NoNode" = some (.ref C_NoNode)
  x_NoNode : ∀ P : Program, PySem.XExc.PF P x_file → PySem.XExc.ExTxt P K mg "NoNode" "mark" "no node is marked " C_NoNode i_NoNode
  xc_NoNode : ExcC K C_NoNode
  xf_NoNode : XfC K C_NoNode
  em_NoNode_NoNode : PySem.W.exmOne K (.ref C_NoNode) (.ref C_NoNode) = some true
  C_TwiceMarked : Addr
  i_TwiceMarked : Addr
  g_TwiceMarked : mg "TwiceMarked" = some (.ref C_TwiceMarked)
  x_TwiceMarked : ∀ P : Program, PySem.XExc.PF P x_file → PySem.XExc.ExTxt P K mg "TwiceMarked" "mark" "two nodes are marked " C_TwiceMarked i_TwiceMarked
  xc_TwiceMarked : ExcC K C_TwiceMarked
  xf_TwiceMarked : XfC K C_TwiceMarked
  em_TwiceMarked_TwiceMarked : PySem.W.exmOne K (.ref C_TwiceMarked) (.ref C_TwiceMarked) = some true
  C_TooMany : Addr
  i_TooMany : Addr
  g_TooMany : mg "TooMany" = some (.ref C_TooMany)
  x_TooMany : ∀ P : Program, PySem.XExc.PF P x_file → PySem.XExc.ExTxt P K mg "TooMany" "count" "too many: " C_TooMany i_TooMany
  xc_TooMany : ExcC K C_TooMany
  xf_TooMany : XfC K C_TooMany
  em_TooMany_TooMany : PySem.W.exmOne K (.ref C_TooMany) (.ref C_TooMany) = some true
  C_NotOnePage : Addr
  i_NotOnePage : Addr
  g_NotOnePage : mg "NotOnePage" = some (.ref C_NotOnePage)
  x_NotOnePage : ∀ P : Program, PySem.XExc.PF P x_file → PySem.XExc.ExTxt P K mg "NotOnePage" "mark" "not the same page: " C_NotOnePage i_NotOnePage
  xc_NotOnePage : ExcC K C_NotOnePage
  xf_NotOnePage : XfC K C_NotOnePage
  ki_NotOnePage_BadPatch : PySem.W.kitOne K (.ref C_NotOnePage) (.ref C_BadPatch) = some false
  ki_NotOnePage_RootStays : PySem.W.kitOne K (.ref C_NotOnePage) (.ref C_RootStays) = some false
  ky_NotOnePage_ScreenError : PySem.W.kitOne K (.ref C_NotOnePage) (.ref C_ScreenError) = some true
  kv_NotOnePage : PySem.W.kitOne K (.ref C_NotOnePage) (.type "ValueError") = some true
  em_NotOnePage_ScreenError : PySem.W.exmOne K (.ref C_NotOnePage) (.ref C_ScreenError) = some true
  em_NotOnePage_NotOnePage : PySem.W.exmOne K (.ref C_NotOnePage) (.ref C_NotOnePage) = some true
  ki_NotOnePage_NoNode : PySem.W.kitOne K (.ref C_NotOnePage) (.ref C_NoNode) = some false
  ki_NotOnePage_TwiceMarked : PySem.W.kitOne K (.ref C_NotOnePage) (.ref C_TwiceMarked) = some false
  nl_Page : PySem.W.findIn K (.ref C_Page) "__len__" = some none
  nh_Page : PySem.W.findIn K (.ref C_Page) "__length_hint__" = some none
  nl_Patches : PySem.W.findIn K (.ref C_Patches) "__len__" = some none
  nh_Patches : PySem.W.findIn K (.ref C_Patches) "__length_hint__" = some none
/-! ### the bag -/
structure Bag (G : Hp) (o : HO) : Prop where
  ex : ∃ (n : Addr) (ns : List Int) (i g t s : Int), o = .lst [.ref n, .int i, .int g, .int t, .int s] ∧ G n = some (.lst (ns.map V.int)) ∧ 0 ≤ i ∧ 0 ≤ g
theorem Bag.same {G G' : Hp} {o : HO} (e : Same G G') (b : Bag G o) : Bag G' o := by
  obtain ⟨n, ns, i, g, t, s, h1, h2, h3⟩ := b.ex
  exact ⟨n, ns, i, g, t, s, h1, e _ _ h2, h3⟩

section
variable {P : Program} {w : World} {K : PySem.W.Frag} {mg : Str → Option Value} {base : Heap}
def spMixed : Sp := fun vs H Q _ => ∃ n t : Int, vs = [.int n, .int t] ∧ ∀ r : Int, 0 ≤ r → r < 2147483587 → Q (.int r) H
theorem ok_mixed (T : Top K mg w) {k : Nat} : FnOk P w K mg base CX0 (k + 1) T.a_mixed T.d_mixed ["_law_number_here", "_law_turn"] spMixed := by
  refine T.F_mixed.ok sc_mixed (fun vs H Q E h => ?_) (fun cdv A outer s H vs Q E hr h => ?_)
  · obtain ⟨n, t, rfl, _⟩ := h
    rfl
  · obtain ⟨n, t, rfl, q⟩ := h
    refine ⟨_, (pss_cons (ps_set (i := 2) sc_mixed.nd rfl (.inl rfl) (pe_op op_modY (pe_callTy cr_int (by rfl) T.m_int (by decide +kernel) (pa_cons (pe_op op_addY (pe_op op_mulY (pe_op op_addY (xv 0) pe_int) pe_int) (pe_op op_mulY (pe_op op_addY (xv 1) pe_int) pe_int)) pa_nil)) pe_int))
      (pss_cons (ps_set (i := 3) sc_mixed.nd rfl (.inl rfl) (pe_op op_modY (pe_callTy cr_int (by rfl) T.m_int (by decide +kernel) (pa_cons (pe_op op_addY (pe_op op_addY (pe_op op_mulY (xv 2) (xv 2)) (pe_op op_mulY (xv 2) pe_int)) (pe_op op_mulY (pe_op op_addY (xv 1) pe_int) pe_int)) pa_nil)) pe_int))
      (pss_one (ps_ret (pe_op op_modY (pe_callTy cr_int (by rfl) T.m_int (by decide +kernel) (pa_cons (pe_op op_addY (pe_op op_addY (pe_op op_divY (xv 3) pe_int) (pe_op op_mulY (xv 3) pe_int)) (xv 1)) pa_nil)) pe_int))))), ?_⟩
    refine ⟨.inr ⟨by decide, by decide⟩, .inr ⟨by decide, by decide⟩, by decide, fun f _ f0 f1 => ?_⟩
    refine ⟨.inl ⟨by omega, by omega⟩, .inr ⟨by decide, by decide⟩, .inr ⟨by decide, by decide⟩, by decide, fun g _ g0 g1 => ?_⟩
    refine ⟨⟨by decide, by decide⟩, fun d _ _ => ⟨.inr ⟨by decide, by decide⟩, by decide, fun r _ r0 r1 => ?_⟩⟩
    exact q r r0 r1

def spPick : Sp := fun vs H Q _ => ∃ (G : Hp) (M : List (Addr × HO)) (b : Addr) (o : HO) (n : Int), vs = [.ref b, .int n] ∧ Sep G ((b, o) :: M) H ∧ Bag G o ∧ 0 < n ∧ n < 1073741824 ∧
  ∀ (r : Int) (o' : HO) (H' : Hp), 0 ≤ r → r < n → Bag G o' → Sep G ((b, o') :: M) H' → Q (.int r) H'
theorem ok_pick (T : Top K mg w) {k : Nat} (G_mixed : FnOk P w K mg base CX0 (k + 1) T.a_mixed T.d_mixed ["_law_number_here", "_law_turn"] spMixed) :
    FnOk P w K mg base CX0 (k + 2) T.a_pick T.d_pick ["_law_bag_here", "_law_many"] spPick := by
  refine T.F_pick.ok sc_pick (fun vs H Q E h => ?_) (fun cdv A outer s H vs Q E hr h => ?_)
  · obtain ⟨G, M, b, o, n, rfl, _⟩ := h
    rfl
  · obtain ⟨G, M, b, o, n, rfl, S, B, n0, n1, q⟩ := h
    obtain ⟨N, ns, i, g, t, z, rfl, hN, i0, g0⟩ := B.ex
    refine ⟨_, (pss_cons (ps_set (i := 2) sc_pick.nd rfl (.inl rfl) (pe_ix (ix_k K) (xv 0) pe_int (fun _ _ => rfl)))
      (pss_cons (ps_asg (pe_op op_addY (xv 2) pe_int) (pg_sub (xv 0) pe_int set_list))
      (xss_cut (xs_if (PW.pt (xw_and (xt_cmp (op_eqLK K hr.u190) (pe_ix (ix_k K) (xv 0) pe_int (fun _ _ => rfl)) pe_int (nomark _)) (pw_and1 (xt_cmp op_ltY (pe_ix (ix_k K) (xv 0) pe_int (fun _ _ => rfl)) (pe_callB (cr_lenK K) (by rfl) T.m_len (by decide +kernel) (pa_cons (pe_ix (ix_k K) (xv 0) pe_int (fun _ _ => rfl)) pa_nil)) (nomark _)))))
      (pss_cons (ps_set (i := 3) sc_pick.nd rfl (.inl rfl) (pe_ix (ix_k K) (pe_ix (ix_k K) (xv 0) pe_int (fun _ _ => rfl)) (pe_ix (ix_k K) (xv 0) pe_int (fun _ _ => rfl)) (fun _ _ => rfl)))
      (pss_cons (ps_asg (pe_op op_addY (pe_ix (ix_k K) (xv 0) pe_int (fun _ _ => rfl)) pe_int) (pg_sub (xv 0) pe_int set_list))
      (pss_cons (xs_if (xt_cmp op_ltY (pe_callB cr_abs (by rfl) T.m_abs (by decide +kernel) (pa_cons (xv 3) pa_nil)) (pe_op op_powY pe_int pe_int) (nomark _))
      (pss_one (ps_ret (pe_op op_modY (pe_callTy cr_int (by rfl) T.m_int (by decide +kernel) (pa_cons (pe_call G_mixed (hr.mono (by omega)) (by rfl) T.g_mixed T.F_mixed.kp T.b_mixed .nil pass0 (pa_cons (pe_op op_addY (pe_op op_mulY pe_int (pe_callB cr_abs (by rfl) T.m_abs (by decide +kernel) (pa_cons (xv 3) pa_nil))) (pe_cmpR op_ltY (xv 3) pe_int (nomark _))) (pa_cons (xv 2) pa_nil))) pa_nil)) (xv 1))))
      pss_nil)
      (pss_one (ps_asg (pe_callB cr_abs (by rfl) T.m_abs (by decide +kernel) (pa_cons (xv 3) pa_nil)) (pg_sub (xv 0) pe_int set_list))))))
      pss_nil)
      (pss_cons (xs_if (xt_cmp (op_eqLK K hr.u190) (pe_ix (ix_k K) (xv 0) pe_int (fun _ _ => rfl)) pe_int (nomark _))
      (pss_one (ps_ret (pe_op op_modY (pe_callTy cr_int (by rfl) T.m_int (by decide +kernel) (pa_cons (pe_call G_mixed (hr.mono (by omega)) (by rfl) T.g_mixed T.F_mixed.kp T.b_mixed .nil pass0 (pa_cons (pe_ix (ix_k K) (xv 0) pe_int (fun _ _ => rfl)) (pa_cons (xv 2) pa_nil))) pa_nil)) (xv 1))))
      pss_nil)
      (pss_cons (ps_set (i := 4) sc_pick.nd rfl (.inl rfl) (pe_op op_modY (pe_callTy cr_int (by rfl) T.m_int (by decide +kernel) (pa_cons (pe_ix (ix_k K) (xv 0) pe_int (fun _ _ => rfl)) pa_nil)) (xv 1)))
      (pss_cons (ps_asg (pe_op op_divY (pe_ix (ix_k K) (xv 0) pe_int (fun _ _ => rfl)) (xv 1)) (pg_sub (xv 0) pe_int set_list))
      (pss_one (ps_ret (xv 4))))))))), ?_⟩
    -- the turn
    refine ⟨_, _, .inl (SqL.of S.hd), rfl, b, _, _, 3, rfl, rfl, S.hd, rfl, ?_⟩
    have S1 := S.set (o' := .lst [.ref N, .int i, .int g, .int (t + 1), .int z])
    have fin : ∀ (j : Int) (g' : Int) (H2 : Hp), 0 ≤ j → 0 ≤ g' → Sep G ((b, .lst [.ref N, .int j, .int g', .int (t + 1), .int z]) :: M) H2 → (g' = 0 → ∀ r : Int, 0 ≤ r → r < n → Q (.int r) H2) ∧
        (∀ (r d : Int), 0 ≤ r → r < n → 0 ≤ d → Q (.int r) (upd H2 b (.lst [.ref N, .int j, .int d, .int (t + 1), .int z]))) := fun j g' H2 j0 h0 S2 =>
      ⟨fun _ r r0 r1 => q r _ _ r0 r1 ⟨N, ns, j, g', t + 1, z, rfl, hN, j0, h0⟩ S2, fun r d r0 r1 d0 => q r _ _ r0 r1 ⟨N, ns, j, d, t + 1, z, rfl, hN, j0, d0⟩ S2.set⟩
    -- the rest, from a bag on
    refine ⟨fun σ H2 => ∃ (y3 y4 : Option V) (j g' : Int), σ = [some (.ref b), some (.int n), some (.int t), y3, y4] ∧ 0 ≤ j ∧ 0 ≤ g' ∧ Sep G ((b, .lst [.ref N, .int j, .int g', .int (t + 1), .int z]) :: M) H2, ?_, fun σ H2 h => ?_⟩
    · have go : ∃ (y3 y4 : Option V) (j g' : Int), ([some (.ref b), some (.int n), some (.int t), none, none] : List (Option V)) = [some (.ref b), some (.int n), some (.int t), y3, y4] ∧ 0 ≤ j ∧ 0 ≤ g' ∧ Sep G ((b, .lst [.ref N, .int j, .int g', .int (t + 1), .int z]) :: M) _ := ⟨_, _, i, g, rfl, i0, g0, S1⟩
      refine ⟨_, _, .inl (SqL.of S1.hd), rfl, fun e => ⟨_, _, .inl (SqL.of S1.hd), rfl, _, _, .inl (SqL.of S1.hd), rfl, _, .inl (SqL.of (S1.st hN)), fun e => ?_, fun e => go⟩, fun e => ⟨ff, fun _ => go⟩⟩
      have hi : i < (ns.map V.int).length := of_decide_eq_true e
      obtain ⟨v, hv, hm⟩ := atI_in i0 hi
      obtain ⟨c, _, rfl⟩ := List.mem_map.mp hm
      refine ⟨_, _, .inl (SqL.of S1.hd), rfl, _, _, .inl (SqL.of S1.hd), rfl, _, _, .inl (SqL.of (S1.st hN)), hv, ?_⟩
      refine ⟨_, _, .inl (SqL.of S1.hd), rfl, b, _, _, 1, rfl, rfl, S1.hd, rfl, ?_⟩
      have S2 := S1.set (o' := .lst [.ref N, .int (i + 1), .int g, .int (t + 1), .int z])
      refine ⟨⟨by decide, by decide, by decide⟩, fun p _ => ⟨fun e => ?_, fun e => ?_⟩⟩
      · refine ⟨.inl ⟨by decide, by decide⟩, _, _, rfl, fun m _ _ => ⟨n0, fun r _ r0 r1 => ?_⟩⟩
        exact q r _ _ r0 r1 ⟨N, ns, i + 1, g, t + 1, z, rfl, hN, by omega, g0⟩ S2
      · refine ⟨b, _, _, 2, rfl, rfl, S2.hd, rfl, ?_⟩
        exact ⟨_, _, i + 1, c.natAbs, rfl, by omega, by omega, S2.set⟩
    · obtain ⟨y3, y4, j, g', rfl, j0, h0, S2⟩ := h
      obtain ⟨f1, f2⟩ := fin j g' H2 j0 h0 S2
      refine ⟨_, _, .inl (SqL.of S2.hd), rfl, fun e => ?_, fun e => ?_⟩
      · refine ⟨_, _, .inl (SqL.of S2.hd), rfl, _, _, rfl, fun m _ _ => ⟨n0, fun r _ r0 r1 => ?_⟩⟩
        exact f1 (of_decide_eq_true e) r r0 r1
      · refine ⟨_, _, .inl (SqL.of S2.hd), rfl, n0, fun r _ r0 r1 => ?_⟩
        refine ⟨_, _, .inl (SqL.of S2.hd), rfl, ⟨n0, n1⟩, fun d _ d0 => ⟨b, _, _, 2, rfl, rfl, S2.hd, rfl, ?_⟩⟩
        exact f2 r d r0 r1 (d0 h0)

def spBag (K : PySem.W.Frag) : Sp := fun vs H Q _ => ∃ (G : Hp) (M : List (Addr × HO)) (a : Addr) (ns : List Int), vs = [.ref a] ∧ Sep G M H ∧ SqL K G a (ns.map V.int) ∧ ns.length ≤ 63 ∧
  ∀ (b : Addr) (o : HO) (G' H' : Hp), Same G G' → Bag G' o → Sep G' ((b, o) :: M) H' → Q (.ref b) H'
theorem ok_bag (T : Top K mg w) {k : Nat} : FnOk P w K mg base CX0 (k + 1) T.a_bag T.d_bag ["_law_script"] (spBag K) := by
  refine T.F_bag.ok sc_bag (fun vs H Q E h => ?_) (fun cdv A outer s H vs Q E hr h => ?_)
  · obtain ⟨G, M, a, ns, rfl, _⟩ := h
    rfl
  · obtain ⟨G, M, a, ns, rfl, S, hA, hl, q⟩ := h
    refine ⟨_, (pss_cons (ps_setLc (i := 2) (own := [("_law_cell", 1)]) (by rfl) sc_bag.nd rfl rfl (sw_true rfl rfl rfl (by decide +kernel)) (pi_listK K (xv 0)) (blkOk_by (N := ["_law_script", "_law_cell", "_law_numbers", "_law_seed", "_law_at"]) (sc := defScope s_bag) (by decide +kernel)) (fun _ _ _ _ _ => (pg_name (i := 1) sc_bag.nd rfl (.inl rfl))) (fun _ _ _ _ _ => pts_nil) (fun _ _ _ _ _ => (pe_callTy cr_int (by rfl) T.m_int (by decide +kernel) (pa_cons (xv 1) pa_nil))))
      (pss_cons (ps_set (i := 3) sc_bag.nd rfl (.inl rfl) (pe_callB (cr_lenK K) (by rfl) T.m_len (by decide +kernel) (pa_cons (xv 2) pa_nil)))
      (pss_cons (ps_for PassesOwn.never rfl (pi_enum (by rfl) T.m_enumerate (pa_cons (pe_slice (sl_listK K) (xv 2) po_none (po_some pe_int)) pa_nil)) (pg_tupK K 2 (pgs_cons (pg_name (i := 4) sc_bag.nd rfl (.inl rfl)) (pgs_cons (pg_name (i := 1) sc_bag.nd rfl (.inl rfl)) pgs_nil)))
      (pss_one (ps_set (i := 3) sc_bag.nd rfl (.inl rfl) (pe_op op_modY (pe_callTy cr_int (by rfl) T.m_int (by decide +kernel) (pa_cons (pe_op op_addY (pe_op op_addY (pe_op op_mulY (xv 3) pe_int) (pe_op op_modY (pe_callTy cr_int (by rfl) T.m_int (by decide +kernel) (pa_cons (pe_callB cr_abs (by rfl) T.m_abs (by decide +kernel) (pa_cons (xv 1) pa_nil)) pa_nil)) pe_int)) (pe_op op_mulY (pe_op op_addY (xv 4) pe_int) (pe_cmpR op_ltY (xv 1) pe_int (nomark _)))) pa_nil)) pe_int))))
      (pss_one (ps_ret (pe_lst (pa_cons (xv 2) (pa_cons pe_int (pa_cons pe_int (pa_cons pe_int (pa_cons (xv 3) pa_nil))))))))))), ?_⟩
    refine ⟨a, rfl, ⟨_, S.l hA⟩, fun L nL => lc_pre (xs := ns.map V.int) (fun pre H' => Sep G ((L, .lst pre) :: M) H') (S.new nL) (fun pre H' p => p.l hA) (fun _ => rfl) (fun pre x post H' e p => ?_) (fun H' S1 => ?_)⟩
    · obtain ⟨c, _, rfl⟩ := List.mem_map.mp (show x ∈ ns.map V.int by rw [e]; simp)
      have hz : pre.length ≤ 63 := by
        have z := congrArg List.length e
        rw [List.length_map, List.length_append] at z
        omega
      exact ⟨_, p.hd, smallL (by omega), p.set⟩
    · -- the seed
      have S2 := S1.frz
      have hN : upd G L (.lst (ns.map V.int)) L = some (.lst (ns.map V.int)) := upd_same
      refine ⟨_, .inl (SqL.of (S2.st hN)), ?_⟩
      refine ⟨63, rfl, L, _, rfl, SqL.of (S2.st hN), fun c nc => ?_⟩
      have S3 := S2.newG (o := .lst (cutV (ns.map V.int) none (some 63))) nc
      have s3 := S2.grow (o := .lst (cutV (ns.map V.int) none (some 63))) nc
      refine ⟨c, _, rfl, SqL.of (S3.st upd_same), for_enum (xs := cutV (ns.map V.int) none (some 63)) (fun pre σ H' => ∃ (y1 y4 : Option V) (z : Int) (G' : Hp), σ = [some (.ref a), y1, some (.ref L), some (.int z), y4] ∧
        Same (upd (upd G L (.lst (ns.map V.int))) c (.lst (cutV (ns.map V.int) none (some 63)))) G' ∧ Sep G' M H') ⟨_, _, _, _, rfl, Same.refl _, S3⟩ (fun pre σ H' h => ?_) (fun pre x post σ H' W e h nW => ?_) (fun σ H' h => ?_)⟩
      · obtain ⟨_, _, _, G', _, s4, S4⟩ := h
        exact SqL.of (S4.st (s4 _ _ upd_same))
      · obtain ⟨y1, y4, z, G', rfl, s4, S4⟩ := h
        have hx : x ∈ ns.map V.int := by
          have hm : x ∈ cutV (ns.map V.int) none (some 63) := by rw [e]; simp
          exact List.mem_of_mem_drop (List.mem_of_mem_take hm)
        obtain ⟨v, _, rfl⟩ := List.mem_map.mp hx
        have S5 := S4.newG (o := .tup [.int (pre.length : Nat), .int v]) nW
        refine ⟨.inr ⟨by decide, by decide⟩, by decide, fun r _ r0 r1 => ⟨by decide, fun u _ u0 u1 => ?_⟩⟩
        exact ⟨_, _, _, _, rfl, s4.trans (S4.grow nW), S5⟩
      · obtain ⟨y1, y4, z, G', rfl, s4, S4⟩ := h
        refine ⟨sz, fun b nb => ?_⟩
        exact q b _ G' _ ((S1.frzS).trans (s3.trans s4)) ⟨L, ns, 0, 0, 0, z, rfl, s4 _ _ (s3 _ _ hN), by decide, by decide⟩ (S4.new nb)

def spMingled (K : PySem.W.Frag) : Sp := fun vs H Q _ => ∃ (G : Hp) (M : List (Addr × HO)) (b : Addr) (o : HO) (l : Addr) (xs : List V), vs = [.ref b, .ref l] ∧ Sep G ((b, o) :: M) H ∧ Bag G o ∧ SqL K G l xs ∧ xs.length < 100000 ∧
  ∀ (p : Addr) (ys : List V) (o' : HO) (G' H' : Hp), Same G G' → G' p = some (.lst ys) → ys.Perm xs → Bag G' o' → Sep G' ((b, o') :: M) H' → Q (.ref p) H'
theorem ok_mingled (T : Top K mg w) {k : Nat} (G_pick : FnOk P w K mg base CX0 k T.a_pick T.d_pick ["_law_bag_here", "_law_many"] spPick) : FnOk P w K mg base CX0 (k + 1) T.a_mingled T.d_mingled ["_law_bag_here", "_law_things"] (spMingled K) := by
  refine T.F_mingled.ok sc_mingled (fun vs H Q E h => ?_) (fun cdv A outer s H vs Q E hr h => ?_)
  · obtain ⟨G, M, b, o, l, xs, rfl, _⟩ := h
    rfl
  · obtain ⟨G, M, b, o, l, xs, rfl, S, B, hl, x1, q⟩ := h
    refine ⟨_, (pss_cons (ps_set (i := 2) sc_mingled.nd rfl (.inl rfl) (pe_callTy (call_listK K) (by rfl) T.m_list (by decide +kernel) (pa_cons (xv 1) pa_nil)))
      (pss_cons (ps_set (i := 3) sc_mingled.nd rfl (.inl rfl) (pe_lst pa_nil))
      (pss_cons (ps_for PassesOwn.never rfl (pi_range1 (by rfl) T.m_range (pa_cons (pe_callB (cr_lenK K) (by rfl) T.m_len (by decide +kernel) (pa_cons (xv 1) pa_nil)) pa_nil)) (pg_name (i := 4) sc_mingled.nd rfl (.inl rfl))
      (pss_one (ps_expr (pe_bmK K PySem.F.plainAttrs_list PySem.F.slot_list_append PySem.F.type_list_append mt_append (xv 3) (pa_cons (pe_bmK K PySem.F.plainAttrs_list PySem.F.slot_list_pop PySem.F.type_list_pop mt_popAt (xv 2) (pa_cons (pe_call G_pick (hr.mono (by omega)) (by rfl) T.g_pick T.F_pick.kp T.b_pick .nil pass0 (pa_cons (xv 0) (pa_cons (pe_callB (cr_lenK K) (by rfl) T.m_len (by decide +kernel) (pa_cons (xv 2) pa_nil)) pa_nil))) pa_nil)) pa_nil)))))
      (pss_one (ps_ret (xv 3)))))), ?_⟩
    refine ⟨l, xs, rfl, .inl (S.l hl), fun L nL => ?_⟩
    have S1 := S.new (o := .lst xs) nL
    refine ⟨sz, fun O nO => ?_⟩
    have S2 := S1.new (o := .lst []) nO
    refine ⟨_, .inl (S2.l hl), _, rfl, by omega, by omega, for_range (lo := 0) (n := (xs.length : Int).toNat) (fun i σ H' => ∃ (y4 : Option V) (o' : HO) (ls os : List V), σ = [some (.ref b), some (.ref l), some (.ref L), some (.ref O), y4] ∧
      Bag G o' ∧ Sep G ((O, .lst os) :: (L, .lst ls) :: (b, o') :: M) H' ∧ ls.length + i = xs.length ∧ os.length = i ∧ (os ++ ls).Perm xs) ?_ (fun i σ H' hi h => ?_) (fun σ H' h => ?_)⟩
    · exact ⟨_, o, xs, [], rfl, B, S2, by omega, rfl, List.Perm.refl _⟩
    · obtain ⟨y4, o', ls, os, rfl, B', S3, e1, e2, pm⟩ := h
      have S4 := (S3.sw).perm (List.Perm.cons _ (List.Perm.swap _ _ _))
      have S5 := S4.sw
      -- out.append(left.pop(pick(bag, len(left))))
      refine ⟨.inl ⟨rfl, _, SqL.of S3.hd⟩, .inl ⟨rfl, _, SqL.of S4.hd⟩, _, .inl (SqL.of S4.hd), G, _, b, o', _, rfl, S5, B', by omega, by omega, fun r o2 H2 r0 r1 B2 S6 => ?_⟩
      have S7 := S6.sw
      obtain ⟨v, hv, hm⟩ := atI_in r0 r1
      have S8 := S7.set (o' := .lst (ls.eraseIdx r.toNat))
      have S9 := (S8.perm (List.Perm.cons _ (List.Perm.swap _ _ _))).sw
      refine ⟨L, ls, r, r.toNat, v, rfl, rfl, S7.hd, by omega, by omega, seqIdx r0 r1, atN r0 hv, O, os, v, rfl, rfl, S9.hd, smallL (by omega), ?_⟩
      refine ⟨_, o2, ls.eraseIdx r.toNat, os ++ [v], rfl, B2, S9.set, ?_, ?_, ?_⟩
      · rw [List.length_eraseIdx_of_lt (by omega)]
        omega
      · rw [List.length_append, e2]
        rfl
      · refine List.Perm.trans ?_ pm
        rw [List.append_assoc, List.singleton_append]
        refine List.Perm.append_left _ ?_
        exact perm_erase (atN r0 hv)
    · obtain ⟨y4, o', ls, os, rfl, B', S3, e1, e2, pm⟩ := h
      have S4 := ((S3.frz).drop)
      exact q O os o' _ _ S3.frzS upd_same (by
        have e3 : ls = [] := List.eq_nil_of_length_eq_zero (by omega)
        rw [e3, List.append_nil] at pm
        exact pm) (B'.same S3.frzS) S4

def spNumber : Sp := fun vs H Q _ => ∃ i : Int, vs = [.int i] ∧ Q (.bl true) H
theorem ok_number (T : Top K mg w) {k : Nat} : FnOk P w K mg base CX0 (k + 1) T.a_number T.d_number ["_law_thing"] spNumber := by
  refine T.F_number.ok sc_number (fun vs H Q E h => ?_) (fun cdv A outer s H vs Q E hr h => ?_)
  · obtain ⟨i, rfl, _⟩ := h
    rfl
  · obtain ⟨i, rfl, q⟩ := h
    refine ⟨_, (pss_one (ps_ret (xe_and (pe_callB (call_isK K) (by rfl) T.m_isinstance (by decide +kernel) (pa_cons (xv 0) (pa_cons (pe_bltn (v := .ty "int") (by rfl) T.m_int (by decide +kernel) rfl) pa_nil))) (pe_one (xe_not (pe_callB (call_isK K) (by rfl) T.m_isinstance (by decide +kernel) (pa_cons (xv 0) (pa_cons (pe_bltn (v := .ty "bool") (by rfl) T.m_bool (by decide +kernel) rfl) pa_nil)))))))), ?_⟩
    refine ⟨_, _, _, _, true, rfl, .ty _, .base (.int _), kit_ty (by decide +kernel), fun _ => ⟨_, _, _, _, false, rfl, .ty _, .base (.int _), kit_ty (by decide +kernel), ?_⟩, fun e => nomatch e⟩
    exact q

end
end K11
set_option Elab.async false
set_option linter.all false
set_option maxRecDepth 100000
set_option maxHeartbeats 4000000
namespace K11
open PySem PySem.Spec PyProof.Rows L2 XL
/-! ### data of a bounded size -/
theorem showAll : ∀ {xs : List PyData}, (∀ x ∈ xs, x.showable = true) → PyData.showableAll xs = true
  | [], _ => by simp only [PyData.showableAll]
  | x :: xs, h => by
    simp only [PyData.showableAll, h x (by simp), showAll (xs := xs) fun y hy => h y (List.mem_cons_of_mem _ hy), Bool.and_self]
theorem layAll : ∀ {xs : List PyData}, (∀ x ∈ xs, x.canLay0 = true) → PyData.canLayAll0 xs = true
  | [], _ => by simp only [PyData.canLayAll0]
  | x :: xs, h => by
    simp only [PyData.canLayAll0, h x (by simp), layAll (xs := xs) fun y hy => h y (List.mem_cons_of_mem _ hy), Bool.and_self]
theorem depthAll_le {n : Nat} : ∀ {xs : List PyData}, (∀ x ∈ xs, x.depth ≤ n) → PyData.depthAll xs ≤ n
  | [], _ => by simp only [PyData.depthAll]; omega
  | x :: xs, h => by
    have h1 := h x (by simp)
    have h2 := depthAll_le (xs := xs) fun y hy => h y (List.mem_cons_of_mem _ hy)
    simp only [PyData.depthAll]
    omega
theorem shortAll {n : Nat} : ∀ {xs : List PyData}, (∀ x ∈ xs, x.leavesShort n = true) → PyData.leavesShortAll n xs = true
  | [], _ => by simp only [PyData.leavesShortAll]
  | x :: xs, h => by
    simp only [PyData.leavesShortAll, h x (by simp), shortAll (xs := xs) fun y hy => h y (List.mem_cons_of_mem _ hy), Bool.and_self]
theorem weightAll_le {n : Nat} : ∀ {xs : List PyData}, (∀ x ∈ xs, x.weight ≤ n) → PyData.weightAll xs ≤ xs.length * (n + 1)
  | [], _ => by simp only [PyData.weightAll]; omega
  | x :: xs, h => by
    have h1 := h x (by simp)
    have h2 := weightAll_le (xs := xs) fun y hy => h y (List.mem_cons_of_mem _ hy)
    simp only [PyData.weightAll, List.length_cons, Nat.add_mul]
    omega
structure Fit (w dp : Nat) (d : PyData) : Prop where
  cl : d.canLay0 = true
  sh : d.showable = true
  ls : d.leavesShort 8 = true
  dp : d.depth ≤ dp
  wt : d.weight ≤ w
theorem Fit.mono {w dp w' dp' : Nat} {d : PyData} (h : Fit w dp d) (h1 : w ≤ w') (h2 : dp ≤ dp') : Fit w' dp' d := ⟨h.cl, h.sh, h.ls, Nat.le_trans h.dp h2, Nat.le_trans h.wt h1⟩
theorem Fit.shaped {w dp : Nat} {d : PyData} (h : Fit w dp d) (h2 : dp ≤ 64) : SeqAt.shaped d = true := by
  unfold SeqAt.shaped
  rw [h.cl, decide_eq_true (Nat.le_trans h.dp h2)]
  rfl
theorem Fit.self {w dp : Nat} {d : PyData} (h : Fit w dp d) : PyData.eqv d d = true := SeqAt.eqv_refl d h.cl
structure Shw (d : PyData) : Prop where
  sh : d.showable = true
  nd : d.hasDict = false
  dp : d.depth ≤ 64
  ln : d.shown.length ≤ sizeLine
theorem Fit.shw {w dp : Nat} {d : PyData} (h : Fit w dp d) (h1 : w ≤ 1048576) (h2 : dp ≤ 64) : Shw d :=
  ⟨h.sh, PyData.hasDict_of_canLay d h.cl, Nat.le_trans h.dp h2, PyData.shown_fits (B := 8) (by decide) (by decide) h.ls (Nat.le_trans h.wt (Nat.le_trans h1 (by decide)))⟩
theorem Fit.tup {w dp : Nat} {ds : List PyData} (hw : PyData.weightAll ds ≤ w) (h : ∀ d ∈ ds, ∃ w', Fit w' dp d) : Fit w (dp + 1) (.tuple ds) := by
  have dl := depthAll_le (n := dp) fun d hd => (h d hd).choose_spec.dp
  refine ⟨?_, ?_, ?_, ?_, ?_⟩
  · simp only [PyData.canLay0]; exact layAll fun d hd => (h d hd).choose_spec.cl
  · simp only [PyData.showable]; exact showAll fun d hd => (h d hd).choose_spec.sh
  · simp only [PyData.leavesShort]; exact shortAll fun d hd => (h d hd).choose_spec.ls
  · simp only [PyData.depth]; omega
  · simp only [PyData.weight]; exact hw
theorem Fit.lst {w dp : Nat} {ds : List PyData} (hw : PyData.weightAll ds ≤ w) (h : ∀ d ∈ ds, ∃ w', Fit w' dp d) : Fit w (dp + 1) (.list ds) := by
  have dl := depthAll_le (n := dp) fun d hd => (h d hd).choose_spec.dp
  refine ⟨?_, ?_, ?_, ?_, ?_⟩
  · simp only [PyData.canLay0]; exact layAll fun d hd => (h d hd).choose_spec.cl
  · simp only [PyData.showable]; exact showAll fun d hd => (h d hd).choose_spec.sh
  · simp only [PyData.leavesShort]; exact shortAll fun d hd => (h d hd).choose_spec.ls
  · simp only [PyData.depth]; omega
  · simp only [PyData.weight]; exact hw
theorem Fit.tups {w dp : Nat} {ds : List PyData} (h : ∀ d ∈ ds, Fit w dp d) : Fit (ds.length * (w + 1)) (dp + 1) (.tuple ds) := .tup (weightAll_le fun d hd => (h d hd).wt) fun d hd => ⟨w, h d hd⟩
theorem Fit.lsts {w dp : Nat} {ds : List PyData} (h : ∀ d ∈ ds, Fit w dp d) : Fit (ds.length * (w + 1)) (dp + 1) (.list ds) := .lst (weightAll_le fun d hd => (h d hd).wt) fun d hd => ⟨w, h d hd⟩
theorem Fit.str {z : Str} {w : Nat} (h : ∀ c ∈ z.cps.toList, c < 1114112) (l : z.length ≤ w) : Fit w 0 (.str z) := by
  refine ⟨?_, by simp only [PyData.showable], ?_, by simp only [PyData.depth]; omega, ?_⟩
  · simp only [PyData.canLay0]
    unfold PyData.strOk
    rw [← Array.all_toList, List.all_eq_true]
    exact fun c hc => decide_eq_true (h c hc)
  · simp only [PyData.leavesShort]
    rw [List.all_eq_true]
    exact fun c hc => decide_eq_true (Nat.lt_trans (h c hc) (by decide))
  · simp only [PyData.weight]
    exact l
theorem LS_low : ∀ c ∈ LS.cps.toList, c < 1114112 := by decide +kernel
theorem Fit.name {z : Str} {a b : Nat} (h : Lt a b z) : Fit b 0 (.str z) := .str (fun c hc => LS_low c (h.ch c hc)) h.hi
theorem dig_short : ∀ n : Nat, n < 10 → (PyData.shown (.int (n : Nat))).length ≤ 8 ∧ PyData.weight (.int (n : Nat)) ≤ 4 ∧ PyData.showable (.int (n : Nat)) = true := by decide +kernel
theorem Fit.digit {n : Int} (h0 : 0 ≤ n) (h1 : n ≤ 9) : Fit 4 0 (.int n) := by
  obtain ⟨k, rfl⟩ := Int.eq_ofNat_of_zero_le h0
  have z := dig_short k (by omega)
  refine ⟨by simp only [PyData.canLay0], z.2.2, ?_, by simp only [PyData.depth]; omega, z.2.1⟩
  simp only [PyData.leavesShort]
  exact decide_eq_true z.1
/-! ### data at a value -/
theorem dp_tup {K : PySem.W.Frag} {G : Hp} {v : V} {ds : List PyData} (h : Dp K G v (.tuple ds)) : ∃ a xs, v = .ref a ∧ SqT K G a xs ∧ DpAll K G xs ds := by
  cases h with
  | tup h1 h2 => exact ⟨_, _, rfl, h1, h2⟩
theorem dpa_cons {K : PySem.W.Frag} {G : Hp} {xs : List V} {d : PyData} {ds : List PyData} (h : DpAll K G xs (d :: ds)) : ∃ x r, xs = x :: r ∧ Dp K G x d ∧ DpAll K G r ds := by
  cases h with
  | cons h1 h2 => exact ⟨_, _, rfl, h1, h2⟩
theorem dpa_nil {K : PySem.W.Frag} {G : Hp} {xs : List V} (h : DpAll K G xs []) : xs = [] := by
  cases h
  rfl
theorem dp_str {K : PySem.W.Frag} {G : Hp} {v : V} {z : Str} (h : Dp K G v (.str z)) : v = .str z := by
  cases h
  rfl
theorem dpa_len {K : PySem.W.Frag} {G : Hp} : ∀ {xs : List V} {ds : List PyData}, DpAll K G xs ds → xs.length = ds.length
  | _, _, .nil => rfl
  | _, _, .cons _ h => congrArg (· + 1) (dpa_len h)
theorem dpa_get {K : PySem.W.Frag} {G : Hp} : ∀ {xs : List V} {ds : List PyData} {i : Nat} {x : V}, DpAll K G xs ds → xs[i]? = some x → ∃ d, ds[i]? = some d ∧ Dp K G x d
  | _, _, _, _, .nil, h => by simp at h
  | _, _, 0, _, .cons h1 _, h => by
    simp at h
    subst h
    exact ⟨_, rfl, h1⟩
  | _, _, i + 1, _, .cons _ h2, h => by
    rw [List.getElem?_cons_succ] at h
    obtain ⟨d, e1, e2⟩ := dpa_get h2 h
    exact ⟨d, by rw [List.getElem?_cons_succ]; exact e1, e2⟩
theorem dpa_app {K : PySem.W.Frag} {G : Hp} : ∀ {xs ys : List V} {ds es : List PyData}, DpAll K G xs ds → DpAll K G ys es → DpAll K G (xs ++ ys) (ds ++ es)
  | _, _, _, _, .nil, h => h
  | _, _, _, _, .cons h1 h2, h => .cons h1 (dpa_app h2 h)
theorem dpa_take {K : PySem.W.Frag} {G : Hp} : ∀ {xs : List V} {ds : List PyData} (n : Nat), DpAll K G xs ds → DpAll K G (xs.take n) (ds.take n)
  | _, _, 0, _ => .nil
  | _, _, _ + 1, .nil => .nil
  | _, _, n + 1, .cons h1 h2 => .cons h1 (dpa_take n h2)
theorem dpa_drop {K : PySem.W.Frag} {G : Hp} : ∀ {xs : List V} {ds : List PyData} (n : Nat), DpAll K G xs ds → DpAll K G (xs.drop n) (ds.drop n)
  | _, _, 0, h => h
  | _, _, _ + 1, .nil => .nil
  | _, _, n + 1, .cons _ h2 => dpa_drop n h2
theorem dpa_one {K : PySem.W.Frag} {G : Hp} {v : V} {d : PyData} (h : Dp K G v d) : DpAll K G [v] [d] := .cons h .nil
theorem Sep.mk {G H : Hp} {M : List (Addr × HO)} {p : Addr} {o : HO} (S : Sep G M H) (h : H p = none) : ∃ G', Same G G' ∧ Sep G' M (upd H p o) ∧ G' p = some o := ⟨_, S.grow h, S.newG h, upd_same⟩

/-! ### fields -/
theorem putF_ne {f g : Str} {v x : V} {r : List (Str × V)} (h : decide (g = f) = false := by decide +kernel) : putF f v ((g, x) :: r) = (g, x) :: putF f v r := by
  show (if g = f then _ else _) = _
  rw [if_neg (of_decide_eq_false h)]
theorem putF_eq {f : Str} {v x : V} {r : List (Str × V)} : putF f v ((f, x) :: r) = (f, v) :: r := by
  show (if f = f then _ else _) = _
  rw [if_pos rfl]
theorem putF_nil {f : Str} {v : V} : putF f v [] = [(f, v)] := rfl
theorem lk_ne {f g : Str} {x : V} {r : List (Str × V)} (h : (f == g) = false := by decide +kernel) : List.lookup f ((g, x) :: r) = List.lookup f r := by simp [List.lookup, h]
theorem lk_eq {f : Str} {x : V} {r : List (Str × V)} : List.lookup f ((f, x) :: r) = some x := by simp [List.lookup]
theorem Sep.keep {G H : Hp} {M : List (Addr × HO)} {p : Addr} {o : HO} (S : Sep G ((p, o) :: M) H) : ∃ G', Same G G' ∧ Sep G' M H ∧ G' p = some o := ⟨_, S.frzS, S.frz, upd_same⟩

/-! ### drawn texts -/
structure Tx (a b : Nat) (z : Str) : Prop where
  lo : a ≤ z.length
  hi : z.length ≤ b
  ch : ∀ c ∈ z.cps.toList, c < 128
theorem Tx.wide {a b a' b' : Nat} {z : Str} (h : Tx a b z) (h1 : a' ≤ a) (h2 : b ≤ b') : Tx a' b' z := ⟨Nat.le_trans h1 h.lo, Nat.le_trans h.hi h2, h.ch⟩
theorem Tx.app {a b c d : Nat} {x y : Str} (h : Tx a b x) (k : Tx c d y) : Tx (a + c) (b + d) (x ++ y) := by
  have h1 := h.lo; have h2 := h.hi; have h3 := k.lo; have h4 := k.hi
  refine ⟨by rw [app_len]; omega, by rw [app_len]; omega, fun e he => ?_⟩
  rw [app_tl] at he
  rcases List.mem_append.mp he with z | z
  · exact h.ch e z
  · exact k.ch e z
theorem Tx.lit {a b : Nat} (z : Str) (h : (Nat.ble a z.length && Nat.ble z.length b && z.cps.toList.all fun c => decide (c < 128)) = true) : Tx a b z := by
  rw [Bool.and_eq_true, Bool.and_eq_true] at h
  exact ⟨Nat.le_of_ble_eq_true h.1.1, Nat.le_of_ble_eq_true h.1.2, fun c hc => of_decide_eq_true (List.all_eq_true.mp h.2 c hc)⟩
theorem Tx.join {ys : List Str} (h : ∀ y ∈ ys, Tx 1 1 y) : Tx ys.length ys.length (Txt.join "" ys) := by
  have e : (Txt.join "" ys).cps.toList = (ys.map fun y => y.cps.toList).flatten := by
    rw [TL.join_eq]
    exact (TL.tl_join "" ys).trans (joinL_nil _)
  have el : ∀ {ys : List Str}, (∀ y ∈ ys, Tx 1 1 y) → ((ys.map fun y => y.cps.toList).flatten).length = ys.length := by
    intro ys
    induction ys with
    | nil => intro _; rfl
    | cons y r ih =>
      intro h
      have h1 := h y List.mem_cons_self
      have z := ih fun y hy => h y (List.mem_cons_of_mem _ hy)
      have l1 := h1.lo; have l2 := h1.hi
      rw [len_tl] at l1 l2
      rw [List.map_cons, List.flatten_cons, List.length_append, z, List.length_cons]
      omega
  have l := el h
  refine ⟨by rw [len_tl, e, l]; exact Nat.le_refl _, by rw [len_tl, e, l]; exact Nat.le_refl _, fun c hc => ?_⟩
  rw [e] at hc
  obtain ⟨p, hp, hcp⟩ := List.mem_flatten.mp hc
  obtain ⟨y, hy, rfl⟩ := List.mem_map.mp hp
  exact (h y hy).ch c hcp
theorem sum_onesT : ∀ {ys : List Str}, (∀ y ∈ ys, Tx 1 1 y) → (ys.map (·.length)).sum = ys.length
  | [], _ => rfl
  | y :: r, h => by
    have h1 := h y List.mem_cons_self
    have z := sum_onesT fun y hy => h y (List.mem_cons_of_mem _ hy)
    have l1 := h1.lo; have l2 := h1.hi
    rw [List.map_cons, List.sum_cons, z, List.length_cons]
    omega
theorem Tx.small {a b : Nat} {z : Str} (h : Tx a b z) (hb : b ≤ 100000) : z.length ≤ sizeLine := Nat.le_trans h.hi (XL.small hb)
theorem cutF_len (z : Str) (k : Nat) (h : k ≤ z.length) : (cutS z none (some (k : Int))).length + (cutS z (some (k : Int)) none).length = z.length := by
  rw [cut_to_len, cut_from_len z k h]
  omega
/-- a text put in at a place -/
def putS (f : Str) (at_ : Nat) (x : Str) : Str := cutS f none (some (at_ : Int)) ++ x ++ cutS f (some (at_ : Int)) none
theorem str_ext {x y : Str} (h : x.cps.toList = y.cps.toList) : x = y := by
  have := Array.toList_inj.mp h
  cases x; cases y
  simp at this
  rw [this]
theorem putS_inj {f x y : Str} {k : Nat} (h : putS f k x = putS f k y) : x = y := by
  unfold putS at h
  have e := congrArg (fun z : Str => z.cps.toList) h
  simp only [app_tl, List.append_assoc] at e
  have e2 := List.append_cancel_left e
  exact str_ext (List.append_cancel_right e2)
theorem putS_tx {f x : Str} {k a b c d : Nat} (hf : Tx a b f) (hk : k ≤ f.length) (hx : Tx c d x) : Tx c (b + d) (putS f k x) := by
  have h1 := hx.lo; have h2 := hx.hi; have h3 := hf.hi
  have h4 := cutF_len f k hk
  refine ⟨?_, ?_, fun e he => ?_⟩
  · unfold putS; rw [app_len, app_len]; omega
  · unfold putS; rw [app_len, app_len]; omega
  · unfold putS at he
    rw [app_tl, app_tl] at he
    rcases List.mem_append.mp he with he | he
    · rcases List.mem_append.mp he with he | he
      · exact hf.ch e (cut_mem he)
      · exact hx.ch e he
    · exact hf.ch e (cut_mem he)
/-- a number as a text -/
def numS (n : Nat) : Str := Str.ofString (toString ((n : Nat) : Int))
theorem numS_tl (n : Nat) : (numS n).cps.toList = TL.numL n := TL.tl_num n
theorem numS_inj {m n : Nat} (h : numS m = numS n) : m = n := TL.numL_inj (by rw [← numS_tl, ← numS_tl, h])
theorem numS_tx {n k : Nat} (hk : 0 < k) (h : n < 10 ^ k) : Tx 1 k (numS n) := by
  have l := TL.numL_len hk h
  refine ⟨?_, ?_, fun c hc => ?_⟩
  · rw [len_tl, numS_tl]
    have := TL.numL_ne n
    exact List.length_pos_iff.mpr this
  · rw [len_tl, numS_tl]; exact l
  · rw [numS_tl] at hc
    have := TL.numL_digits n c hc
    omega
theorem toS (i : Nat) : (toString ((i : Nat) : Int) : Str) = numS i := rfl

section
variable {P : Program} {w : World} {K : PySem.W.Frag} {mg : Str → Option Value} {base : Heap}
/-! ### signs -/
def SGN : List Nat := ((" !\"#$&'()*+,-./0123456789:;<=>?@ABCDEFGHIJKLMNOPQRSTUVWXYZ[\\]^_`" : Str) ++ ("abcdefghijklmnopqrstuvwxyz{|}~" : Str)).cps.toList
theorem SGN_len : SGN.length = 94 := by decide +kernel
theorem SGN_nd : SGN.Nodup := by decide +kernel
theorem SGN_ch : ∀ c ∈ SGN, c < 128 := by decide +kernel
def sgc (n : Nat) : Nat := SGN.getD (n % 94) 0
def sgn (n : Nat) : Str := ⟨#[sgc n]⟩
theorem sgc_at (n : Nat) : SGN[n % 94]? = some (sgc n) := by
  have h : n % 94 < SGN.length := by rw [SGN_len]; exact Nat.mod_lt _ (by decide)
  unfold sgc
  rw [List.getD_eq_getElem?_getD, List.getElem?_eq_getElem h]
  rfl
theorem sgc_ch (n : Nat) : sgc n < 128 := SGN_ch _ (List.mem_of_getElem? (sgc_at n))
theorem sgc_inj {m n : Nat} (h : sgc m = sgc n) : m % 94 = n % 94 := by
  have h1 := sgc_at m
  have h2 := sgc_at n
  rw [h] at h1
  obtain ⟨l1, e1⟩ := List.getElem?_eq_some_iff.mp h1
  obtain ⟨l2, e2⟩ := List.getElem?_eq_some_iff.mp h2
  exact (List.getElem_inj SGN_nd).mp (e1.trans e2.symm)
theorem sgn_tx (n : Nat) : Tx 1 1 (sgn n) := ⟨Nat.le_refl _, Nat.le_refl _, fun c hc => by
  have : c = sgc n := by simpa [sgn] using hc
  rw [this]
  exact sgc_ch n⟩
def spSign : Sp := fun vs H Q _ => ∃ n : Nat, vs = [.int (n : Nat)] ∧ n < 1073741824 ∧ Q (.str (sgn n)) H
theorem ok_sign (T : Top K mg w) {k : Nat} : FnOk P w K mg base CX0 (k + 1) T.a_sign T.d_sign ["_law_number_here"] spSign := by
  refine T.F_sign.ok sc_sign (fun vs H Q E h => ?_) (fun cdv A outer s H vs Q E hr h => ?_)
  · obtain ⟨n, rfl, _⟩ := h
    rfl
  · obtain ⟨n, rfl, n1, q⟩ := h
    refine ⟨_, (pss_cons (ps_set (i := 1) sc_sign.nd rfl (.inl rfl) pe_str)
      (pss_cons (ps_set (i := 1) sc_sign.nd rfl (.inl rfl) (pe_op op_addY (xv 1) pe_str))
      (pss_one (ps_ret (pe_ix (ix_k K) (xv 1) (pe_op op_modY (pe_callTy cr_int (by rfl) T.m_int (by decide +kernel) (pa_cons (xv 0) pa_nil)) pe_int) (fun _ _ => rfl)))))), ?_⟩
    refine ⟨by decide +kernel, fun sg hsg => ?_⟩
    have hl : sg.cps.toList = SGN := by rw [hsg]; rfl
    have hlen : sg.length = 94 := by rw [hsg]; decide +kernel
    have hm : ((n : Nat) : Int) % 94 = ((n % 94 : Nat) : Int) := by omega
    refine ⟨by decide, fun r er r0 r1 => ?_⟩
    rw [hm] at er
    subst er
    refine ⟨sgc n, small (by omega), atI_nat ?_, q⟩
    rw [hl]
    exact sgc_at n

/-! ### marks -/
structure Mks (n : Nat) (zs : List Str) : Prop where
  ln : zs.length = n
  nd : zs.Nodup
  tx : ∀ z ∈ zs, Tx 1 59 z
  eq : ∀ z ∈ zs, z ++ ("=" : Str) ∉ zs
theorem Mks.rev {n : Nat} {zs : List Str} (h : Mks n zs) : Mks n zs.reverse := ⟨by rw [List.length_reverse]; exact h.ln, ((List.reverse_perm zs).nodup_iff).mpr h.nd, fun z hz => h.tx z (List.mem_reverse.mp hz), fun z hz hz2 => h.eq z (List.mem_reverse.mp hz) (List.mem_reverse.mp hz2)⟩
theorem nd_map_range {n : Nat} {g : Nat → Str} (h : ∀ i j, i < n → j < n → g i = g j → i = j) : ((List.range n).map g).Nodup := by
  unfold List.Nodup
  rw [List.pairwise_map]
  exact List.Pairwise.imp_of_mem (R := (· ≠ ·)) (fun {a b} ha hb ne e => ne (h a b (List.mem_range.mp ha) (List.mem_range.mp hb) e)) List.nodup_range
theorem lgS {i : Int} (h0 : 0 ≤ i) (h1 : i ≤ 1000) : i.natAbs.log2 < 1920 := by
  by_cases h : i.natAbs = 0
  · rw [h]; decide
  · exact (Nat.log2_lt h).mpr (Nat.lt_of_lt_of_le (show i.natAbs < 2 ^ 11 by omega) (Nat.pow_le_pow_right (by decide) (by decide)))
theorem sgn_inj {m n : Nat} (h : sgn m = sgn n) : sgc m = sgc n := by
  have e := congrArg (fun z : Str => z.cps.toList) h
  simpa [sgn] using e
/-! a mark with = behind it is none of them -/
theorem tail_eq : ∀ (B : List Nat) (d : Nat), B ++ [61] = d :: B → d = 61
  | [], d, h => (List.cons.inj h).1.symm
  | b :: B, d, h => by
    obtain ⟨h1, h2⟩ := List.cons.inj h
    subst h1
    exact tail_eq B b h2
theorem num_eq (i j : Nat) (B : List Nat) : (numS i).cps.toList ++ B ++ [61] ≠ (numS j).cps.toList ++ B := fun e => by
  have l := congrArg List.length e
  rw [List.length_append, List.length_append, List.length_append, List.length_singleton] at l
  rw [List.append_assoc] at e
  have e1 := congrArg (List.drop (numS i).cps.toList.length) e
  rw [List.drop_left, List.drop_append_of_le_length (by omega)] at e1
  obtain ⟨d, hd⟩ : ∃ d, (numS j).cps.toList.drop (numS i).cps.toList.length = [d] := by
    have : ((numS j).cps.toList.drop (numS i).cps.toList.length).length = 1 := by rw [List.length_drop]; omega
    match h : (numS j).cps.toList.drop (numS i).cps.toList.length, this with
    | [d], _ => exact ⟨d, rfl⟩
  rw [hd] at e1
  have e2 := tail_eq B d e1
  have hm : d ∈ (numS j).cps.toList := List.mem_of_mem_drop (by rw [hd]; exact List.mem_singleton.mpr rfl)
  rw [numS_tl, e2] at hm
  exact TL.numL_free (.inr (by decide)) hm
theorem putS_eq {f x y : Str} {k : Nat} (h : x.cps.toList ++ (cutS f (some (k : Int)) none).cps.toList ++ [61] ≠ y.cps.toList ++ (cutS f (some (k : Int)) none).cps.toList) : putS f k x ++ ("=" : Str) ≠ putS f k y := fun e => by
  have e1 := congrArg (fun z : Str => z.cps.toList) e
  unfold putS at e1
  simp only [app_tl] at e1
  rw [List.append_assoc, List.append_assoc, List.append_assoc] at e1
  refine h ?_
  rw [List.append_assoc]
  exact List.append_cancel_left e1
def spMarks : Sp := fun vs H Q _ => ∃ (G : Hp) (M : List (Addr × HO)) (b : Addr) (o : HO) (n : Nat), vs = [.ref b, .int (n : Nat)] ∧ Sep G ((b, o) :: M) H ∧ Bag G o ∧ n ≤ 500 ∧
  ∀ (l : Addr) (zs : List Str) (o' : HO) (G' H' : Hp), Same G G' → G' l = some (.lst (zs.map V.str)) → Mks n zs → Bag G' o' → Sep G' ((b, o') :: M) H' → Q (.ref l) H'
theorem ok_marks (T : Top K mg w) {k : Nat} (G_pick : FnOk P w K mg base CX0 k T.a_pick T.d_pick ["_law_bag_here", "_law_many"] spPick) (G_sign : FnOk P w K mg base CX0 k T.a_sign T.d_sign ["_law_number_here"] spSign) : FnOk P w K mg base CX0 (k + 1) T.a_marks T.d_marks ["_law_bag_here", "_law_count"] spMarks := by
  refine T.F_marks.ok sc_marks (fun vs H Q E h => ?_) (fun cdv A outer s H vs Q E hr h => ?_)
  · obtain ⟨G, M, b, o, n, rfl, _⟩ := h
    rfl
  · obtain ⟨G, M, b, o, n, rfl, S, B, n5, q⟩ := h
    refine ⟨_, (pss_cons (ps_set (i := 2) sc_marks.nd rfl (.inr rfl) (pe_join pe_str (pe_lc (own := [("_law_step", 7)]) (by rfl) sc_marks.nd (pi_range1 (by rfl) T.m_range (pa_cons (pe_call G_pick (hr.mono (by omega)) (by rfl) T.g_pick T.F_pick.kp T.b_pick .nil pass0 (pa_cons (xv 0) (pa_cons pe_int pa_nil))) pa_nil)) (blkOk_by (N := ["_law_bag_here", "_law_count", "_law_fill", "_law_way", "_law_at", "_law_shift", "_law_told", "_law_step", "_law_k"]) (sc := defScope s_marks) (by decide +kernel)) (fun _ _ _ _ _ => (pg_name (i := 7) sc_marks.nd rfl (.inl rfl))) (fun _ _ _ _ _ => pts_nil) (fun _ _ _ _ _ => (pe_call G_sign (hr.mono (by omega)) (by rfl) T.g_sign T.F_sign.kp T.b_sign .nil pass0 (pa_cons (pe_call G_pick (hr.mono (by omega)) (by rfl) T.g_pick T.F_pick.kp T.b_pick .nil pass0 (pa_cons (xv 0) (pa_cons pe_int pa_nil))) pa_nil))))))
      (pss_cons (ps_set (i := 3) sc_marks.nd rfl (.inl rfl) (pe_call G_pick (hr.mono (by omega)) (by rfl) T.g_pick T.F_pick.kp T.b_pick .nil pass0 (pa_cons (xv 0) (pa_cons pe_int pa_nil))))
      (xss_cut (xs_if (xt_cmp (op_eqLK K hr.u190) (xv 3) pe_int (nomark _))
      (pss_one (ps_set (i := 2) sc_marks.nd rfl (.inr rfl) (pe_ix (ix_k K) (pe_lst (pa_cons pe_str (pa_cons pe_str (pa_cons pe_str (pa_cons pe_str pa_nil))))) (pe_call G_pick (hr.mono (by omega)) (by rfl) T.g_pick T.F_pick.kp T.b_pick .nil pass0 (pa_cons (xv 0) (pa_cons pe_int pa_nil))) (fun _ _ => rfl))))
      pss_nil)
      (xss_cut (xs_if (xt_cmp (op_eqLK K hr.u190) (xv 3) pe_int (nomark _))
      (pss_one (ps_set (i := 2) sc_marks.nd rfl (.inr rfl) (pe_op op_mulS (pe_op op_addY (xv 2) pe_str) pe_int)))
      pss_nil)
      (pss_cons (ps_set (i := 4) sc_marks.nd rfl (.inr rfl) (pe_call G_pick (hr.mono (by omega)) (by rfl) T.g_pick T.F_pick.kp T.b_pick .nil pass0 (pa_cons (xv 0) (pa_cons (pe_op op_addY (pe_callB (cr_lenK K) (by rfl) T.m_len (by decide +kernel) (pa_cons (xv 2) pa_nil)) pe_int) pa_nil))))
      (pss_cons (ps_set (i := 5) sc_marks.nd rfl (.inr rfl) (pe_call G_pick (hr.mono (by omega)) (by rfl) T.g_pick T.F_pick.kp T.b_pick .nil pass0 (pa_cons (xv 0) (pa_cons pe_int pa_nil))))
      (xss_cut (xs_if (PW.pt (xw_or (xt_cmp op_gtY (xv 1) pe_int (nomark _)) (pw_or1 (xt_cmp (op_eqLK K hr.u190) (xv 3) pe_int (nomark _)))))
      (pss_one (ps_setLc (i := 6) (own := [("_law_k", 8)]) (by rfl) sc_marks.nd rfl rfl (sw_true rfl rfl rfl (by decide +kernel)) (pi_range1 (by rfl) T.m_range (pa_cons (xv 1) pa_nil)) (blkOk_by (N := ["_law_bag_here", "_law_count", "_law_fill", "_law_way", "_law_at", "_law_shift", "_law_told", "_law_step", "_law_k"]) (sc := defScope s_marks) (by decide +kernel)) (fun _ _ _ _ _ => (pg_name (i := 8) sc_marks.nd rfl (.inl rfl))) (fun _ _ _ _ _ => pts_nil) (fun _ _ _ _ _ => (pe_op op_addY (pe_op op_addY (pe_slice sl_str (xv 2) po_none (po_some (xv 4))) (pe_callTy cr_strI (by rfl) T.m_str (by decide +kernel) (pa_cons (pe_op op_addY (xv 5) (xv 8)) pa_nil))) (pe_slice sl_str (xv 2) (po_some (xv 4)) po_none)))))
      (pss_one (ps_setLc (i := 6) (own := [("_law_k", 8)]) (by rfl) sc_marks.nd rfl rfl (sw_true rfl rfl rfl (by decide +kernel)) (pi_range1 (by rfl) T.m_range (pa_cons (xv 1) pa_nil)) (blkOk_by (N := ["_law_bag_here", "_law_count", "_law_fill", "_law_way", "_law_at", "_law_shift", "_law_told", "_law_step", "_law_k"]) (sc := defScope s_marks) (by decide +kernel)) (fun _ _ _ _ _ => (pg_name (i := 8) sc_marks.nd rfl (.inl rfl))) (fun _ _ _ _ _ => pts_nil) (fun _ _ _ _ _ => (pe_op op_addY (pe_op op_addY (pe_slice sl_str (xv 2) po_none (po_some (xv 4))) (pe_call G_sign (hr.mono (by omega)) (by rfl) T.g_sign T.F_sign.kp T.b_sign .nil pass0 (pa_cons (pe_op op_addY (xv 5) (xv 8)) pa_nil))) (pe_slice sl_str (xv 2) (po_some (xv 4)) po_none))))))
      (pss_cons (xs_if (xt_cmp (op_eqLK K hr.u190) (pe_call G_pick (hr.mono (by omega)) (by rfl) T.g_pick T.F_pick.kp T.b_pick .nil pass0 (pa_cons (xv 0) (pa_cons pe_int pa_nil))) pe_int (nomark _))
      (pss_one (ps_ret (pe_revK K (xv 6) (pe_str (pe_un un_neg pe_int) fun _ _ _ h => ⟨1, rfl, h⟩))))
      pss_nil)
      (pss_one (ps_ret (xv 6))))))))))), ?_⟩
    -- signs in a row
    refine ⟨⟨_, rfl⟩, G, _, b, o, 4, rfl, S, B, by decide, by decide, fun r1 o1 H1 r10 r11 B1 S1 => ⟨_, rfl, by omega, by omega, fun D nD => lc_range (lo := 0) (n := r1.toNat) (fun i H' => ∃ (o' : HO) (ys : List Str), Bag G o' ∧ Sep G ((D, .lst (ys.map V.str)) :: (b, o') :: M) H' ∧ ys.length = i ∧ ∀ y ∈ ys, Tx 1 1 y)
      ⟨o1, [], B1, S1.new nD, rfl, fun y hy => absurd hy (by simp)⟩ (fun i H' hi p => ?_) (fun H' p => ?_)⟩⟩
    · obtain ⟨o', ys, B', S', yl, hy⟩ := p
      refine ⟨rfl, G, _, b, o', 94, rfl, S'.sw, B', by decide, by decide, fun r2 o2 H2 r20 r21 B2 S2 => ?_⟩
      obtain ⟨m, rfl⟩ := Int.eq_ofNat_of_zero_le r20
      refine ⟨m, rfl, by omega, ys.map V.str, S2.sw.hd, by rw [List.length_map]; exact smallL (by omega), o2, ys ++ [sgn m], B2, ?_, by rw [List.length_append, yl]; rfl, fun y hy' => ?_⟩
      · rw [List.map_append]
        exact S2.sw.set
      · rcases List.mem_append.mp hy' with z | z
        · exact hy y z
        · rw [List.mem_singleton.mp z]
          exact sgn_tx m
    obtain ⟨o2, ys, B2, S2, yl, hy⟩ := p
    refine ⟨_, D, ys, rfl, rfl, .inl (SqL.of S2.hd), ?_, ?_⟩
    · rw [sum_onesT hy, show Str.length ("" : Str) = 0 from rfl, Nat.mul_zero]
      omega
    have S3 := S2.drop
    have t1 : Tx 0 3 (Txt.join "" ys) := (Tx.join hy).wide (by omega) (by omega)
    generalize Txt.join "" ys = f1 at *
    refine ⟨G, _, b, o2, 6, rfl, S3, B2, by decide, by decide, fun r3 o3 H3 r30 r31 B3 S4 => ?_⟩
    refine ⟨fun σ H' => ∃ (f : Str) (o' : HO) (G' : Hp), σ = [some (.ref b), some (.int (n : Nat)), some (.str f), some (.int r3), none, none, none, none, none] ∧ Same G G' ∧ Tx 0 56 f ∧ (r3 = 1 → Tx 0 3 f) ∧ Bag G' o' ∧ Sep G' ((b, o') :: M) H', ⟨fun e => ?_, fun e => ?_⟩, fun σ H5 h => ?_⟩
    · refine ⟨sz, fun p np => ?_⟩
      obtain ⟨G5, s5, S5, h5⟩ := Sep.mk (o := .lst [.str "3.0.1/2/", .str "0/", .str "/", .str "1.2/"]) S4 np
      refine ⟨G5, _, b, o3, 4, rfl, S5, B3.same s5, by decide, by decide, fun r6 o6 H6 r60 r61 B6 S6 => ?_⟩
      obtain ⟨v, hv, hm⟩ := atI_in (xs := [V.str "3.0.1/2/", .str "0/", .str "/", .str "1.2/"]) r60 r61
      refine ⟨_, _, .inl (SqL.of (S6.st h5)), hv, ?_⟩
      have hz : ∃ z : Str, v = .str z ∧ Tx 0 56 z := by
        simp only [List.mem_cons, List.not_mem_nil, or_false] at hm
        rcases hm with rfl | rfl | rfl | rfl <;> exact ⟨_, rfl, Tx.lit _ (by decide +kernel)⟩
      obtain ⟨z, rfl, hz⟩ := hz
      exact ⟨z, o6, G5, rfl, s5, hz, fun e1 => absurd (of_decide_eq_true e) (by rw [e1]; decide), B6, S6⟩
    · exact ⟨f1, o3, G, rfl, Same.refl _, t1.wide (by decide) (by decide), fun _ => t1, B3, S4⟩
    obtain ⟨f2, o5, G5, rfl, s5, t2, t23, B5, S5⟩ := h
    refine ⟨fun σ H' => ∃ (f : Str), σ = [some (.ref b), some (.int (n : Nat)), some (.str f), some (.int r3), none, none, none, none, none] ∧ Tx 0 56 f ∧ H' = H5, ⟨fun e => ?_, fun e => ?_⟩, fun σ H6 h => ?_⟩
    · have t3 := t23 (of_decide_eq_true e)
      have tm : Tx 1 1 ("-" : Str) := Tx.lit _ (by decide +kernel)
      have th := t3.hi; have tl' := tm.hi
      refine ⟨small (by omega), fun z hz => ?_⟩
      have tz := t3.app tm
      rw [← hz] at tz
      have z1 := tz.lo; have z2 := tz.hi
      refine ⟨by decide, by decide, by omega, by omega, repS z 14, rfl, ⟨Nat.zero_le _, by rw [repS_len]; omega, fun c hc => tz.ch c (repS_mem hc)⟩, rfl⟩
    · exact ⟨f2, rfl, t2, rfl⟩
    obtain ⟨f, rfl, tf, rfl⟩ := h
    have fh := tf.hi
    refine ⟨small (by omega), G5, _, b, o5, _, rfl, S5, B5, by omega, by omega, fun ra o7 H7 ra0 ra1 B7 S7 => ?_⟩
    obtain ⟨a, rfl⟩ := Int.eq_ofNat_of_zero_le ra0
    have al : a ≤ f.length := by omega
    refine ⟨G5, _, b, o7, 94, rfl, S7, B7, by decide, by decide, fun rs o8 H8 rs0 rs1 B8 S8 => ?_⟩
    obtain ⟨m, rfl⟩ := Int.eq_ofNat_of_zero_le rs0
    have cl1 : (cutS f none (some ((a : Nat) : Int))).length ≤ 56 := by rw [cut_to_len]; omega
    have cl2 : (cutS f (some ((a : Nat) : Int)) none).length ≤ 56 := by rw [cut_from_len f a al]; omega
    -- each text
    have step : ∀ (g : Nat → Str) (hg : ∀ i, i < n → Tx 1 3 (g i)) (he : ∀ i j (B : List Nat), (g i).cps.toList ++ B ++ [61] ≠ (g j).cps.toList ++ B) (inj : ∀ i j, i < n → j < n → g i = g j → i = j), Mks n ((List.range n).map fun i => putS f a (g i)) := fun g hg he inj =>
      ⟨by rw [List.length_map, List.length_range], nd_map_range fun i j hi hj e => inj i j hi hj (putS_inj e), fun z hz => by
        obtain ⟨i, hi, rfl⟩ := List.mem_map.mp hz
        exact putS_tx tf al (hg i (List.mem_range.mp hi)), fun z hz hz2 => by
        obtain ⟨i, hi, rfl⟩ := List.mem_map.mp hz
        obtain ⟨j, hj, e⟩ := List.mem_map.mp hz2
        exact putS_eq (he i j _) e.symm⟩
    have snoc : ∀ (g : Nat → Str) (i : Nat), ((List.range (i + 1)).map fun i => putS f a (g i)).map V.str = ((List.range i).map fun i => putS f a (g i)).map V.str ++ [V.str (putS f a (g i))] := fun g i => by
      rw [List.range_succ, List.map_append, List.map_append]
      rfl
    have fin : ∀ (L : Addr) (zs : List Str) (H' : Hp), Mks n zs → Sep G5 ((L, .lst (zs.map V.str)) :: (b, o8) :: M) H' → ∃ (l : Addr) (zs : List Str) (G' : Hp), V.ref L = V.ref l ∧ Same G5 G' ∧ G' l = some (.lst (zs.map V.str)) ∧ Mks n zs ∧ Bag G' o8 ∧ Sep G' ((b, o8) :: M) H' := fun L zs H' mk S' => by
      obtain ⟨G9, s9, S9, h9⟩ := Sep.keep S'
      exact ⟨L, zs, G9, rfl, s9, h9, mk, B8.same s9, S9⟩
    refine ⟨fun σ H' => ∃ (l : Addr) (zs : List Str) (G' : Hp), σ = [some (.ref b), some (.int (n : Nat)), some (.str f), some (.int r3), some (.int (a : Nat)), some (.int (m : Nat)), some (.ref l), none, none] ∧ Same G5 G' ∧ G' l = some (.lst (zs.map V.str)) ∧ Mks n zs ∧ Bag G' o8 ∧ Sep G' ((b, o8) :: M) H', ?_, fun σ H9 h => ?_⟩
    · refine ⟨fun e => ⟨fun _ => ?faa, tt⟩, fun e => ⟨fun _ => ?fab, fun e2 => ?fac⟩⟩
      case faa | fab =>
        refine ⟨_, rfl, by omega, by omega, fun L nL => lc_range (lo := 0) (n := (n : Int).toNat) (fun i H' => Sep G5 ((L, .lst (((List.range i).map fun i => putS f a (numS (m + i))).map V.str)) :: (b, o8) :: M) H') (S8.new nL) (fun i H' hi p => ?_) (fun H' p => ?_)⟩
        · have ek : ((m : Nat) : Int) + (0 + (i : Nat)) = ((m + i : Nat) : Int) := by omega
          have tn : Tx 1 3 (numS (m + i)) := numS_tx (by decide) (by omega)
          have tnh := tn.hi
          have lg : ((m : Nat) : Int) + (0 + (i : Nat)) ≤ 1000 := by omega
          refine ⟨rfl, _, rfl, f, rfl, small (by omega), lgS (by omega) lg, ?_⟩
          rw [ek]
          refine ⟨small (by rw [toS]; omega), fun z1 hz1 => ⟨_, rfl, f, rfl, small (by omega), ?_⟩⟩
          rw [toS] at hz1
          have zl : z1.length = (cutS f none (some ((a : Nat) : Int))).length + (numS (m + i)).length := by rw [hz1, app_len]
          refine ⟨small (by omega), fun z2 hz2 => ⟨_, p.hd, by rw [List.length_map, List.length_map, List.length_range]; exact smallL (by omega), ?_⟩⟩
          rw [snoc, show putS f a (numS (m + i)) = z2 by rw [hz2, hz1]; rfl]
          exact p.set
        · obtain ⟨l, zs, G', el, rest⟩ := fin _ _ _ (step (fun i => numS (m + i)) (fun i hi => numS_tx (by decide) (by omega)) (fun i j B => num_eq _ _ B) fun i j hi hj e => by have := numS_inj e; omega) p
          cases el
          exact ⟨L, zs, G', rfl, rest⟩
      case fac =>
        refine ⟨_, rfl, by omega, by omega, fun L nL => lc_range (lo := 0) (n := (n : Int).toNat) (fun i H' => Sep G5 ((L, .lst (((List.range i).map fun i => putS f a (sgn (m + i))).map V.str)) :: (b, o8) :: M) H') (S8.new nL) (fun i H' hi p => ?_) (fun H' p => ?_)⟩
        · have ek : ((m : Nat) : Int) + (0 + (i : Nat)) = ((m + i : Nat) : Int) := by omega
          have tn : Tx 1 1 (sgn (m + i)) := sgn_tx _
          have tnh := tn.hi
          refine ⟨rfl, _, rfl, f, rfl, small (by omega), m + i, by rw [ek]; rfl, by omega, small (by omega), fun z1 hz1 => ⟨_, rfl, f, rfl, small (by omega), ?_⟩⟩
          have zl : z1.length = (cutS f none (some ((a : Nat) : Int))).length + (sgn (m + i)).length := by rw [hz1, app_len]
          refine ⟨small (by omega), fun z2 hz2 => ⟨_, p.hd, by rw [List.length_map, List.length_map, List.length_range]; exact smallL (by omega), ?_⟩⟩
          rw [snoc, show putS f a (sgn (m + i)) = z2 by rw [hz2, hz1]; rfl]
          exact p.set
        · have n94 : n ≤ 94 := by
            have := of_decide_eq_false e
            omega
          obtain ⟨l, zs, G', el, rest⟩ := fin _ _ _ (step (fun i => sgn (m + i)) (fun i hi => (sgn_tx _).wide (by decide) (by decide)) (fun i j B e => by simpa [sgn] using congrArg List.length e) fun i j hi hj e => by
            have e2 := sgc_inj (sgn_inj e)
            omega) p
          cases el
          exact ⟨L, zs, G', rfl, rest⟩
    · obtain ⟨l, zs, G9, rfl, s9, hl, mk, B9, S9⟩ := h
      refine ⟨G9, _, b, o8, 2, rfl, S9, B9, by decide, by decide, fun r10 o10 H10 _ _ B10 S10 => ⟨fun e => ?_, fun e => ?_⟩⟩
      · refine ⟨l, _, rfl, SqL.of (S10.st hl), fun p np => ?_⟩
        obtain ⟨G11, s11, S11, h11⟩ := Sep.mk (o := .lst (zs.map V.str).reverse) S10 np
        rw [← List.map_reverse] at h11
        exact q p zs.reverse o10 G11 _ (s5.trans (s9.trans s11)) h11 mk.rev (B10.same s11) S11
      · exact q l zs o10 G9 _ (s5.trans s9) hl mk B10 S10

end
end K11
set_option Elab.async false
set_option linter.all false
set_option maxRecDepth 100000
set_option maxHeartbeats 4000000
namespace K11
open PySem PySem.Spec PyProof.Rows L2 XL
section
variable {P : Program} {w : World} {K : PySem.W.Frag} {mg : Str → Option Value} {base : Heap}
/-! ### labels -/
def spLab : Sp := fun vs H Q _ => ∃ (G : Hp) (M : List (Addr × HO)) (b : Addr) (o : HO), vs = [.ref b] ∧ Sep G ((b, o) :: M) H ∧ Bag G o ∧
  ∀ (z : Str) (o' : HO) (G' H' : Hp), Tx 1 20 z → Same G G' → Bag G' o' → Sep G' ((b, o') :: M) H' → Q (.str z) H'
theorem ok_label (T : Top K mg w) {k : Nat} (G_pick : FnOk P w K mg base CX0 k T.a_pick T.d_pick ["_law_bag_here", "_law_many"] spPick) (G_sign : FnOk P w K mg base CX0 k T.a_sign T.d_sign ["_law_number_here"] spSign) : FnOk P w K mg base CX0 (k + 1) T.a_label T.d_label ["_law_bag_here"] spLab := by
  refine T.F_label.ok sc_label (fun vs H Q E h => ?_) (fun cdv A outer s H vs Q E hr h => ?_)
  · obtain ⟨G, M, b, o, rfl, _⟩ := h
    rfl
  · obtain ⟨G, M, b, o, rfl, S, B, q⟩ := h
    refine ⟨_, (pss_cons (ps_set (i := 1) sc_label.nd rfl (.inl rfl) (pe_call G_pick (hr.mono (by omega)) (by rfl) T.g_pick T.F_pick.kp T.b_pick .nil pass0 (pa_cons (xv 0) (pa_cons pe_int pa_nil))))
      (pss_cons (xs_if (xt_cmp op_ltY (xv 1) pe_int (nomark _))
      (pss_one (ps_ret (pe_ix (ix_k K) (pe_lst (pa_cons pe_str (pa_cons pe_str (pa_cons pe_str (pa_cons pe_str (pa_cons pe_str (pa_cons pe_str pa_nil))))))) (pe_call G_pick (hr.mono (by omega)) (by rfl) T.g_pick T.F_pick.kp T.b_pick .nil pass0 (pa_cons (xv 0) (pa_cons pe_int pa_nil))) (fun _ _ => rfl))))
      pss_nil)
      (pss_cons (xs_if (xt_cmp op_ltY (xv 1) pe_int (nomark _))
      (pss_one (ps_ret (pe_call G_sign (hr.mono (by omega)) (by rfl) T.g_sign T.F_sign.kp T.b_sign .nil pass0 (pa_cons (pe_call G_pick (hr.mono (by omega)) (by rfl) T.g_pick T.F_pick.kp T.b_pick .nil pass0 (pa_cons (xv 0) (pa_cons pe_int pa_nil))) pa_nil))))
      pss_nil)
      (pss_one (ps_ret (pe_join pe_str (pe_lc (own := [("_law_step", 2)]) (by rfl) sc_label.nd (pi_range1 (by rfl) T.m_range (pa_cons (pe_op op_addY pe_int (pe_call G_pick (hr.mono (by omega)) (by rfl) T.g_pick T.F_pick.kp T.b_pick .nil pass0 (pa_cons (xv 0) (pa_cons pe_int pa_nil)))) pa_nil)) (blkOk_by (N := ["_law_bag_here", "_law_way", "_law_step"]) (sc := defScope s_label) (by decide +kernel)) (fun _ _ _ _ _ => (pg_name (i := 2) sc_label.nd rfl (.inl rfl))) (fun _ _ _ _ _ => pts_nil) (fun _ _ _ _ _ => (pe_call G_sign (hr.mono (by omega)) (by rfl) T.g_sign T.F_sign.kp T.b_sign .nil pass0 (pa_cons (pe_call G_pick (hr.mono (by omega)) (by rfl) T.g_pick T.F_pick.kp T.b_pick .nil pass0 (pa_cons (xv 0) (pa_cons pe_int pa_nil))) pa_nil)))))))))), ?_⟩
    refine ⟨G, M, b, o, 6, rfl, S, B, by decide, by decide, fun r o1 H1 r0 r1 B1 S1 => ⟨fun e => ?_, fun e => ⟨fun e => ?_, fun e => ?_⟩⟩⟩
    · refine ⟨sz, fun p np => ?_⟩
      obtain ⟨G2, s2, S2, h2⟩ := Sep.mk (o := .lst [.str "row", .str "col", .str "text 1", .str "text 2", .str "button a", .str "button go"]) S1 np
      refine ⟨G2, _, b, o1, 6, rfl, S2, B1.same s2, by decide, by decide, fun r3 o3 H3 r30 r31 B3 S3 => ?_⟩
      obtain ⟨v, hv, hm⟩ := atI_in (xs := [V.str "row", .str "col", .str "text 1", .str "text 2", .str "button a", .str "button go"]) r30 r31
      refine ⟨_, _, .inl (SqL.of (S3.st h2)), hv, ?_⟩
      have hz : ∃ z : Str, v = .str z ∧ Tx 1 20 z := by
        simp only [List.mem_cons, List.not_mem_nil, or_false] at hm
        rcases hm with rfl | rfl | rfl | rfl | rfl | rfl <;> exact ⟨_, rfl, Tx.lit _ (by decide +kernel)⟩
      obtain ⟨z, rfl, hz⟩ := hz
      exact q z o3 G2 _ hz s2 B3 S3
    · refine ⟨G, _, b, o1, 94, rfl, S1, B1, by decide, by decide, fun r2 o2 H2 r20 r21 B2 S2 => ?_⟩
      obtain ⟨m, rfl⟩ := Int.eq_ofNat_of_zero_le r20
      exact ⟨m, rfl, by omega, q _ o2 G _ ((sgn_tx m).wide (by decide) (by decide)) (Same.refl _) B2 S2⟩
    · refine ⟨⟨_, rfl⟩, G, _, b, o1, 20, rfl, S1, B1, by decide, by decide, fun r1 o2 H2 r10 r11 B2 S2 => ⟨_, rfl, by omega, by omega, fun D nD => lc_range (lo := 0) (n := (1 + r1).toNat) (fun i H' => ∃ (o' : HO) (ys : List Str), Bag G o' ∧ Sep G ((D, .lst (ys.map V.str)) :: (b, o') :: M) H' ∧ ys.length = i ∧ ∀ y ∈ ys, Tx 1 1 y)
        ⟨o2, [], B2, S2.new nD, rfl, fun y hy => absurd hy (by simp)⟩ (fun i H' hi p => ?_) (fun H' p => ?_)⟩⟩
      · obtain ⟨o', ys, B', S', yl, hy⟩ := p
        refine ⟨rfl, G, _, b, o', 94, rfl, S'.sw, B', by decide, by decide, fun r2 o2 H2 r20 r21 B2 S2 => ?_⟩
        obtain ⟨m, rfl⟩ := Int.eq_ofNat_of_zero_le r20
        refine ⟨m, rfl, by omega, ys.map V.str, S2.sw.hd, by rw [List.length_map]; exact smallL (by omega), o2, ys ++ [sgn m], B2, ?_, by rw [List.length_append, yl]; rfl, fun y hy' => ?_⟩
        · rw [List.map_append]
          exact S2.sw.set
        · rcases List.mem_append.mp hy' with z | z
          · exact hy y z
          · rw [List.mem_singleton.mp z]
            exact sgn_tx m
      obtain ⟨o2, ys, B2, S2, yl, hy⟩ := p
      refine ⟨_, D, ys, rfl, rfl, .inl (SqL.of S2.hd), ?_, ?_⟩
      · rw [sum_onesT hy, show Str.length ("" : Str) = 0 from rfl, Nat.mul_zero]
        omega
      exact q _ o2 G _ ((Tx.join hy).wide (by omega) (by omega)) (Same.refl _) B2 S2.drop

end
end K11
set_option Elab.async false
set_option linter.all false
set_option maxRecDepth 100000
set_option maxHeartbeats 4000000
namespace K11
open PySem PySem.Spec PyProof.Rows L2 XL
/-! ### trees of nodes -/
inductive Tr where
  | node (m l : Str) (ks : List Tr)
def mrk : Tr → Str
  | .node m _ _ => m
def lbl : Tr → Str
  | .node _ l _ => l
def kids : Tr → List Tr
  | .node _ _ ks => ks
theorem tr_eta (t : Tr) : t = .node (mrk t) (lbl t) (kids t) := by cases t; rfl
mutual
def toD : Tr → PyData
  | .node m l ks => .tuple [.str m, .str l, .tuple (toDs ks)]
def toDs : List Tr → List PyData
  | [] => []
  | s :: r => toD s :: toDs r
end
theorem toDs_eq : ∀ ps, toDs ps = ps.map toD
  | [] => by simp only [toDs, List.map_nil]
  | s :: r => by simp only [toDs, List.map_cons, toDs_eq r]
theorem toD_eq (t : Tr) : toD t = .tuple [.str (mrk t), .str (lbl t), .tuple ((kids t).map toD)] := by
  cases t
  simp only [toD, mrk, lbl, kids, toDs_eq]
mutual
def hgt : Tr → Nat
  | .node _ _ ks => hgts ks + 1
def hgts : List Tr → Nat
  | [] => 0
  | s :: r => max (hgt s) (hgts r)
end
theorem hgt_eq (t : Tr) : hgt t = hgts (kids t) + 1 := by
  cases t
  simp only [hgt, kids]
theorem hgt_mem {p : Tr} : ∀ {ps : List Tr}, p ∈ ps → hgt p ≤ hgts ps
  | q :: r, h => by
    rcases List.mem_cons.mp h with rfl | h
    · simp only [hgts]; omega
    · have := hgt_mem h
      simp only [hgts]; omega
theorem hgts_le {n : Nat} : ∀ {ps : List Tr}, (∀ p ∈ ps, hgt p ≤ n) → hgts ps ≤ n
  | [], _ => by simp only [hgts]; omega
  | p :: r, h => by
    have h1 := h p (by simp)
    have h2 := hgts_le (ps := r) fun q hq => h q (List.mem_cons_of_mem _ hq)
    simp only [hgts]; omega
theorem hgt_kid {p s : Tr} (h : p ∈ kids s) : hgt p + 1 ≤ hgt s := by
  have := hgt_mem h
  rw [hgt_eq s]
  omega
/-! in page order -/
mutual
def pre : Tr → List Tr
  | .node m l ks => .node m l ks :: pres ks
def pres : List Tr → List Tr
  | [] => []
  | s :: r => pre s ++ pres r
end
theorem pre_eq (t : Tr) : pre t = t :: pres (kids t) := by
  cases t
  simp only [pre, kids]
theorem pres_app : ∀ xs ys, pres (xs ++ ys) = pres xs ++ pres ys
  | [], ys => by simp only [List.nil_append, pres]
  | x :: xs, ys => by simp only [List.cons_append, pres, pres_app xs ys, List.append_assoc]
theorem pres_one (p : Tr) : pres [p] = pre p := by simp only [pres, List.append_nil]
theorem mem_pres {x : Tr} : ∀ {ps : List Tr}, x ∈ pres ps ↔ ∃ p ∈ ps, x ∈ pre p
  | [] => by simp [pres]
  | p :: r => by simp [pres, mem_pres (ps := r)]
theorem self_pre (t : Tr) : t ∈ pre t := by rw [pre_eq]; simp
theorem many_le : ∀ ps : List Tr, ps.length ≤ (pres ps).length
  | [] => by simp
  | p :: r => by
    have := many_le r
    have e := congrArg List.length (pre_eq p)
    rw [List.length_cons] at e
    simp only [pres, List.length_append, List.length_cons]
    omega
/-! from below -/
mutual
def post : Tr → List Tr
  | .node m l ks => posts ks ++ [.node m l ks]
def posts : List Tr → List Tr
  | [] => []
  | s :: r => post s ++ posts r
end
theorem post_eq (t : Tr) : post t = posts (kids t) ++ [t] := by
  cases t
  simp only [post, kids]
theorem posts_app : ∀ xs ys, posts (xs ++ ys) = posts xs ++ posts ys
  | [], ys => by simp only [List.nil_append, posts]
  | x :: xs, ys => by simp only [List.cons_append, posts, posts_app xs ys, List.append_assoc]
theorem posts_one (p : Tr) : posts [p] = post p := by simp only [posts, List.append_nil]
mutual
theorem post_perm : ∀ t, (post t).Perm (pre t)
  | .node m l ks => by
    simp only [post, pre]
    exact (List.perm_append_comm).trans (List.Perm.cons _ (posts_perm ks))
theorem posts_perm : ∀ ts, (posts ts).Perm (pres ts)
  | [] => by simp only [posts, pres]; exact List.Perm.refl _
  | t :: r => by
    simp only [posts, pres]
    exact (post_perm t).append (posts_perm r)
end
/-- ahead of a node stand those beneath it -/
theorem take_post : ∀ n t, hgt t ≤ n → ∀ i p, (post t)[i]? = some p → ∃ r, (post t).take i = r ++ posts (kids p)
  | 0, t, h, _, _, _ => by rw [hgt_eq] at h; omega
  | n + 1, t, h, i, p, e => by
    have ih := take_post n
    have go : ∀ (ps : List Tr), (∀ q ∈ ps, hgt q ≤ n) → ∀ j, (posts ps)[j]? = some p → ∃ r, (posts ps).take j = r ++ posts (kids p) := by
      intro ps
      induction ps with
      | nil => intro _ j e; simp [posts] at e
      | cons q qs ih2 =>
        intro hq j e
        simp only [posts] at e ⊢
        by_cases hj : j < (post q).length
        · rw [List.getElem?_append_left hj] at e
          obtain ⟨r, hr⟩ := ih q (hq q (by simp)) j p e
          exact ⟨r, by rw [List.take_append_of_le_length (by omega), hr]⟩
        · rw [List.getElem?_append_right (by omega)] at e
          obtain ⟨r, hr⟩ := ih2 (fun x hx => hq x (List.mem_cons_of_mem _ hx)) _ e
          exact ⟨post q ++ r, by rw [List.take_append, List.take_of_length_le (by omega), hr, List.append_assoc]⟩
    rw [post_eq t] at e ⊢
    by_cases hi : i < (posts (kids t)).length
    · rw [List.getElem?_append_left hi] at e
      obtain ⟨r, hr⟩ := go _ (fun q hq => by have := hgt_kid hq; omega) i e
      exact ⟨r, by rw [List.take_append_of_le_length (by omega), hr]⟩
    · rw [List.getElem?_append_right (by omega)] at e
      have hl : i - (posts (kids t)).length = 0 := by
        have := (List.getElem?_eq_some_iff.mp e).1
        simp at this
        omega
      rw [hl] at e
      obtain rfl : t = p := by simpa using e
      have ei : i = (posts (kids t)).length := by omega
      exact ⟨[], by rw [ei, List.take_append_of_le_length (Nat.le_refl _), List.take_length, List.nil_append]⟩
theorem kid_posts {c : Tr} : ∀ {ks : List Tr}, c ∈ ks → c ∈ posts ks
  | k :: r, h => by
    simp only [posts, List.mem_append]
    rcases List.mem_cons.mp h with rfl | h
    · exact .inl (by rw [post_eq]; simp)
    · exact .inr (kid_posts h)
/-! sizes -/
def stp (z : Str) (a p : Int × Int) : Int × Int := if z = "row" then (a.1 + p.1, if a.2 < p.2 then p.2 else a.2) else (if a.1 < p.1 then p.1 else a.1, a.2 + p.2)
def msr (z : Str) (ps : List (Int × Int)) : Int × Int := if ps = [] then (if z = "row" ∨ z = "col" then (0, 0) else (z.length, 1)) else ps.foldl (stp z) (0, 0)
mutual
def meas : Tr → Int × Int
  | .node _ l ks => msr l (meass ks)
def meass : List Tr → List (Int × Int)
  | [] => []
  | s :: r => meas s :: meass r
end
theorem meass_eq : ∀ ps, meass ps = ps.map meas
  | [] => by simp only [meass, List.map_nil]
  | s :: r => by simp only [meass, List.map_cons, meass_eq r]
theorem meas_eq (t : Tr) : meas t = msr (lbl t) ((kids t).map meas) := by
  cases t
  simp only [meas, lbl, kids, meass_eq]
/-! rectangles -/
abbrev Bx := Int × Int × Int × Int
mutual
def rects (x y : Int) : Tr → List (Str × Bx)
  | .node m l ks => (m, (x, y, (msr l (meass ks)).1, (msr l (meass ks)).2)) :: rectss (decide (l = "row")) x y ks
def rectss (row : Bool) (x y : Int) : List Tr → List (Str × Bx)
  | [] => []
  | k :: r => rects x y k ++ rectss row (if row then x + (meas k).1 else x) (if row then y else y + (meas k).2) r
end
theorem rects_eq (x y : Int) (t : Tr) : rects x y t = (mrk t, (x, y, (meas t).1, (meas t).2)) :: rectss (decide (lbl t = "row")) x y (kids t) := by
  cases t
  simp only [rects, mrk, lbl, kids, meas]
  first | rfl | (congr 2)
def offs (row : Bool) (x y : Int) : List Tr → List (Tr × Int × Int)
  | [] => []
  | k :: r => (k, x, y) :: offs row (if row then x + (meas k).1 else x) (if row then y else y + (meas k).2) r
def rectF : List (Tr × Int × Int) → List (Str × Bx)
  | [] => []
  | (t, x, y) :: r => rects x y t ++ rectF r
theorem rectss_eq (row : Bool) : ∀ (ks : List Tr) (x y : Int), rectss row x y ks = rectF (offs row x y ks)
  | [], _, _ => by simp only [rectss, offs, rectF]
  | k :: r, x, y => by simp only [rectss, offs, rectF, rectss_eq row r]
theorem rectF_app : ∀ xs ys, rectF (xs ++ ys) = rectF xs ++ rectF ys
  | [], ys => by simp only [List.nil_append, rectF]
  | (t, x, y) :: r, ys => by simp only [List.cons_append, rectF, rectF_app r ys, List.append_assoc]
mutual
theorem rects_marks (x y : Int) : ∀ t, (rects x y t).map (·.1) = (pre t).map mrk
  | .node m l ks => by simp only [rects, pre, List.map_cons, mrk, rectss_marks]
theorem rectss_marks (row : Bool) (x y : Int) : ∀ ts, (rectss row x y ts).map (·.1) = (pres ts).map mrk
  | [] => by simp only [rectss, pres, List.map_nil]
  | t :: r => by simp only [rectss, pres, List.map_append, rects_marks, rectss_marks]
end
def shf (a b : Int) (r : Str × Bx) : Str × Bx := (r.1, (r.2.1 + a, r.2.2.1 + b, r.2.2.2.1, r.2.2.2.2))
mutual
theorem rects_shift (a b x y : Int) : ∀ t, rects (x + a) (y + b) t = (rects x y t).map (shf a b)
  | .node m l ks => by
    simp only [rects, List.map_cons, shf, rectss_shift a b x y]
theorem rectss_shift (a b x y : Int) (row : Bool) : ∀ ts, rectss row (x + a) (y + b) ts = (rectss row x y ts).map (shf a b)
  | [] => by simp only [rectss, List.map_nil]
  | t :: r => by
    simp only [rectss, List.map_append, rects_shift a b x y]
    congr 1
    cases row
    · have e := rectss_shift a b x (y + (meas t).2) false r
      have e2 : y + (meas t).2 + b = y + b + (meas t).2 := by omega
      rw [e2] at e
      exact e
    · have e := rectss_shift a b (x + (meas t).1) y true r
      have e2 : x + (meas t).1 + a = x + a + (meas t).1 := by omega
      rw [e2] at e
      exact e
end
/-! the flat list of a tree -/
mutual
def fl (d : Nat) : Tr → List (Str × Str × Nat)
  | .node m l ks => (m, l, d) :: fls (d + 1) ks
def fls (d : Nat) : List Tr → List (Str × Str × Nat)
  | [] => []
  | s :: r => fl d s ++ fls d r
end
theorem fl_eq (d : Nat) (t : Tr) : fl d t = (mrk t, lbl t, d) :: fls (d + 1) (kids t) := by
  cases t
  simp only [fl, mrk, lbl, kids]
mutual
theorem fl_pre (d : Nat) : ∀ t, (fl d t).map (fun x => (x.1, x.2.1)) = (pre t).map fun t => (mrk t, lbl t)
  | .node m l ks => by simp only [fl, pre, List.map_cons, mrk, lbl, fls_pre]
theorem fls_pre (d : Nat) : ∀ ts, (fls d ts).map (fun x => (x.1, x.2.1)) = (pres ts).map fun t => (mrk t, lbl t)
  | [] => by simp only [fls, pres, List.map_nil]
  | t :: r => by simp only [fls, pres, List.map_append, fl_pre, fls_pre]
end
mutual
theorem fl_hgt (d : Nat) (n : Nat) : ∀ t, (∀ x ∈ fl d t, x.2.2 < n) → d + hgt t ≤ n
  | .node m l ks, h => by
    simp only [fl, List.mem_cons] at h
    have h0 := h (m, l, d) (.inl rfl)
    have h1 := fls_hgt (d + 1) n ks fun x hx => h x (.inr hx)
    simp only [hgt]
    rcases h1 with h1 | h1
    · rw [h1]; simp only [hgts]; show d + 1 ≤ n; exact h0
    · omega
theorem fls_hgt (d : Nat) (n : Nat) : ∀ ts, (∀ x ∈ fls d ts, x.2.2 < n) → ts = [] ∨ d + hgts ts ≤ n
  | [], _ => .inl rfl
  | t :: r, h => by
    simp only [fls, List.mem_append] at h
    have h0 := fl_hgt d n t fun x hx => h x (.inl hx)
    have h1 := fls_hgt d n r fun x hx => h x (.inr hx)
    refine .inr ?_
    simp only [hgts]
    rcases h1 with h1 | h1
    · rw [h1]; simp only [hgts]; omega
    · omega
end
/-! node values -/
theorem node_at {K : PySem.W.Frag} {G : Hp} {v : V} {t : Tr} (h : Dp K G v (toD t)) : ∃ a kv us, v = .ref a ∧ SqT K G a [.str (mrk t), .str (lbl t), .ref kv] ∧ SqT K G kv us ∧ DpAll K G us ((kids t).map toD) := by
  rw [toD_eq] at h
  obtain ⟨a, xs, rfl, h1, h2⟩ := dp_tup h
  obtain ⟨x1, r1, rfl, h3, h4⟩ := dpa_cons h2
  obtain ⟨x2, r2, rfl, h5, h6⟩ := dpa_cons h4
  obtain ⟨x3, r3, rfl, h7, h8⟩ := dpa_cons h6
  rw [dpa_nil h8] at h1
  obtain ⟨kv, us, rfl, h9, h10⟩ := dp_tup h7
  rw [dp_str h3, dp_str h5] at h1
  exact ⟨a, kv, us, rfl, h1, h9, h10⟩
theorem map_get {ps : List Tr} {i : Nat} {d : PyData} (h : (ps.map toD)[i]? = some d) : ∃ p, ps[i]? = some p ∧ d = toD p := by
  rw [List.getElem?_map] at h
  obtain ⟨p, h1, h2⟩ := Option.map_eq_some_iff.mp h
  exact ⟨p, h1, h2.symm⟩

/-! ### a tree out of marks, labels and parents -/
def chd (ps : List Nat) (k : Nat) : List Nat := (List.range ps.length).filter fun j => decide (k < j) && decide (ps[j]? = some k)
theorem mem_chd {ps : List Nat} {k j : Nat} : j ∈ chd ps k ↔ k < j ∧ ps[j]? = some k := by
  unfold chd
  rw [List.mem_filter, List.mem_range, Bool.and_eq_true, decide_eq_true_eq, decide_eq_true_eq]
  exact ⟨fun h => h.2, fun h => ⟨(List.getElem?_eq_some_iff.mp h.2).1, h⟩⟩
theorem chd_lt {ps : List Nat} {k j : Nat} (h : j ∈ chd ps k) : j < ps.length := (List.getElem?_eq_some_iff.mp (mem_chd.mp h).2).1
theorem chd_nd (ps : List Nat) (k : Nat) : (chd ps k).Nodup := List.Nodup.sublist List.filter_sublist List.nodup_range
def bt (ms ls : List Str) (ps : List Nat) : Nat → Nat → Tr
  | 0, k => .node (ms.getD k "") (ls.getD k "") []
  | f + 1, k => .node (ms.getD k "") (ls.getD k "") ((chd ps k).map (bt ms ls ps f))
theorem bt_stab {ms ls : List Str} {ps : List Nat} : ∀ {f k : Nat}, ps.length ≤ f + k → k < ps.length → bt ms ls ps (f + 1) k = bt ms ls ps f k
  | 0, k, h, h2 => by omega
  | f + 1, k, h, h2 => by
    rw [bt, bt]
    congr 1
    refine List.map_congr_left fun j hj => ?_
    have := (mem_chd.mp hj).1
    exact bt_stab (by omega) (chd_lt hj)
def tre (ms ls : List Str) (ps : List Nat) (k : Nat) : Tr := bt ms ls ps ps.length k
theorem tre_eq {ms ls : List Str} {ps : List Nat} {k : Nat} (h : k < ps.length) : tre ms ls ps k = .node (ms.getD k "") (ls.getD k "") ((chd ps k).map (tre ms ls ps)) := by
  unfold tre
  obtain ⟨n, e⟩ : ∃ n, ps.length = n + 1 := ⟨ps.length - 1, by omega⟩
  rw [e]
  show Tr.node _ _ _ = _
  congr 1
  refine List.map_congr_left fun j hj => ?_
  have := (mem_chd.mp hj).1
  exact (bt_stab (by omega) (chd_lt hj)).symm
/-- numbers ahead, with their levels -/
structure Par (ps lv : List Nat) : Prop where
  ne : 0 < ps.length
  ln : lv.length = ps.length
  ps0 : ps[0]? = some 0
  lv0 : lv[0]? = some 1
  up : ∀ k p, 0 < k → ps[k]? = some p → p < k ∧ ∃ a, lv[p]? = some a ∧ lv[k]? = some (a + 1)
  mx : ∀ x ∈ lv, x ≤ 25
theorem tre_hgt {ms ls : List Str} {ps lv : List Nat} (h : Par ps lv) : ∀ (n k a : Nat), ps.length ≤ n + k → k < ps.length → lv[k]? = some a → hgt (tre ms ls ps k) + a ≤ 26
  | 0, k, a, h1, h2, _ => by omega
  | n + 1, k, a, h1, h2, h3 => by
    rw [tre_eq h2]
    have hg : hgts ((chd ps k).map (tre ms ls ps)) + a ≤ 25 := by
      have ha := h.mx a (List.mem_of_getElem? h3)
      have : hgts ((chd ps k).map (tre ms ls ps)) ≤ 25 - a := hgts_le fun p hp => by
        obtain ⟨j, hj, rfl⟩ := List.mem_map.mp hp
        have hm := mem_chd.mp hj
        obtain ⟨_, b, e1, e2⟩ := h.up j k (by omega) hm.2
        rw [h3] at e1
        cases e1
        have := tre_hgt (ms := ms) (ls := ls) h n j (a + 1) (by omega) (chd_lt hj) e2
        omega
      omega
    rw [hgt]
    omega
theorem tre_hgt0 {ms ls : List Str} {ps lv : List Nat} (h : Par ps lv) : hgt (tre ms ls ps 0) ≤ 25 := by
  have := tre_hgt (ms := ms) (ls := ls) h ps.length 0 1 (by omega) h.ne h.lv0
  omega
/-! the indexes in page order -/
def idx (ps : List Nat) : Nat → Nat → List Nat
  | 0, k => [k]
  | f + 1, k => k :: (chd ps k).flatMap (idx ps f)
theorem pres_map {α : Type} (g : α → Tr) : ∀ xs : List α, pres (xs.map g) = xs.flatMap fun x => pre (g x)
  | [] => by simp only [List.map_nil, pres, List.flatMap_nil]
  | x :: r => by simp only [List.map_cons, pres, List.flatMap_cons, pres_map g r]
theorem pre_bt {ms ls : List Str} {ps : List Nat} : ∀ f k, (pre (bt ms ls ps f k)).map (fun t => (mrk t, lbl t)) = (idx ps f k).map fun j => (ms.getD j "", ls.getD j "")
  | 0, k => by simp only [bt, idx, pre, pres, List.map_cons, List.map_nil, mrk, lbl]
  | f + 1, k => by
    simp only [bt, idx, pre, List.map_cons, mrk, lbl, pres_map, List.map_flatMap]
    congr 1
    exact congrArg (fun g => List.flatMap g (chd ps k)) (funext fun j => pre_bt f j)
theorem idx_ge {ps : List Nat} : ∀ {f k j : Nat}, j ∈ idx ps f k → k ≤ j
  | 0, k, j, h => by rw [idx, List.mem_singleton] at h; omega
  | f + 1, k, j, h => by
    rw [idx, List.mem_cons, List.mem_flatMap] at h
    rcases h with rfl | ⟨c, hc, h⟩
    · exact Nat.le_refl _
    · have := idx_ge h
      have := (mem_chd.mp hc).1
      omega
theorem idx_self {ps : List Nat} : ∀ {f k : Nat}, k ∈ idx ps f k
  | 0, k => by simp [idx]
  | f + 1, k => by simp [idx]
theorem idx_lt {ps : List Nat} : ∀ {f k j : Nat}, k < ps.length → j ∈ idx ps f k → j < ps.length
  | 0, k, j, hk, h => by rw [idx, List.mem_singleton] at h; omega
  | f + 1, k, j, hk, h => by
    rw [idx, List.mem_cons, List.mem_flatMap] at h
    rcases h with rfl | ⟨c, hc, h⟩
    · exact hk
    · exact idx_lt (chd_lt hc) h
theorem idx_up {ps : List Nat} : ∀ {f k j : Nat}, j ∈ idx ps f k → j ≠ k → ∃ p, ps[j]? = some p ∧ p < j ∧ p ∈ idx ps f k
  | 0, k, j, h, ne => by rw [idx, List.mem_singleton] at h; exact absurd h ne
  | f + 1, k, j, h, ne => by
    rw [idx, List.mem_cons, List.mem_flatMap] at h
    rcases h with rfl | ⟨c, hc, h⟩
    · exact absurd rfl ne
    · by_cases e : j = c
      · subst e
        exact ⟨k, (mem_chd.mp hc).2, (mem_chd.mp hc).1, idx_self⟩
      · obtain ⟨p, h1, h2, h3⟩ := idx_up h e
        exact ⟨p, h1, h2, by rw [idx]; exact List.mem_cons_of_mem _ (List.mem_flatMap.mpr ⟨c, hc, h3⟩)⟩
theorem idx_dj {ps : List Nat} {f k c d : Nat} (hc : c ∈ chd ps k) (hd : d ∈ chd ps k) (ne : c ≠ d) : ∀ n j, j ≤ n → j ∈ idx ps f c → j ∈ idx ps f d → False
  | n, j, hn, h1, h2 => by
    have mc := mem_chd.mp hc
    have md := mem_chd.mp hd
    by_cases e : j = c
    · subst e
      obtain ⟨p, e1, _, e3⟩ := idx_up h2 ne
      rw [mc.2] at e1
      cases e1
      have := idx_ge e3
      omega
    · by_cases e' : j = d
      · subst e'
        obtain ⟨p, e1, _, e3⟩ := idx_up h1 e
        rw [md.2] at e1
        cases e1
        have := idx_ge e3
        omega
      · obtain ⟨p, e1, lt, e3⟩ := idx_up h1 e
        obtain ⟨p', e1', _, e3'⟩ := idx_up h2 e'
        rw [e1] at e1'
        cases e1'
        cases n with
        | zero => omega
        | succ n => exact idx_dj hc hd ne n p (by omega) e3 e3'
theorem nd_flat {α β : Type} {g : α → List β} : ∀ {l : List α}, l.Nodup → (∀ x ∈ l, (g x).Nodup) → (∀ x ∈ l, ∀ y ∈ l, x ≠ y → ∀ z, z ∈ g x → z ∉ g y) → (l.flatMap g).Nodup
  | [], _, _, _ => by simp
  | x :: r, h1, h2, h3 => by
    rw [List.nodup_cons] at h1
    rw [List.flatMap_cons, List.nodup_append]
    refine ⟨h2 x (by simp), nd_flat h1.2 (fun y hy => h2 y (by simp [hy])) (fun a ha b hb => h3 a (by simp [ha]) b (by simp [hb])), fun a ha b hb e => ?_⟩
    subst e
    obtain ⟨y, hy, hay⟩ := List.mem_flatMap.mp hb
    exact h3 x (by simp) y (by simp [hy]) (fun e => h1.1 (e ▸ hy)) a ha hay
theorem idx_nd {ps : List Nat} : ∀ f k, (idx ps f k).Nodup
  | 0, k => by simp [idx]
  | f + 1, k => by
    rw [idx, List.nodup_cons]
    refine ⟨fun h => ?_, nd_flat (chd_nd ps k) (fun c _ => idx_nd f c) (fun c hc d hd ne z h1 h2 => idx_dj hc hd ne z z (Nat.le_refl _) h1 h2)⟩
    obtain ⟨c, hc, h⟩ := List.mem_flatMap.mp h
    have := idx_ge h
    have := (mem_chd.mp hc).1
    omega
theorem idx_dn {ps : List Nat} : ∀ {f k j c : Nat}, ps.length ≤ f + k → j ∈ idx ps f k → c ∈ chd ps j → c ∈ idx ps f k
  | 0, k, j, c, h, hj, hc => by
    rw [idx, List.mem_singleton] at hj
    have := chd_lt hc
    have := (mem_chd.mp hc).1
    omega
  | f + 1, k, j, c, h, hj, hc => by
    rw [idx, List.mem_cons, List.mem_flatMap] at hj ⊢
    rcases hj with rfl | ⟨d, hd, hj⟩
    · exact .inr ⟨c, hc, idx_self⟩
    · have := (mem_chd.mp hd).1
      exact .inr ⟨d, hd, idx_dn (by omega) hj hc⟩
theorem idx_all {ps lv : List Nat} (h : Par ps lv) : ∀ n j, j ≤ n → j < ps.length → j ∈ idx ps ps.length 0
  | n, j, hn, hj => by
    by_cases e : j = 0
    · subst e; exact idx_self
    · have e1 : ps[j]? = some ps[j] := List.getElem?_eq_getElem hj
      have := (h.up j _ (by omega) e1).1
      cases n with
      | zero => omega
      | succ n => exact idx_dn (by omega) (idx_all h n ps[j] (by omega) (by omega)) (mem_chd.mpr ⟨this, e1⟩)
theorem idx_perm {ps lv : List Nat} (h : Par ps lv) : (idx ps ps.length 0).Perm (List.range ps.length) :=
  (List.perm_ext_iff_of_nodup (idx_nd _ _) List.nodup_range).mpr fun j => ⟨fun hj => List.mem_range.mpr (idx_lt h.ne hj), fun hj => idx_all h j j (Nat.le_refl _) (List.mem_range.mp hj)⟩
theorem tre_pre {ms ls : List Str} {ps : List Nat} : (pre (tre ms ls ps 0)).map (fun t => (mrk t, lbl t)) = (idx ps ps.length 0).map fun j => (ms.getD j "", ls.getD j "") := pre_bt _ _
theorem tre_len {ms ls : List Str} {ps lv : List Nat} (h : Par ps lv) : (pre (tre ms ls ps 0)).length = ps.length := by
  have e := congrArg List.length (tre_pre (ms := ms) (ls := ls) (ps := ps))
  rw [List.length_map, List.length_map, (idx_perm h).length_eq, List.length_range] at e
  exact e
theorem tre_marks {ms ls : List Str} {ps : List Nat} : (pre (tre ms ls ps 0)).map mrk = (idx ps ps.length 0).map fun j => ms.getD j "" := by
  have e := congrArg (List.map Prod.fst) (tre_pre (ms := ms) (ls := ls) (ps := ps))
  rw [List.map_map, List.map_map] at e
  exact e
theorem tre_mem {ms ls : List Str} {ps lv : List Nat} (h : Par ps lv) (h1 : ps.length ≤ ms.length) (h2 : ps.length ≤ ls.length) {t : Tr} (ht : t ∈ pre (tre ms ls ps 0)) : mrk t ∈ ms ∧ lbl t ∈ ls := by
  have hm : (mrk t, lbl t) ∈ (pre (tre ms ls ps 0)).map fun t => (mrk t, lbl t) := List.mem_map_of_mem ht
  rw [tre_pre] at hm
  obtain ⟨j, hj, e⟩ := List.mem_map.mp hm
  have hj := idx_lt h.ne hj
  have e1 : ms.getD j "" = mrk t := (Prod.mk.inj e).1
  have e2 : ls.getD j "" = lbl t := (Prod.mk.inj e).2
  rw [List.getD_eq_getElem?_getD, List.getElem?_eq_getElem (by omega)] at e1 e2
  exact ⟨by rw [← e1]; exact List.getElem_mem _, by rw [← e2]; exact List.getElem_mem _⟩
theorem tre_nd {ms ls : List Str} {ps lv : List Nat} (h : Par ps lv) (h1 : ps.length ≤ ms.length) (nd : ms.Nodup) : ((pre (tre ms ls ps 0)).map mrk).Nodup := by
  rw [tre_marks]
  unfold List.Nodup
  rw [List.pairwise_map]
  refine List.Pairwise.imp_of_mem (R := (· ≠ ·)) (fun {a b} ha hb ne e => ne ?_) (idx_nd _ _)
  have la := idx_lt h.ne ha
  have lb := idx_lt h.ne hb
  rw [List.getD_eq_getElem?_getD, List.getD_eq_getElem?_getD, List.getElem?_eq_getElem (by omega), List.getElem?_eq_getElem (by omega)] at e
  exact (List.getElem_inj nd).mp e
theorem tre_root {ms ls : List Str} {ps : List Nat} : mrk (tre ms ls ps 0) = ms.getD 0 "" := by
  unfold tre
  cases ps.length <;> simp [bt, mrk]

section
variable {P : Program} {w : World} {K : PySem.W.Frag} {mg : Str → Option Value} {base : Heap}
/-! ### parents -/
def nv (n : Nat) : V := .int (n : Nat)
theorem Par.one : Par [0] [1] := ⟨by decide, rfl, rfl, rfl, fun k p h0 h => by
  have := (List.getElem?_eq_some_iff.mp h).1
  simp at this
  omega, fun x hx => by simp at hx; omega⟩
theorem Par.snoc {ps lv : List Nat} {a x : Nat} (h : Par ps lv) (ha : lv[a]? = some x) (hx : x ≤ 24) : Par (ps ++ [a]) (lv ++ [x + 1]) := by
  have al := (List.getElem?_eq_some_iff.mp ha).1
  have hl := h.ln
  refine ⟨by simp, by simp [hl], by rw [List.getElem?_append_left h.ne]; exact h.ps0, by rw [List.getElem?_append_left (by rw [hl]; exact h.ne)]; exact h.lv0, fun k p k0 hk => ?_, fun y hy => ?_⟩
  · by_cases e : k < ps.length
    · rw [List.getElem?_append_left e] at hk
      obtain ⟨h1, b, h2, h3⟩ := h.up k p k0 hk
      exact ⟨h1, b, by rw [List.getElem?_append_left (by omega)]; exact h2, by rw [List.getElem?_append_left (by omega)]; exact h3⟩
    · rw [List.getElem?_append_right (by omega)] at hk
      have e1 := (List.getElem?_eq_some_iff.mp hk).1
      rw [List.length_singleton] at e1
      have e2 : k = ps.length := by omega
      subst e2
      rw [Nat.sub_self] at hk
      cases hk
      refine ⟨by omega, x, by rw [List.getElem?_append_left al]; exact ha, ?_⟩
      rw [List.getElem?_append_right (by omega), hl, Nat.sub_self]
      rfl
  · rcases List.mem_append.mp hy with z | z
    · exact h.mx y z
    · rw [List.mem_singleton.mp z]; omega
theorem nv_get {xs : List Nat} {i x : Nat} (h : xs[i]? = some x) : (xs.map nv)[i]? = some (.int (x : Nat)) := by
  rw [List.getElem?_map, h]
  rfl
def spPar : Sp := fun vs H Q _ => ∃ (G : Hp) (M : List (Addr × HO)) (b : Addr) (o : HO) (n : Nat), vs = [.ref b, .int (n : Nat)] ∧ Sep G ((b, o) :: M) H ∧ Bag G o ∧ 1 ≤ n ∧ n ≤ 1000 ∧
  ∀ (l : Addr) (ps lv : List Nat) (o' : HO) (G' H' : Hp), Same G G' → G' l = some (.lst (ps.map nv)) → ps.length = n → Par ps lv → Bag G' o' → Sep G' ((b, o') :: M) H' → Q (.ref l) H'
theorem ok_parents (T : Top K mg w) {k : Nat} (G_pick : FnOk P w K mg base CX0 k T.a_pick T.d_pick ["_law_bag_here", "_law_many"] spPick) : FnOk P w K mg base CX0 (k + 1) T.a_parents T.d_parents ["_law_bag_here", "_law_count"] spPar := by
  refine T.F_parents.ok sc_parents (fun vs H Q E h => ?_) (fun cdv A outer s H vs Q E hr h => ?_)
  · obtain ⟨G, M, b, o, n, rfl, _⟩ := h
    rfl
  · obtain ⟨G, M, b, o, n, rfl, S, B, n1, n5, q⟩ := h
    refine ⟨_, (pss_cons (ps_set (i := 2) sc_parents.nd rfl (.inl rfl) (pe_call G_pick (hr.mono (by omega)) (by rfl) T.g_pick T.F_pick.kp T.b_pick .nil pass0 (pa_cons (xv 0) (pa_cons pe_int pa_nil))))
      (pss_cons (ps_set (i := 3) sc_parents.nd rfl (.inl rfl) (pe_lst (pa_cons pe_int pa_nil)))
      (pss_cons (ps_set (i := 4) sc_parents.nd rfl (.inl rfl) (pe_lst (pa_cons pe_int pa_nil)))
      (pss_cons (ps_for PassesOwn.never rfl (pi_range2 (by rfl) T.m_range (pa_cons pe_int (pa_cons (xv 1) pa_nil))) (pg_name (i := 5) sc_parents.nd rfl (.inl rfl))
      (pss_cons (ps_set (i := 6) sc_parents.nd rfl (.inl rfl) pe_int)
      (xss_cut (xs_if (xt_cmp op_ltY (xv 2) pe_int (nomark _))
      (pss_one (ps_set (i := 6) sc_parents.nd rfl (.inl rfl) (pe_call G_pick (hr.mono (by omega)) (by rfl) T.g_pick T.F_pick.kp T.b_pick .nil pass0 (pa_cons (xv 0) (pa_cons (xv 5) pa_nil)))))
      (pss_one (xs_if (xt_cmp (op_eqLK K hr.u190) (xv 2) pe_int (nomark _))
      (pss_one (ps_set (i := 6) sc_parents.nd rfl (.inl rfl) (pe_op op_subY (xv 5) pe_int)))
      (pss_one (xs_if (xt_cmp (op_eqLK K hr.u190) (xv 2) pe_int (nomark _))
      (pss_one (ps_set (i := 6) sc_parents.nd rfl (.inl rfl) (pe_op op_divY (pe_op op_subY (xv 5) pe_int) pe_int)))
      pss_nil)))))
      (xss_cut (xs_if (xt_cmp op_gtY (pe_ix (ix_k K) (xv 4) (xv 6) (fun _ _ => rfl)) pe_int (nomark _))
      (pss_one (ps_set (i := 6) sc_parents.nd rfl (.inl rfl) pe_int))
      pss_nil)
      (pss_cons (ps_expr (pe_bmK K PySem.F.plainAttrs_list PySem.F.slot_list_append PySem.F.type_list_append mt_append (xv 3) (pa_cons (xv 6) pa_nil)))
      (pss_one (ps_expr (pe_bmK K PySem.F.plainAttrs_list PySem.F.slot_list_append PySem.F.type_list_append mt_append (xv 4) (pa_cons (pe_op op_addY (pe_ix (ix_k K) (xv 4) (xv 6) (fun _ _ => rfl)) pe_int) pa_nil)))))))))
      (pss_one (ps_ret (xv 3))))))), ?_⟩
    refine ⟨G, M, b, o, 5, rfl, S, B, by decide, by decide, fun r o1 H1 r0 r1 B1 S1 => ?_⟩
    refine ⟨sz, fun O nO => ?_⟩
    have S2 := S1.new (o := .lst [.int 0]) nO
    refine ⟨sz, fun L nL => ?_⟩
    have S3 := S2.new (o := .lst [.int 1]) nL
    refine ⟨_, _, rfl, ⟨by omega, by omega, by omega, by omega⟩, for_range (lo := 1) (n := ((n : Int) - 1).toNat) (fun i σ H' => ∃ (y5 y6 : Option V) (o' : HO) (ps lv : List Nat), σ = [some (.ref b), some (.int (n : Nat)), some (.int r), some (.ref O), some (.ref L), y5, y6] ∧
      ps.length = i + 1 ∧ Par ps lv ∧ Bag G o' ∧ Sep G ((L, .lst (lv.map nv)) :: (O, .lst (ps.map nv)) :: (b, o') :: M) H') ⟨_, _, o1, [0], [1], rfl, rfl, Par.one, B1, S3⟩ (fun i σ H' hi h => ?_) (fun σ H' h => ?_)⟩
    · obtain ⟨y5, y6, o', ps, lv, rfl, pl, pp, B', S'⟩ := h
      have ek : (1 : Int) + (i : Nat) = ((i + 1 : Nat) : Int) := by omega
      rw [ek]
      have ll := pp.ln
      -- which one
      refine ⟨fun σ H' => ∃ (a : Nat) (o' : HO), σ = [some (.ref b), some (.int (n : Nat)), some (.int r), some (.ref O), some (.ref L), some (.int ((i + 1 : Nat) : Int)), some (.int (a : Nat))] ∧ a < ps.length ∧ Bag G o' ∧ Sep G ((L, .lst (lv.map nv)) :: (O, .lst (ps.map nv)) :: (b, o') :: M) H', ⟨fun e => ?_, fun e => ⟨fun e => ?_, fun e => ⟨fun e => ?_, fun e => ?_⟩⟩⟩, fun σ H4 h => ?_⟩
      · have Sb := S'.perm (List.perm_append_comm (l₁ := [_, _]) (l₂ := _ :: M))
        refine ⟨G, _, b, o', _, rfl, Sb, B', by omega, by omega, fun r3 o3 H3 r30 r31 B3 S3 => ?_⟩
        obtain ⟨a, rfl⟩ := Int.eq_ofNat_of_zero_le r30
        exact ⟨a, o3, rfl, by omega, B3, S3.perm (List.perm_append_comm (l₁ := _ :: M) (l₂ := [_, _]))⟩
      · exact ⟨i, o', by rw [show ((i + 1 : Nat) : Int) - 1 = (i : Nat) by omega]; rfl, by omega, B', S'⟩
      · refine ⟨⟨by decide, by decide⟩, fun d ed d0 => ?_⟩
        have ed2 : d = ((i / 2 : Nat) : Int) := by rw [ed]; omega
        subst ed2
        exact ⟨i / 2, o', rfl, by omega, B', S'⟩
      · exact ⟨0, o', rfl, by omega, B', S'⟩
      · obtain ⟨a, o4, rfl, al, B4, S4⟩ := h
        obtain ⟨x, hx⟩ : ∃ x, lv[a]? = some x := ⟨lv[a]'(by omega), List.getElem?_eq_getElem (by omega)⟩
        refine ⟨fun σ H' => ∃ (a x : Nat), σ = [some (.ref b), some (.int (n : Nat)), some (.int r), some (.ref O), some (.ref L), some (.int ((i + 1 : Nat) : Int)), some (.int (a : Nat))] ∧ lv[a]? = some x ∧ x ≤ 24 ∧ H' = H4, ⟨_, _, .inl (SqL.of S4.hd), atI_nat (nv_get hx), fun e => ?_, fun e => ?_⟩, fun σ H5 h => ?_⟩
        · exact ⟨0, 1, rfl, pp.lv0, by decide, rfl⟩
        · have := of_decide_eq_false e
          exact ⟨a, x, rfl, hx, by omega, rfl⟩
        obtain ⟨a2, x2, rfl, hx2, x24, rfl⟩ := h
        refine ⟨.inl ⟨rfl, _, SqL.of S4.sw.hd⟩, O, _, _, rfl, rfl, S4.sw.hd, by rw [List.length_map]; exact smallL (by omega), ?_⟩
        have S5 := (S4.sw.set (o' := .lst (ps.map nv ++ [nv a2]))).sw
        refine ⟨.inl ⟨rfl, _, SqL.of S5.hd⟩, _, _, .inl (SqL.of S5.hd), atI_nat (nv_get hx2), L, _, _, rfl, rfl, S5.hd, by rw [List.length_map]; exact smallL (by omega), ?_⟩
        refine ⟨_, _, o4, ps ++ [a2], lv ++ [x2 + 1], rfl, by rw [List.length_append, pl]; rfl, pp.snoc hx2 x24, B4, ?_⟩
        rw [List.map_append, List.map_append]
        exact S5.set
    · obtain ⟨y5, y6, o', ps, lv, rfl, pl, pp, B', S'⟩ := h
      have S4 := S'.drop
      exact q O ps lv o' _ _ S4.frzS upd_same (by omega) pp (B'.same S4.frzS) S4.frz

end
end K11
set_option Elab.async false
set_option linter.all false
set_option maxRecDepth 100000
set_option maxHeartbeats 4000000
namespace K11
open PySem PySem.Spec PyProof.Rows L2 XL
section
variable {P : Program} {w : World} {K : PySem.W.Frag} {mg : Str → Option Value} {base : Heap}
/-! ### the table of a tree -/
abbrev Rw := Tr × Option Str × Nat × Nat
mutual
def tb (u : Option Str) (i lv : Nat) : Tr → List Rw
  | .node m l ks => (.node m l ks, u, i, lv) :: tbs m 0 (lv + 1) ks
def tbs (m : Str) (i lv : Nat) : List Tr → List Rw
  | [] => []
  | s :: r => tb (some m) i lv s ++ tbs m (i + 1) lv r
end
def kr (m : Str) (i lv : Nat) : List Tr → List Rw
  | [] => []
  | s :: r => (s, some m, i, lv) :: kr m (i + 1) lv r
def tbF : List Rw → List Rw
  | [] => []
  | (s, u, i, lv) :: r => tb u i lv s ++ tbF r
theorem tbF_app : ∀ xs ys, tbF (xs ++ ys) = tbF xs ++ tbF ys
  | [], ys => by simp only [List.nil_append, tbF]
  | (s, u, i, lv) :: r, ys => by simp only [List.cons_append, tbF, tbF_app r ys, List.append_assoc]
theorem tbs_eq (m : Str) (lv : Nat) : ∀ (ks : List Tr) (i : Nat), tbs m i lv ks = tbF (kr m i lv ks)
  | [], i => by simp only [tbs, kr, tbF]
  | s :: r, i => by simp only [tbs, kr, tbF, tbs_eq m lv r]
theorem tb_eq (u : Option Str) (i lv : Nat) (t : Tr) : tb u i lv t = (t, u, i, lv) :: tbF (kr (mrk t) 0 (lv + 1) (kids t)) := by
  cases t
  simp only [tb, mrk, kids, tbs_eq]
theorem kr_get (m : Str) (lv : Nat) : ∀ (ks : List Tr) (i k : Nat), (kr m i lv ks)[k]? = (ks[k]?).map fun s => (s, some m, i + k, lv)
  | [], i, k => by simp [kr]
  | s :: r, i, 0 => by simp [kr]
  | s :: r, i, k + 1 => by
    rw [kr, List.getElem?_cons_succ, List.getElem?_cons_succ, kr_get m lv r (i + 1) k]
    rw [show i + 1 + k = i + (k + 1) by omega]
theorem kr_len (m : Str) (lv : Nat) : ∀ (ks : List Tr) (i : Nat), (kr m i lv ks).length = ks.length
  | [], _ => rfl
  | _ :: r, i => congrArg (· + 1) (kr_len m lv r (i + 1))
mutual
theorem tb_pre (u : Option Str) (i lv : Nat) : ∀ t, (tb u i lv t).map (·.1) = pre t
  | .node m l ks => by simp only [tb, pre, List.map_cons, tbs_pre]
theorem tbs_pre (m : Str) (i lv : Nat) : ∀ ts, (tbs m i lv ts).map (·.1) = pres ts
  | [] => by simp only [tbs, pres, List.map_nil]
  | t :: r => by simp only [tbs, pres, List.map_append, tb_pre, tbs_pre]
end
theorem tb_len (u : Option Str) (i lv : Nat) (t : Tr) : (tb u i lv t).length = (pre t).length := by
  have := congrArg List.length (tb_pre u i lv t)
  rw [List.length_map] at this
  exact this
theorem tbF_many : ∀ rs : List Rw, rs.length ≤ (tbF rs).length
  | [] => by simp [tbF]
  | (s, u, i, lv) :: r => by
    have := tbF_many r
    have e := congrArg List.length (tb_eq u i lv s)
    rw [List.length_cons] at e
    simp only [tbF, List.length_append, List.length_cons]
    omega
def oV : Option Str → V
  | some m => .str m
  | none => .non
def RwAt (K : PySem.W.Frag) (G : Hp) (v : V) (r : Rw) : Prop := ∃ a v1, v = .ref a ∧ G a = some (.tup [v1, oV r.2.1, .int (r.2.2.1 : Nat), .int (r.2.2.2 : Nat)]) ∧ Dp K G v1 (toD r.1)
theorem RwAt.same {K : PySem.W.Frag} {G G' : Hp} {v : V} {r : Rw} (e : Same G G') (h : RwAt K G v r) : RwAt K G' v r := by
  obtain ⟨a, v1, h1, h2, h3⟩ := h
  exact ⟨a, v1, h1, e _ _ h2, dp_same e h3⟩
theorem rws_same {K : PySem.W.Frag} {G G' : Hp} {us : List V} {rs : List Rw} (e : Same G G') (h : Paired (RwAt K G) us rs) : Paired (RwAt K G') us rs := prd_imp (fun _ _ => RwAt.same e) h
theorem rev_cons {α : Type} {ts : List α} {xs : List α} {x : α} (h : ts.reverse = xs ++ [x]) : ∃ r, ts = x :: r ∧ r.reverse = xs := by
  have := congrArg List.reverse h
  rw [List.reverse_reverse, List.reverse_append] at this
  exact ⟨xs.reverse, by simpa using this, List.reverse_reverse xs⟩
theorem rev_snoc {α : Type} {ts : List α} {xs : List α} {x : α} (h : ts.reverse = xs ++ [x]) : ∃ r, ts = x :: r ∧ r.reverse = xs := by
  have := congrArg List.reverse h
  rw [List.reverse_reverse, List.reverse_append] at this
  exact ⟨xs.reverse, by simpa using this, List.reverse_reverse xs⟩
def spTab (K : PySem.W.Frag) : Sp := fun vs H Q _ => ∃ (G : Hp) (M : List (Addr × HO)) (v : V) (t : Tr), vs = [v] ∧ Sep G M H ∧ Dp K G v (toD t) ∧ (pre t).length ≤ 1000 ∧
  ∀ (l : Addr) (us : List V) (G' H' : Hp), Same G G' → G' l = some (.lst us) → Paired (RwAt K G') us (tb none 0 1 t) → Sep G' M H' → Q (.ref l) H'
theorem prd_snocR {α β : Type} {F : α → β → Prop} {ws : List α} {w0 : α} {bs : List β} (h : Paired F (ws ++ [w0]) bs) : ∃ bs' b, bs = bs' ++ [b] ∧ Paired F ws bs' ∧ F w0 b := prd_unsnoc h
theorem ok_table (T : Top K mg w) {k : Nat} : FnOk P w K mg base CX0 (k + 1) T.a_table T.d_table ["_law_root"] (spTab K) := by
  refine T.F_table.ok sc_table (fun vs H Q E h => ?_) (fun cdv A outer s H vs Q E hr h => ?_)
  · obtain ⟨G, M, v, t, rfl, _⟩ := h
    rfl
  · obtain ⟨G, M, v, t, rfl, S, hv, pl, q⟩ := h
    refine ⟨_, (pss_cons (ps_set (i := 1) sc_table.nd rfl (.inl rfl) (pe_lst pa_nil))
      (pss_cons (ps_set (i := 2) sc_table.nd rfl (.inl rfl) (pe_lst (pa_cons (pe_tup (pa_cons (xv 0) (pa_cons pe_non (pa_cons pe_int (pa_cons pe_int pa_nil))))) pa_nil)))
      (pss_cons (xs_while PassesOwn.never (xt_truK K (xv 2))
      (pss_cons (ps_asg (pe_bm0 PySem.F.plainAttrs_list PySem.F.slot_list_pop PySem.F.type_list_pop mt_pop (xv 2)) (pg_tupK K 4 (pgs_cons (pg_name (i := 3) sc_table.nd rfl (.inl rfl)) (pgs_cons (pg_name (i := 4) sc_table.nd rfl (.inl rfl)) (pgs_cons (pg_name (i := 5) sc_table.nd rfl (.inl rfl)) (pgs_cons (pg_name (i := 6) sc_table.nd rfl (.inl rfl)) pgs_nil))))))
      (pss_cons (ps_expr (pe_bmK K PySem.F.plainAttrs_list PySem.F.slot_list_append PySem.F.type_list_append mt_append (xv 1) (pa_cons (pe_tup (pa_cons (xv 3) (pa_cons (xv 4) (pa_cons (xv 5) (pa_cons (xv 6) pa_nil))))) pa_nil)))
      (pss_one (ps_for PassesOwn.never rfl (pi_range3 (by rfl) T.m_range (pa_cons (pe_op op_subY (pe_callB (cr_lenK K) (by rfl) T.m_len (by decide +kernel) (pa_cons (pe_ix (ix_k K) (xv 3) pe_int (fun _ _ => rfl)) pa_nil)) pe_int) (pa_cons (pe_un un_neg pe_int) (pa_cons (pe_un un_neg pe_int) pa_nil)))) (pg_name (i := 7) sc_table.nd rfl (.inl rfl))
      (pss_one (ps_expr (pe_bmK K PySem.F.plainAttrs_list PySem.F.slot_list_append PySem.F.type_list_append mt_append (xv 2) (pa_cons (pe_tup (pa_cons (pe_ix (ix_k K) (pe_ix (ix_k K) (xv 3) pe_int (fun _ _ => rfl)) (xv 7) (fun _ _ => rfl)) (pa_cons (pe_ix (ix_k K) (xv 3) pe_int (fun _ _ => rfl)) (pa_cons (xv 7) (pa_cons (pe_op op_addY (xv 6) pe_int) pa_nil))))) pa_nil)))))))))
      (pss_one (ps_ret (xv 1)))))), ?_⟩
    refine ⟨sz, fun O nO => ?_⟩
    have S1 := S.new (o := .lst []) nO
    refine ⟨sz, fun p1 np1 => ⟨sz, fun W nW => ?_⟩⟩
    obtain ⟨G2, s2, S2, h2⟩ := Sep.mk (o := .tup [v, .non, .int 0, .int 1]) S1 np1
    have S3 := S2.new (o := .lst [.ref p1]) nW
    refine ⟨fun m σ H' => ∃ (y3 y4 y5 y6 y7 : Option V) (os ws : List V) (dn ts : List Rw) (G' : Hp), σ = [some v, some (.ref O), some (.ref W), y3, y4, y5, y6, y7] ∧ Same G2 G' ∧ m = (tbF ts).length ∧ dn ++ tbF ts = tb none 0 1 t ∧ Paired (RwAt K G') os dn ∧ Paired (RwAt K G') ws ts.reverse ∧ Sep G' ((W, .lst ws) :: (O, .lst os) :: M) H',
      ⟨(tb none 0 1 t).length, _, _, _, _, _, [], [.ref p1], [], [(t, none, 0, 1)], G2, rfl, Same.refl _, by simp [tbF], by simp [tbF], .nil, .cons ⟨p1, v, rfl, h2, dp_same s2 hv⟩ .nil, S3⟩, fun m σ H' h => ?_⟩
    obtain ⟨y3, y4, y5, y6, y7, os, ws, dn, ts, G4, rfl, s4, rfl, hall, hos, hws, S4⟩ := h
    have al := congrArg List.length hall
    rw [List.length_append, tb_len] at al
    have ol := prd_len hos
    have wl := prd_len hws
    rw [List.length_reverse] at wl
    rcases nil_or_snoc ws with ew | ⟨wp, w0, ew⟩
    · subst ew
      refine ⟨!([] : List V).isEmpty, .inl ⟨_, SqL.of S4.hd, rfl⟩, (fun e => nomatch e), fun _ => ?_⟩
      have e0 : ts = [] := List.length_eq_zero_iff.mp wl.symm
      subst e0
      have e1 : dn = tb none 0 1 t := by simpa [tbF] using hall
      rw [e1] at hos
      have S5 := S4.drop
      exact q O os _ _ ((s2.trans s4).trans S5.frzS) upd_same (rws_same S5.frzS hos) S5.frz
    · subst ew
      have ne : (!(wp ++ [w0]).isEmpty) = true := by simp
      refine ⟨!(wp ++ [w0]).isEmpty, .inl ⟨_, SqL.of S4.hd, rfl⟩, fun _ => ?_, fun e => absurd (ne.symm.trans e) (by decide)⟩
      obtain ⟨bs', r0, eb, hwp, hw0⟩ := prd_unsnoc hws
      obtain ⟨tr, rfl, etr⟩ := rev_snoc eb
      obtain ⟨t0, u0, i0, l0⟩ := r0
      obtain ⟨a, v1, rfl, ha, hv1⟩ := hw0
      replace hv1 : Dp K G4 v1 (toD t0) := hv1
      have S5 := S4.set (o' := .lst wp)
      refine ⟨.inl ⟨rfl, _, SqL.of S4.hd⟩, W, wp ++ [.ref a], .ref a, rfl, rfl, S4.hd, by simp, ?_⟩
      rw [List.dropLast_concat]
      refine ⟨a, _, rfl, SqT.of (S5.st ha), rfl, _, _, rfl, _, _, rfl, _, _, rfl, _, _, rfl, rfl, ?_⟩
      have mny := tbF_many (kr (mrk t0) 0 (l0 + 1) (kids t0) ++ tr)
      have el := congrArg List.length (tb_eq u0 i0 l0 t0)
      have e1 : tbF ((t0, u0, i0, l0) :: tr) = (t0, u0, i0, l0) :: tbF (kr (mrk t0) 0 (l0 + 1) (kids t0) ++ tr) := by
        rw [tbF_app]
        simp only [tbF]
        rw [tb_eq, List.cons_append]
      rw [e1] at hall al ⊢
      rw [List.length_cons] at al
      rw [List.length_append, kr_len] at mny
      rw [List.length_append] at wl
      -- out.append((node, above, at, level))
      refine ⟨.inl ⟨rfl, _, SqL.of S5.sw.hd⟩, sz, fun p6 np6 => ?_⟩
      obtain ⟨G6, s6, S6, h6⟩ := Sep.mk (o := .tup [v1, oV u0, .int (i0 : Nat), .int (l0 : Nat)]) S5 np6
      refine ⟨O, os, .ref p6, rfl, rfl, S6.sw.hd, smallL (by omega), ?_⟩
      have S7 := (S6.sw.set (o' := .lst (os ++ [.ref p6]))).sw
      obtain ⟨a0, kv, kus, rfl, ha0, hkv, hkus⟩ := node_at hv1
      have kl := dpa_len hkus
      rw [List.length_map] at kl
      refine ⟨_, _, .inr (S7.t (same_t s6 ha0)), atI_nat (j := 2) rfl, _, .inr (S7.t (same_t s6 hkv)), ?_⟩
      rw [kl]
      refine ⟨1, rfl, 1, rfl, _, _, _, (kids t0).length, rfl, ?_, for_rangeC (lo := ((kids t0).length : Int) - 1) (c := -1) (n := (kids t0).length) (fun j σ H' => ∃ (y7 : Option V) (ws' : List V) (G' : Hp), σ = [some v, some (.ref O), some (.ref W), some (.ref a0), some (oV u0), some (.int (i0 : Nat)), some (.int (l0 : Nat)), y7] ∧ Same G6 G' ∧
        Paired (RwAt K G') ws' ((kr (mrk t0) 0 (l0 + 1) (kids t0)).drop ((kids t0).length - j) ++ tr).reverse ∧ Sep G' ((W, .lst ws') :: (O, .lst (os ++ [.ref p6])) :: M) H') ⟨_, wp, G6, rfl, Same.refl _, ?_, S7⟩ (fun j σ H' hj h => ?_) (fun σ H' h => ?_)⟩
      · have := RgC.neg (i := ((kids t0).length : Int) - 1) (j := -1) (by omega) (by omega) (by omega) (by omega)
        have e : (((kids t0).length : Int) - 1 - -1).toNat = (kids t0).length := by omega
        rw [e] at this
        exact this
      · rw [Nat.sub_zero, List.drop_of_length_le (by rw [kr_len]; exact Nat.le_refl _), List.nil_append, etr]
        exact rws_same s6 hwp
      · obtain ⟨y7, ws', G8, rfl, s8, hws', S8⟩ := h
        have ek : ((kids t0).length : Int) - 1 + (j : Nat) * (-1) = (((kids t0).length - 1 - j : Nat) : Int) := by omega
        rw [ek]
        have s68 := s6.trans s8
        have hkd : (kids t0).length - 1 - j < (kids t0).length := by omega
        generalize ekk : (kids t0).length - 1 - j = kk at *
        have hku : kus[kk]? = some (kus[kk]'(by omega)) := List.getElem?_eq_getElem (by omega)
        obtain ⟨d, hd, hdd⟩ := dpa_get hkus hku
        obtain ⟨c, hc, rfl⟩ := map_get hd
        have wl' := prd_len hws'
        rw [List.length_reverse, List.length_append, List.length_drop, kr_len] at wl'
        refine ⟨.inl ⟨rfl, _, SqL.of S8.hd⟩, _, _, .inr (S8.t (same_t s68 ha0)), atI_nat (j := 2) rfl, _, _, .inr (S8.t (same_t s68 hkv)), atI_nat hku, _, _, .inr (S8.t (same_t s68 ha0)), atI_nat (j := 0) rfl, sz, fun p9 np9 => ?_⟩
        obtain ⟨G9, s9, S9, h9⟩ := Sep.mk (o := .tup [kus[kk]'(by omega), .str (mrk t0), .int (kk : Nat), .int ((l0 : Int) + 1)]) S8 np9
        refine ⟨W, ws', .ref p9, rfl, rfl, S9.hd, smallL (by omega), _, ws' ++ [.ref p9], G9, rfl, s8.trans s9, ?_, S9.set⟩
        have eg := kr_get (mrk t0) (l0 + 1) (kids t0) 0 kk
        rw [hc, Nat.zero_add] at eg
        have ed : (kr (mrk t0) 0 (l0 + 1) (kids t0)).drop ((kids t0).length - (j + 1)) = (c, some (mrk t0), kk, l0 + 1) :: (kr (mrk t0) 0 (l0 + 1) (kids t0)).drop ((kids t0).length - j) := by
          have h1 : (kids t0).length - (j + 1) = kk := by omega
          have h2 : (kids t0).length - j = kk + 1 := by omega
          rw [h1, h2, List.drop_eq_getElem_cons (by rw [kr_len]; omega)]
          congr 1
          exact (List.getElem?_eq_some_iff.mp eg).2
        rw [ed, List.cons_append, List.reverse_cons]
        exact prd_app (rws_same s9 hws') (.cons ⟨p9, _, rfl, h9, dp_same (s68.trans s9) hdd⟩ .nil)
      · obtain ⟨y7, ws', G8, rfl, s8, hws', S8⟩ := h
        rw [Nat.sub_self, List.drop_zero] at hws'
        refine ⟨(tbF (kr (mrk t0) 0 (l0 + 1) (kids t0) ++ tr)).length, by rw [List.length_cons]; omega, _, _, _, _, _, os ++ [.ref p6], ws', dn ++ [(t0, u0, i0, l0)], kr (mrk t0) 0 (l0 + 1) (kids t0) ++ tr, G8, rfl, s4.trans (s6.trans s8), rfl, by rw [List.append_assoc]; exact hall, ?_, hws', S8⟩
        exact prd_app (rws_same (s6.trans s8) hos) (.cons ⟨p6, _, rfl, s8 _ _ h6, dp_same (s6.trans s8) hv1⟩ .nil)
def spMarked (K : PySem.W.Frag) : Sp := fun vs H Q _ => ∃ (G : Hp) (M : List (Addr × HO)) (v : V) (t : Tr), vs = [v] ∧ Sep G M H ∧ Dp K G v (toD t) ∧ (pre t).length ≤ 1000 ∧
  ∀ (l : Addr) (G' H' : Hp), Same G G' → G' l = some (.lst (((pre t).map mrk).map V.str)) → Sep G' M H' → Q (.ref l) H'
theorem ok_marked (T : Top K mg w) {k : Nat} (G_table : FnOk P w K mg base CX0 k T.a_table T.d_table ["_law_root"] (spTab K)) : FnOk P w K mg base CX0 (k + 1) T.a_marked T.d_marked ["_law_root"] (spMarked K) := by
  refine T.F_marked.ok sc_marked (fun vs H Q E h => ?_) (fun cdv A outer s H vs Q E hr h => ?_)
  · obtain ⟨G, M, v, t, rfl, _⟩ := h
    rfl
  · obtain ⟨G, M, v, t, rfl, S, hv, pl, q⟩ := h
    refine ⟨_, (pss_one (ps_ret (pe_lc (own := [("_law_row", 1)]) (by rfl) sc_marked.nd (pi_listK K (pe_call G_table (hr.mono (by omega)) (by rfl) T.g_table T.F_table.kp T.b_table .nil pass0 (pa_cons (xv 0) pa_nil))) (blkOk_by (N := ["_law_root", "_law_row"]) (sc := defScope s_marked) (by decide +kernel)) (fun _ _ _ _ _ => (pg_name (i := 1) sc_marked.nd rfl (.inl rfl))) (fun _ _ _ _ _ => pts_nil) (fun _ _ _ _ _ => (pe_ix (ix_k K) (pe_ix (ix_k K) (xv 1) pe_int (fun _ _ => rfl)) pe_int (fun _ _ => rfl)))))), ?_⟩
    refine ⟨G, M, v, t, rfl, S, hv, pl, fun l us G1 H1 s1 hl hus S1 => ⟨l, rfl, ⟨_, SqL.of (S1.st hl)⟩, fun D nD => lc_at (xs := us) (fun i H' => Sep G1 ((D, .lst ((((pre t).map mrk).take i).map V.str)) :: M) H') (S1.new nD) (fun i H' p => SqL.of (p.st hl)) (fun _ => rfl) (fun i x H' hx p => ?_) (fun H' p => ?_)⟩⟩
    · obtain ⟨r, hr', a, v1, rfl, ha, hv1⟩ := prd_get hus hx
      obtain ⟨a0, kv, kus, rfl, ha0, hkv, hkus⟩ := node_at hv1
      have hm : ((pre t).map mrk)[i]? = some (mrk r.1) := by
        rw [← tb_pre none 0 1 t, List.map_map, List.getElem?_map, hr']
        rfl
      have il := (List.getElem?_eq_some_iff.mp hm).1
      rw [List.length_map] at il
      refine ⟨_, _, .inr (SqT.of (p.st ha)), atI_nat (j := 0) rfl, _, _, .inr (p.t ha0), atI_nat (j := 0) rfl, _, p.hd, by rw [List.length_map, List.length_take, List.length_map]; exact smallL (by omega), ?_⟩
      rw [take_snoc hm, List.map_append]
      exact p.set
    · have ul := prd_len hus
      rw [tb_len] at ul
      rw [ul, List.take_of_length_le (by rw [List.length_map]; exact Nat.le_refl _)] at p
      exact q D _ _ (s1.trans p.frzS) upd_same p.frz

end
end K11
set_option Elab.async false
set_option linter.all false
set_option maxRecDepth 100000
set_option maxHeartbeats 4000000
namespace K11
open PySem PySem.Spec PyProof.Rows L2 XL
section
variable {P : Program} {w : World} {K : PySem.W.Frag} {mg : Str → Option Value} {base : Heap}
/-! ### nodes_of, from_below -/
theorem dpa_unsnoc {K : PySem.W.Frag} {G : Hp} {xs : List V} {x : V} {ds : List PyData} (h : DpAll K G (xs ++ [x]) ds) : ∃ ds' d, ds = ds' ++ [d] ∧ DpAll K G xs ds' ∧ Dp K G x d := by
  induction xs generalizing ds with
  | nil =>
    cases h with
    | cons h t =>
      cases t
      exact ⟨[], _, rfl, .nil, h⟩
  | cons a xs ih =>
    cases h with
    | cons h t =>
      obtain ⟨ds', d, rfl, h1, h2⟩ := ih t
      exact ⟨_ :: ds', d, rfl, .cons h h1, h2⟩
theorem dpa_rev {K : PySem.W.Frag} {G : Hp} : ∀ {xs : List V} {ds : List PyData}, DpAll K G xs ds → DpAll K G xs.reverse ds.reverse
  | _, _, .nil => .nil
  | _, _, .cons h t => by
    rw [List.reverse_cons, List.reverse_cons]
    exact dpa_app (dpa_rev t) (dpa_one h)
theorem map_snoc {ts : List Tr} {ds : List PyData} {d : PyData} (h : ts.map toD = ds ++ [d]) : ∃ ts' t, ts = ts' ++ [t] ∧ ts'.map toD = ds ∧ toD t = d := by
  rcases nil_or_snoc ts with rfl | ⟨ts', t, rfl⟩
  · simp at h
  · rw [List.map_append] at h
    obtain ⟨h1, h2⟩ := List.append_inj' h rfl
    exact ⟨ts', t, rfl, h1, by simpa using h2⟩
def spNodes (K : PySem.W.Frag) : Sp := fun vs H Q _ => ∃ (G : Hp) (M : List (Addr × HO)) (v : V) (t : Tr), vs = [v] ∧ Sep G M H ∧ Dp K G v (toD t) ∧ (pre t).length ≤ 1000 ∧
  ∀ (l : Addr) (us : List V) (G' H' : Hp), Same G G' → G' l = some (.lst us) → DpAll K G' us ((pre t).map toD) → Sep G' M H' → Q (.ref l) H'
theorem ok_nodes_of (T : Top K mg w) {k : Nat} : FnOk P w K mg base CX0 (k + 1) T.a_nodes_of T.d_nodes_of ["root"] (spNodes K) := by
  refine T.F_nodes_of.ok sc_nodes_of (fun vs H Q E h => ?_) (fun cdv A outer s H vs Q E hr h => ?_)
  · obtain ⟨G, M, v, t, rfl, _⟩ := h
    rfl
  · obtain ⟨G, M, v, t, rfl, S, hv, pl, q⟩ := h
    refine ⟨_, (pss_cons (ps_set (i := 1) sc_nodes_of.nd rfl (.inl rfl) (pe_lst pa_nil))
      (pss_cons (ps_set (i := 2) sc_nodes_of.nd rfl (.inl rfl) (pe_lst (pa_cons (xv 0) pa_nil)))
      (pss_cons (xs_while PassesOwn.never (xt_truK K (xv 2))
      (pss_cons (ps_set (i := 3) sc_nodes_of.nd rfl (.inl rfl) (pe_bm0 PySem.F.plainAttrs_list PySem.F.slot_list_pop PySem.F.type_list_pop mt_pop (xv 2)))
      (pss_cons (ps_expr (pe_bmK K PySem.F.plainAttrs_list PySem.F.slot_list_append PySem.F.type_list_append mt_append (xv 1) (pa_cons (xv 3) pa_nil)))
      (pss_one (ps_expr (pe_bmK K PySem.F.plainAttrs_list PySem.F.slot_list_extend PySem.F.type_list_extend (mt_extT K) (xv 2) (pa_cons (pe_revTK K (pe_ix (ix_k K) (xv 3) pe_int (fun _ _ => rfl)) (pe_str (pe_un un_neg pe_int) fun _ _ _ h => ⟨1, rfl, h⟩)) pa_nil)))))))
      (pss_one (ps_ret (xv 1)))))), ?_⟩
    refine ⟨sz, fun O nO => ?_⟩
    have S1 := S.new (o := .lst []) nO
    refine ⟨sz, fun W nW => ?_⟩
    have S2 := S1.new (o := .lst [v]) nW
    refine ⟨fun m σ H' => ∃ (y3 : Option V) (os ws : List V) (dn ts : List Tr) (G' : Hp), σ = [some v, some (.ref O), some (.ref W), y3] ∧ Same G G' ∧ m = (pres ts).length ∧ dn ++ pres ts = pre t ∧ DpAll K G' os (dn.map toD) ∧ DpAll K G' ws (ts.reverse.map toD) ∧ ts.length ≤ (pres ts).length ∧ Sep G' ((W, .lst ws) :: (O, .lst os) :: M) H',
      ⟨(pre t).length, _, [], [v], [], [t], G, rfl, Same.refl _, by rw [pres_one], by rw [pres_one]; rfl, .nil, dpa_one hv, by rw [pres_one, pre_eq]; simp, S2⟩, fun m σ H' h => ?_⟩
    obtain ⟨y3, os, ws, dn, ts, G1, rfl, s1, rfl, hall, hos, hws, htl, S3⟩ := h
    have al := congrArg List.length hall
    rw [List.length_append] at al
    have ol := dpa_len hos
    rw [List.length_map] at ol
    have wl := dpa_len hws
    rw [List.length_map, List.length_reverse] at wl
    rcases nil_or_snoc ws with ew | ⟨wp, w0, ew⟩
    · subst ew
      refine ⟨!([] : List V).isEmpty, .inl ⟨_, SqL.of S3.hd, rfl⟩, (fun e => nomatch e), fun _ => ?_⟩
      have e0 : ts = [] := List.length_eq_zero_iff.mp wl.symm
      subst e0
      have e1 : dn = pre t := by simpa [pres] using hall
      rw [e1] at hos
      have S4 := S3.drop
      exact q O os _ _ (s1.trans S4.frzS) upd_same (dpa_same S4.frzS hos) S4.frz
    · subst ew
      have ne : (!(wp ++ [w0]).isEmpty) = true := by simp
      refine ⟨!(wp ++ [w0]).isEmpty, .inl ⟨_, SqL.of S3.hd, rfl⟩, fun _ => ?_, fun e => absurd (ne.symm.trans e) (by decide)⟩
      obtain ⟨ds', d, eds, hwp, hw0⟩ := dpa_unsnoc hws
      obtain ⟨tr', t0, ert, emp, rfl⟩ := map_snoc eds
      obtain ⟨tr, ets, etr⟩ := rev_cons ert
      subst ets
      have S4 := S3.set (o' := .lst wp)
      refine ⟨.inl ⟨rfl, _, SqL.of S3.hd⟩, W, wp ++ [w0], w0, rfl, rfl, S3.hd, by simp, ?_⟩
      rw [List.dropLast_concat]
      have S5 := S4.sw.set (o' := .lst (os ++ [w0]))
      refine ⟨.inl ⟨rfl, _, SqL.of S4.sw.hd⟩, O, os, w0, rfl, rfl, S4.sw.hd, smallL (by omega), ?_⟩
      obtain ⟨a0, kv, kus, rfl, ha0, hkv, hkus⟩ := node_at hw0
      have kl := dpa_len hkus
      rw [List.length_map] at kl
      refine ⟨.inl ⟨rfl, _, SqL.of S5.sw.hd⟩, _, _, .inr (S5.t ha0), atI_nat (j := 2) rfl, kv, kus, rfl, S5.t hkv, fun p6 np6 => ?_⟩
      obtain ⟨G6, s6, S6, h6⟩ := Sep.mk (o := .tup kus.reverse) S5 np6
      have pe : pres (t0 :: tr) = t0 :: pres (kids t0 ++ tr) := by
        simp only [pres]
        rw [pre_eq, List.cons_append, pres_app]
      rw [pe] at hall htl al
      have kml := many_le (kids t0 ++ tr)
      rw [List.length_append] at kml
      rw [List.length_cons] at wl al htl
      rw [List.length_append, List.length_singleton] at wl
      refine ⟨W, p6, wp, kus.reverse, rfl, rfl, S6.sw.hd, SqT.of (S6.st h6), small (by rw [List.length_reverse]; omega), ?_⟩
      refine ⟨(pres (kids t0 ++ tr)).length, by rw [pe, List.length_cons]; omega, _, os ++ [.ref a0], wp ++ kus.reverse, dn ++ [t0], kids t0 ++ tr, G6, rfl, s1.trans s6, rfl, by rw [List.append_assoc]; exact hall, ?_, ?_, by rw [List.length_append]; exact kml, S6.sw.set⟩
      · rw [List.map_append]
        exact dpa_app (dpa_same s6 hos) (dpa_one (dp_same s6 hw0))
      · rw [List.reverse_append, List.map_append, etr, emp, List.map_reverse]
        exact dpa_app (dpa_same s6 hwp) (dpa_rev (dpa_same s6 hkus))

end
end K11
set_option Elab.async false
set_option linter.all false
set_option maxRecDepth 100000
set_option maxHeartbeats 4000000
namespace K11
open PySem PySem.Spec PyProof.Rows L2 XL
/-! ### who stands above -/
def alF (ps : List Tr) : List (Str × Option Str) := ps.flatMap fun p => (kids p).map fun c => (mrk c, some (mrk p))
def al (t : Tr) : List (Str × Option Str) := (mrk t, none) :: alF (pre t)
theorem alF_app (xs ys : List Tr) : alF (xs ++ ys) = alF xs ++ alF ys := by
  unfold alF
  rw [List.flatMap_append]
theorem alF_keys (ps : List Tr) : (alF ps).map (·.1) = ps.flatMap fun p => (kids p).map mrk := by
  unfold alF
  rw [List.map_flatMap]
  exact congrArg (fun g => List.flatMap g ps) (funext fun p => by rw [List.map_map]; rfl)
mutual
theorem cm_perm : ∀ t, (mrk t :: (alF (pre t)).map (·.1)).Perm ((pre t).map mrk)
  | .node m l ks => by
    have h := cms_perm ks
    simp only [pre, List.map_cons, mrk]
    refine List.Perm.cons _ ?_
    rw [alF_keys] at h ⊢
    rw [List.flatMap_cons]
    exact h
theorem cms_perm : ∀ ts, (ts.map mrk ++ (alF (pres ts)).map (·.1)).Perm ((pres ts).map mrk)
  | [] => by simp [pres, alF]
  | t :: r => by
    have h1 := cm_perm t
    have h2 := cms_perm r
    simp only [pres, alF_app, List.map_append, List.map_cons]
    refine List.Perm.trans ?_ (h1.append h2)
    rw [List.cons_append, List.cons_append]
    refine List.Perm.cons _ ?_
    rw [← List.append_assoc, ← List.append_assoc]
    exact List.Perm.append_right _ List.perm_append_comm
end
theorem al_perm (t : Tr) : ((al t).map (·.1)).Perm ((pre t).map mrk) := cm_perm t
def alK (xs : List (Str × Option Str)) : List (Key × V) := xs.map fun x => (Sum.inr x.1, oV x.2)
theorem alK_keys (xs : List (Str × Option Str)) : (alK xs).map (·.1) = (xs.map (·.1)).map (fun m => (Sum.inr m : Key)) := by
  unfold alK
  rw [List.map_map, List.map_map]
  rfl
theorem valV_mem {k : Key} {v : V} : ∀ {kvs : List (Key × V)}, (kvs.map (·.1)).Nodup → (k, v) ∈ kvs → valV kvs k = some v
  | [], _, h => nomatch h
  | (k', v') :: r, nd, h => by
    rw [List.map_cons, List.nodup_cons] at nd
    rcases List.mem_cons.mp h with e | h
    · cases e
      exact valV_pos rfl
    · rw [valV_neg (fun e => nd.1 ?_)]
      · exact valV_mem nd.2 h
      · have := List.mem_map_of_mem (f := Prod.fst) h
        first | exact e ▸ this | exact e.symm ▸ this
theorem nd_inr {xs : List Str} (h : xs.Nodup) : (xs.map (fun m => (Sum.inr m : Key))).Nodup := by
  unfold List.Nodup
  rw [List.pairwise_map]
  exact h.imp fun ne e => ne (Sum.inr.inj e)
mutual
theorem tb_at (u : Option Str) (i lv : Nat) : ∀ (t : Tr) (r : Rw), r ∈ tb u i lv t → (r.1 = t ∧ r.2.1 = u ∧ r.2.2.1 = i) ∨ ∃ p ∈ pre t, (kids p)[r.2.2.1]? = some r.1 ∧ r.2.1 = some (mrk p)
  | .node m l ks, r, h => by
    rw [tb, List.mem_cons] at h
    rcases h with rfl | h
    · exact .inl ⟨rfl, rfl, rfl⟩
    · rcases tbs_at m 0 (lv + 1) ks r h with ⟨h1, k, h2, h3⟩ | ⟨p, h1, h2⟩
      · exact .inr ⟨.node m l ks, by simp [pre], by rw [h3, Nat.zero_add]; exact h2, h1⟩
      · exact .inr ⟨p, by simp [pre, h1], h2⟩
theorem tbs_at (m : Str) (i lv : Nat) : ∀ (ts : List Tr) (r : Rw), r ∈ tbs m i lv ts → (r.2.1 = some m ∧ ∃ k, ts[k]? = some r.1 ∧ r.2.2.1 = i + k) ∨ ∃ p ∈ pres ts, (kids p)[r.2.2.1]? = some r.1 ∧ r.2.1 = some (mrk p)
  | [], r, h => by rw [tbs] at h; exact nomatch h
  | s :: ts, r, h => by
    rw [tbs, List.mem_append] at h
    rcases h with h | h
    · rcases tb_at (some m) i lv s r h with ⟨h1, h2, h3⟩ | ⟨p, h1, h2⟩
      · exact .inl ⟨h2, 0, by rw [h1]; rfl, h3⟩
      · exact .inr ⟨p, by simp [pres, h1], h2⟩
    · rcases tbs_at m (i + 1) lv ts r h with ⟨h1, k, h2, h3⟩ | ⟨p, h1, h2⟩
      · exact .inl ⟨h1, k + 1, h2, by omega⟩
      · exact .inr ⟨p, by simp [pres, h1], h2⟩
end
theorem tb_al {t : Tr} {r : Rw} (h : r ∈ tb none 0 1 t) : (mrk r.1, r.2.1) ∈ al t := by
  rcases tb_at none 0 1 t r h with ⟨h1, h2, _⟩ | ⟨p, h1, h2, h3⟩
  · rw [h1, h2]; exact List.mem_cons_self
  · refine List.mem_cons_of_mem _ (List.mem_flatMap.mpr ⟨p, h1, ?_⟩)
    rw [h3]
    exact List.mem_map.mpr ⟨r.1, List.mem_of_getElem? h2, rfl⟩
theorem al_val {t : Tr} {r : Rw} (nd : ((pre t).map mrk).Nodup) (h : r ∈ tb none 0 1 t) : valV (alK (al t)) (Sum.inr (mrk r.1)) = some (oV r.2.1) := by
  refine valV_mem ?_ (List.mem_map.mpr ⟨_, tb_al h, rfl⟩)
  rw [alK_keys]
  exact nd_inr ((al_perm t).nodup_iff.mpr nd)
theorem row_of {t p : Tr} (h : p ∈ pre t) : ∃ r, r ∈ tb none 0 1 t ∧ r.1 = p := by
  rw [← tb_pre none 0 1 t] at h
  obtain ⟨r, hr, e⟩ := List.mem_map.mp h
  exact ⟨r, hr, e⟩
/-! ### the first mark that came before -/
def tw (seen : List Str) : List Str → Option Str
  | [] => none
  | m :: r => if m ∈ seen then some m else tw (seen ++ [m]) r
theorem tw_app : ∀ (l seen r : List Str), tw seen (l ++ r) = match tw seen l with
    | some x => some x
    | none => tw (seen ++ l) r
  | [], seen, r => by simp [tw]
  | m :: l, seen, r => by
    rw [List.cons_append, tw, tw]
    by_cases h : m ∈ seen
    · rw [if_pos h, if_pos h]
    · rw [if_neg h, if_neg h, tw_app l, List.append_assoc]
      rfl
theorem tw_none : ∀ (l seen : List Str), seen.Nodup → (tw seen l = none ↔ (seen ++ l).Nodup)
  | [], seen, h => by simp [tw, h]
  | m :: l, seen, h => by
    rw [tw]
    by_cases hm : m ∈ seen
    · rw [if_pos hm]
      refine ⟨fun e => (nomatch e), fun e => ?_⟩
      rw [List.nodup_append] at e
      exact absurd rfl (e.2.2 m hm m List.mem_cons_self)
    · rw [if_neg hm]
      have h2 : (seen ++ [m]).Nodup := by
        rw [List.nodup_append]
        exact ⟨h, by simp, fun a ha b hb e => hm (by rw [List.mem_singleton.mp hb] at e; exact e ▸ ha)⟩
      rw [tw_none l _ h2, List.append_assoc]
      rfl
theorem tw_nd {l : List Str} : tw [] l = none ↔ l.Nodup := tw_none l [] List.nodup_nil
theorem tw_at {l : List Str} {i : Nat} {m : Str} (h : l[i]? = some m) (nd : (l.take i).Nodup) (hm : m ∈ l.take i) : tw [] l = some m := by
  have e := (take_pre h).1
  rw [e, tw_app, tw_nd.mpr nd]
  show tw ([] ++ l.take i) (m :: _) = _
  rw [List.nil_append, tw, if_pos hm]

section
variable {P : Program} {w : World} {K : PySem.W.Frag} {mg : Str → Option Value} {base : Heap}
/-! ### pages -/
structure PgAt (K : PySem.W.Frag) (C : Addr) (G : Hp) (p : Addr) (t : Tr) : Prop where
  ex : ∃ (dx N A O : Addr) (v : V) (us : List V) (kn : List (Key × V)), G p = some (.ins C dx [("tree", v), ("nodes", .ref N), ("above", .ref A), ("order", .ref O)]) ∧ Dp K G v (toD t) ∧ G N = some (.dK kn) ∧ G A = some (.dK (alK (al t))) ∧ G O = some (.lst (((pre t).map mrk).map V.str)) ∧
    DpAll K G us ((pre t).map toD) ∧ kn = (((pre t).map mrk).map (fun m => (Sum.inr m : Key))).zip us
theorem PgAt.same {K : PySem.W.Frag} {C : Addr} {G G' : Hp} {p : Addr} {t : Tr} (e : Same G G') (h : PgAt K C G p t) : PgAt K C G' p t := by
  obtain ⟨dx, N, A, O, v, us, kn, h1, h2, h3, h4, h5, h6, h7⟩ := h.ex
  exact ⟨dx, N, A, O, v, us, kn, e _ _ h1, dp_same e h2, e _ _ h3, e _ _ h4, e _ _ h5, dpa_same e h6, h7⟩
def dueP (K : PySem.W.Frag) (C Cw Cm : Addr) (G : Hp) (M : List (Addr × HO)) (x : Addr) (t : Tr) (Q : VK) (E : XK) : Prop :=
  (((pre t).map mrk).Nodup → (pre t).length ≤ 400 → ∀ (G' H' : Hp), Same G G' → PgAt K C G' x t → Sep G' M H' → Q .non H') ∧
  (∀ m, tw [] ((pre t).map mrk) = some m → ∀ (G' H' : Hp) (N : List (Addr × HO)) (dd : Addr), Same G G' → Sep G' (N ++ M) H' → H' dd = none → E (.ref Cw) (some dd) (upd H' dd (.xd [("mark", .str m)]))) ∧
  (((pre t).map mrk).Nodup → 400 < (pre t).length → ∀ (G' H' : Hp) (N : List (Addr × HO)) (dd : Addr), Same G G' → Sep G' (N ++ M) H' → H' dd = none → E (.ref Cm) (some dd) (upd H' dd (.xd [("count", .int ((pre t).length : Nat))])))
def spPage (K : PySem.W.Frag) (C Cw Cm : Addr) : Sp := fun vs H Q E => ∃ (G : Hp) (M : List (Addr × HO)) (x dx : Addr) (v : V) (t : Tr), vs = [.ref x, v] ∧ Sep G ((x, .ins C dx []) :: M) H ∧ Dp K G v (toD t) ∧ (pre t).length ≤ 1000 ∧ (∀ p ∈ pre t, Tx 1 60 (mrk p)) ∧ dueP K C Cw Cm G M x t Q E
theorem valV_none {kvs : List (Key × V)} {k : Key} (h : k ∉ kvs.map (·.1)) : valV kvs k = none := by
  induction kvs with
  | nil => rfl
  | cons p r ih =>
    rw [List.map_cons, List.mem_cons, not_or] at h
    rw [valV_neg (fun e => h.1 e.symm)]
    exact ih h.2
theorem valV_none_iff {kvs : List (Key × V)} {k : Key} (nd : (kvs.map (·.1)).Nodup) (h : k ∈ kvs.map (·.1)) : (valV kvs k).isSome = true := by
  obtain ⟨⟨k', v'⟩, h1, rfl⟩ := List.mem_map.mp h
  rw [valV_mem nd h1]
  rfl
theorem putK_new {kvs : List (Key × V)} {k : Key} {v : V} (h : valV kvs k = none) : putK kvs k v = kvs ++ [(k, v)] := by
  unfold putK
  rw [valV_any, h]
  rfl
theorem putK_len (kvs : List (Key × V)) (k : Key) (v : V) : (putK kvs k v).length ≤ kvs.length + 1 := by
  unfold putK
  split
  · rw [List.length_map]; omega
  · simp
mutual
theorem sub_pre {p : Tr} : ∀ t, p ∈ pre t → (pres (kids p)).length ≤ (pre t).length
  | .node m l ks, h => by
    simp only [pre, List.mem_cons, List.length_cons] at h ⊢
    rcases h with rfl | h
    · simp only [kids]; omega
    · have := sub_pres ks h
      omega
theorem sub_pres {p : Tr} : ∀ ts, p ∈ pres ts → (pres (kids p)).length ≤ (pres ts).length
  | [], h => by simp [pres] at h
  | t :: r, h => by
    simp only [pres, List.mem_append, List.length_append] at h ⊢
    rcases h with h | h
    · have := sub_pre t h; omega
    · have := sub_pres r h; omega
end
theorem sub_len {p t : Tr} (h : p ∈ pre t) : (pres (kids p)).length ≤ (pre t).length := sub_pre t h
theorem repr_short {z : Str} {n : Nat} (h : ∀ c ∈ z.cps.toList, c < 128) (l : z.length ≤ n) (hn : n ≤ 1000) : (reprText z).length ≤ 100000 := by
  have := PySem.StrLaws.reprText_len z fun c hc => Nat.lt_trans (h c hc) (by decide)
  omega
theorem Tx.rp {a b : Nat} {z : Str} (h : Tx a b z) (hb : b ≤ 1000) : RpV (.str z) := .inl ⟨_, rfl, repr_short h.ch h.hi hb⟩
theorem ok_Page_init (T : Top K mg w) (pf : PySem.XExc.PF P T.x_file) {k : Nat} (G_nodes_of : FnOk P w K mg base CX0 (k + 1) T.a_nodes_of T.d_nodes_of ["root"] (spNodes K)) : FnOk P w K mg base (L2.CX P w) (k + 2) T.a_Page_init T.d_Page_init ["self", "root"] (spPage K T.C_Page T.C_TwiceMarked T.C_TooMany) := by
  refine T.F_Page_init.okX sc_Page_init (fun vs H Q E h => ?_) (fun cdv A outer s H vs Q E hr h => ?_)
  · obtain ⟨G, M, x, dx, v, t, rfl, _⟩ := h
    rfl
  · obtain ⟨G, M, x, dx, v, t, rfl, S, hv, pl, tx, q, qw, qm⟩ := h
    refine ⟨_, (pss_cons (ps_set (i := 2) sc_Page_init.nd rfl (.inl rfl) pe_dnewK)
      (pss_cons (ps_set (i := 3) sc_Page_init.nd rfl (.inl rfl) (pe_disp (pps_cons (pe_ix (ix_k K) (xv 1) pe_int (fun _ _ => rfl)) pe_non pps_nil) (by rfl) (by rfl) (fun z => by cases z) (by decide)))
      (pss_cons (ps_set (i := 4) sc_Page_init.nd rfl (.inl rfl) (pe_lst pa_nil))
      (pss_cons (ps_for (passes_of rfl) rfl (pi_listK K (pe_call G_nodes_of (hr.mono (by omega)) (by rfl) T.g_nodes_of T.F_nodes_of.kp T.b_nodes_of .nil pass0 (pa_cons (xv 1) pa_nil))) (pg_name (i := 5) sc_Page_init.nd rfl (.inl rfl))
      (pss_cons (xs_if (pt_cmp (pc_din (hu_of hr) (pe_ix (ix_k K) (xv 5) pe_int (fun _ _ => rfl)) (xv 2)))
      (pss_one (ps_raiseX (k := 0) rfl (T.x_TwiceMarked P pf) (hr.mono (by omega)) (takes_of rfl rfl rfl rfl) (pa_cons (pe_ix (ix_k K) (xv 5) pe_int (fun _ _ => rfl)) pa_nil)))
      pss_nil)
      (pss_cons (ps_dput (hu_of hr) (xv 2) (pe_ix (ix_k K) (xv 5) pe_int (fun _ _ => rfl)) (xv 5) rfl)
      (pss_cons (ps_expr (pe_bmK K PySem.F.plainAttrs_list PySem.F.slot_list_append PySem.F.type_list_append mt_append (xv 4) (pa_cons (pe_ix (ix_k K) (xv 5) pe_int (fun _ _ => rfl)) pa_nil)))
      (pss_one (ps_for (passes_of rfl) rfl (pi_tupK K (pe_ix (ix_k K) (xv 5) pe_int (fun _ _ => rfl))) (pg_name (i := 6) sc_Page_init.nd rfl (.inl rfl))
      (pss_one (ps_dput (hu_of hr) (xv 3) (pe_ix (ix_k K) (xv 6) pe_int (fun _ _ => rfl)) (pe_ix (ix_k K) (xv 5) pe_int (fun _ _ => rfl)) rfl))))))))
      (pss_cons (xs_if (xt_cmp op_gtY (pe_callB (cr_lenK K) (by rfl) T.m_len (by decide +kernel) (pa_cons (xv 4) pa_nil)) (xe_globI (by rfl) T.v_MOST_NODES) (nomark _))
      (pss_one (ps_raiseX (k := 0) rfl (T.x_TooMany P pf) (hr.mono (by omega)) (takes_of rfl rfl rfl rfl) (pa_cons (pe_callB (cr_lenK K) (by rfl) T.m_len (by decide +kernel) (pa_cons (xv 4) pa_nil)) pa_nil)))
      pss_nil)
      (pss_cons (ps_fld (xv 0) (xv 1) rfl)
      (pss_cons (ps_fld (xv 0) (xv 2) rfl)
      (pss_cons (ps_fld (xv 0) (xv 3) rfl)
      (pss_one (ps_fld (xv 0) (xv 4) rfl)))))))))), ?_⟩
    obtain ⟨a0, kv0, kus0, rfl, ha0, hkv0, hkus0⟩ := node_at hv
    refine fun N nN => ?_
    have S1 := S.new (o := .dK []) nN
    refine fun A' nA => ?_
    have S2 := S1.new (o := .dK []) nA
    refine ⟨_, _, .inr (S2.t ha0), atI_nat (j := 0) rfl, S2.hd, [(Sum.inr (mrk t), V.non)], rfl, by simp, sz, fun O nO => ?_⟩
    have S3 := (S2.set (o' := .dK (mergeK [] [(Sum.inr (mrk t), V.non)]))).new (o := .lst []) nO
    refine ⟨G, _, _, t, rfl, S3, hv, by omega, fun D us G1 H1 s1 hD hus S4 => ?_⟩
    have ul := dpa_len hus
    rw [List.length_map] at ul
    refine ⟨D, rfl, ⟨us, SqL.of (S4.st hD)⟩, for_list (xs := us) (fun i σ H' => ∃ (y5 y6 : Option V) (ka : List (Key × V)), σ = [some (.ref x), some (.ref a0), some (.ref N), some (.ref A'), some (.ref O), y5, y6] ∧ ka.length ≤ 1 + 1000 * i ∧ (((pre t).take i).map mrk).Nodup ∧
      (((pre t).map mrk).Nodup → ka = alK ((mrk t, none) :: alF ((pre t).take i))) ∧
      Sep G1 ((O, .lst ((((pre t).take i).map mrk).map V.str)) :: (A', .dK ka) :: (N, .dK (((((pre t).take i).map mrk).map (fun m => (Sum.inr m : Key))).zip (us.take i))) :: (x, .ins T.C_Page dx []) :: M) H')
      ⟨_, _, _, rfl, (show (mergeK [] [(Sum.inr (mrk t), V.non)] : List (Key × V)).length ≤ 1 from Nat.le_refl _), List.nodup_nil, fun _ => rfl, S4⟩ (fun i σ H' _ h => ?_) (fun i u σ H' hu h => ?_) (fun σ H' h => ?_)⟩
    · obtain ⟨_, _, _, _, _, _, _, S'⟩ := h
      exact SqL.of (S'.st hD)
    · obtain ⟨y5, y6, ka, rfl, kal, ndi, kae, S5⟩ := h
      obtain ⟨d, hd, hud⟩ := dpa_get hus hu
      obtain ⟨p, hp, rfl⟩ := map_get hd
      obtain ⟨a, kv, kus, rfl, ha, hkv, hkus⟩ := node_at hud
      have il := (List.getElem?_eq_some_iff.mp hp).1
      have pm := List.mem_of_getElem? hp
      have kl := dpa_len hkus
      rw [List.length_map] at kl
      have kml := many_le (kids p)
      have kcl : (pres (kids p)).length ≤ (pre t).length := sub_len pm
      have tkl : ((pre t).take i).length = i := by rw [List.length_take]; omega
      have utl : (us.take i).length = i := by rw [List.length_take]; omega
      have keys : ((((((pre t).take i).map mrk).map (fun m => (Sum.inr m : Key))).zip (us.take i)).map (·.1)) = (((pre t).take i).map mrk).map (fun m => (Sum.inr m : Key)) := List.map_fst_zip (by rw [List.length_map, List.length_map, tkl, utl]; exact Nat.le_refl _)
      have hmi : ((pre t).map mrk)[i]? = some (mrk p) := by rw [List.getElem?_map, hp]; rfl
      have SN := S5.perm (List.perm_append_comm_assoc [_, _] [_] _)
      refine ⟨_, _, .inr (S5.t ha), atI_nat (j := 0) rfl, N, _, rfl, DGet.k (k := Sum.inr (mrk p)) SN.hd, _, rfl, ?_⟩
      by_cases hin : mrk p ∈ ((pre t).take i).map mrk
      · have et : tw [] ((pre t).map mrk) = some (mrk p) := tw_at hmi (by rw [← List.map_take]; exact ndi) (by rw [← List.map_take]; exact hin)
        refine ⟨fun _ => ?_, fun e => ?_⟩
        · refine ⟨_, _, .inr (S5.t ha), atI_nat (j := 0) rfl, _, rfl, (tx p pm).rp (by decide), fun dd ndd => ?_⟩
          exact qw _ et G1 _ [_, _, _, _] dd s1 S5 ndd
        · rw [valV_none_iff (by rw [keys]; exact nd_inr ndi) (by rw [keys]; exact List.mem_map_of_mem hin)] at e
          exact nomatch e
      have free : valV ((((((pre t).take i).map mrk).map (fun m => (Sum.inr m : Key))).zip (us.take i))) (Sum.inr (mrk p)) = none := valV_none (by
        rw [keys]
        intro hm
        obtain ⟨m, hm1, hm2⟩ := List.mem_map.mp hm
        cases hm2
        exact hin hm1)
      rw [free]
      refine ⟨ff, fun _ => ?_⟩
      refine ⟨_, _, .inr (S5.t ha), atI_nat (j := 0) rfl, N, _, rfl, DPut.k (k := Sum.inr (mrk p)) SN.hd (smallL (by rw [List.length_zip, utl]; omega)), ?_⟩
      rw [putK_new free]
      have S6 := SN.set (o' := .dK (((((pre t).take i).map mrk).map (fun m => (Sum.inr m : Key))).zip (us.take i) ++ [(Sum.inr (mrk p), V.ref a)]))
      refine ⟨.inl ⟨rfl, _, SqL.of S6.sw.hd⟩, _, _, .inr (S6.t ha), atI_nat (j := 0) rfl, O, _, _, rfl, rfl, S6.sw.hd, smallL (by rw [List.length_map, List.length_map, tkl]; omega), ?_⟩
      have S7 := S6.sw.set (o' := .lst ((((pre t).take i).map mrk).map V.str ++ [V.str (mrk p)]))
      have S8 := S7.perm (List.perm_append_comm_assoc [_, _] [_] _)
      refine ⟨_, _, .inr (S7.t ha), atI_nat (j := 2) rfl, kv, rfl, ⟨kus, S7.t hkv⟩, for_tup (xs := kus) (fun j σ H' => ∃ (y6 : Option V) (ka' : List (Key × V)), σ = [some (.ref x), some (.ref a0), some (.ref N), some (.ref A'), some (.ref O), some (.ref a), y6] ∧ ka'.length ≤ 1 + 1000 * i + j ∧
        (((pre t).map mrk).Nodup → ka' = alK ((mrk t, none) :: (alF ((pre t).take i) ++ ((kids p).take j).map fun c => (mrk c, some (mrk p))))) ∧
        Sep G1 ((A', .dK ka') :: (O, .lst ((((pre t).take i).map mrk).map V.str ++ [V.str (mrk p)])) :: (N, .dK (((((pre t).take i).map mrk).map (fun m => (Sum.inr m : Key))).zip (us.take i) ++ [(Sum.inr (mrk p), V.ref a)])) :: (x, .ins T.C_Page dx []) :: M) H')
        ⟨_, ka, rfl, by omega, fun nd => by rw [kae nd, List.take_zero, List.map_nil, List.append_nil], S8⟩ (fun j σ H' _ h => ?_) (fun j c σ H' hc h => ?_) (fun σ H' h => ?_)⟩
      · obtain ⟨_, _, _, _, _, S'⟩ := h
        exact S'.t hkv
      · obtain ⟨y6, ka', rfl, kal', kae', S9⟩ := h
        obtain ⟨d, hd, hcd⟩ := dpa_get hkus hc
        obtain ⟨pc, hpc, rfl⟩ := map_get hd
        obtain ⟨ac, kvc, kusc, rfl, hac, _, _⟩ := node_at hcd
        have jl := (List.getElem?_eq_some_iff.mp hpc).1
        refine ⟨_, _, .inr (S9.t ha), atI_nat (j := 0) rfl, _, _, .inr (S9.t hac), atI_nat (j := 0) rfl, A', _, rfl, DPut.k (k := Sum.inr (mrk pc)) S9.hd ?_, _, _, rfl, ?_, fun nd => ?_, S9.set⟩
        · have : 1000 * i ≤ 1000 * 1000 := Nat.mul_le_mul_left _ (by omega)
          rw [sizeLine_eq]
          omega
        · have := putK_len ka' (Sum.inr (mrk pc)) (.str (mrk p))
          omega
        · have nda := (al_perm t).nodup_iff.mpr nd
          have e1 : al t = (mrk t, none) :: (alF ((pre t).take i) ++ ((kids p).take j).map fun c => (mrk c, some (mrk p))) ++ (mrk pc, some (mrk p)) :: (((kids p).drop (j + 1)).map (fun c => (mrk c, some (mrk p))) ++ alF ((pre t).drop (i + 1))) := by
            unfold al
            conv => lhs; rw [(take_pre hp).1]
            rw [alF_app]
            have e2 : alF (p :: (pre t).drop (i + 1)) = ((kids p).map fun c => (mrk c, some (mrk p))) ++ alF ((pre t).drop (i + 1)) := by
              unfold alF
              rw [List.flatMap_cons]
            have e3 : ((kids p).map fun c => (mrk c, some (mrk p))) = ((kids p).take j).map (fun c => (mrk c, some (mrk p))) ++ (mrk pc, some (mrk p)) :: ((kids p).drop (j + 1)).map (fun c => (mrk c, some (mrk p))) := by
              conv => lhs; rw [(take_pre hpc).1]
              rw [List.map_append, List.map_cons]
            rw [e2, e3]
            simp only [List.cons_append, List.append_assoc]
          rw [kae' nd]
          have fr : valV (alK ((mrk t, none) :: (alF ((pre t).take i) ++ ((kids p).take j).map fun c => (mrk c, some (mrk p))))) (Sum.inr (mrk pc)) = none := valV_none (by
            rw [alK_keys]
            intro hm
            obtain ⟨m, hm1, hm2⟩ := List.mem_map.mp hm
            cases hm2
            rw [e1, List.map_append, List.map_cons, List.nodup_append] at nda
            exact nda.2.2 _ hm1 _ List.mem_cons_self rfl)
          rw [putK_new fr, take_snoc hpc, List.map_append, ← List.append_assoc, ← List.cons_append]
          unfold alK
          simp only [List.map_append, List.map_cons, List.map_nil, List.cons_append, List.append_assoc]
          rfl
      · obtain ⟨y6, ka', rfl, kal', kae', S9⟩ := h
        rw [kl, List.take_length] at kae'
        refine ⟨_, _, ka', rfl, by omega, ?_, fun nd => ?_, ?_⟩
        · rw [take_snoc hp, List.map_append, List.nodup_append]
          exact ⟨ndi, by simp, fun a ha b hb e => hin (by rw [show b = mrk p by simpa using hb] at e; exact e ▸ ha)⟩
        · rw [kae' nd, take_snoc hp, alF_app]
          congr 2
          unfold alF
          rw [List.flatMap_singleton]
        · rw [take_snoc hp, take_snoc hu, List.map_append, List.map_append, List.map_append, List.zip_append (by rw [List.length_map, List.length_map, tkl, utl])]
          exact S9.sw
    · obtain ⟨y5, y6, ka, rfl, kal, ndi, kae, S5⟩ := h
      rw [ul, List.take_length] at ndi kae
      rw [ul, List.take_length, List.take_of_length_le (by omega)] at S5
      have ln : (((pre t).map mrk).map V.str).length = (pre t).length := by rw [List.length_map, List.length_map]
      refine ⟨_, .inl (SqL.of S5.hd), fun e => ?_, fun e => ?_⟩
      · have e4 := of_decide_eq_true e
        rw [ln] at e4
        refine ⟨_, .inl (SqL.of S5.hd), _, rfl, ?_, fun dd ndd => ?_⟩
        · rw [ln]
          exact .inr ⟨_, rfl, lgS (by omega) (by omega)⟩
        · rw [ln]
          exact qm ndi (by omega) G1 _ [_, _, _, _] dd s1 S5 ndd
      have e4 : (pre t).length ≤ 400 := by
        have := of_decide_eq_false e
        rw [ln] at this
        omega
      have SX := S5.perm (List.perm_append_comm_assoc [_, _, _] [_] _)
      refine ⟨x, T.C_Page, dx, [], rfl, SX.hd, T.cl_Page, T.na_Page_tree, by decide, ?_⟩
      rw [putF_nil]
      have X1 := SX.set (o' := .ins T.C_Page dx [("tree", .ref a0)])
      refine ⟨x, T.C_Page, dx, _, rfl, X1.hd, T.cl_Page, T.na_Page_nodes, by simp, ?_⟩
      rw [putF_ne, putF_nil]
      have X2 := X1.set (o' := .ins T.C_Page dx [("tree", .ref a0), ("nodes", .ref N)])
      refine ⟨x, T.C_Page, dx, _, rfl, X2.hd, T.cl_Page, T.na_Page_above, by simp, ?_⟩
      rw [putF_ne, putF_ne, putF_nil]
      have X3 := X2.set (o' := .ins T.C_Page dx [("tree", .ref a0), ("nodes", .ref N), ("above", .ref A')])
      refine ⟨x, T.C_Page, dx, _, rfl, X3.hd, T.cl_Page, T.na_Page_order, by simp, ?_⟩
      rw [putF_ne, putF_ne, putF_ne, putF_nil]
      have X4 := X3.set (o' := .ins T.C_Page dx [("tree", .ref a0), ("nodes", .ref N), ("above", .ref A'), ("order", .ref O)])
      obtain ⟨Ga, sa, Sa, ea⟩ := Sep.keep X4
      obtain ⟨Gb, sb, Sb, eb⟩ := Sep.keep Sa
      obtain ⟨Gc, sc, Sc, ec⟩ := Sep.keep Sb
      obtain ⟨Gd, sd, Sd, ed⟩ := Sep.keep Sc
      have sAll := sa.trans (sb.trans (sc.trans sd))
      exact q ndi e4 Gd _ (s1.trans sAll) ⟨dx, N, A', O, _, us, _, sd _ _ (sc _ _ (sb _ _ ea)), dp_same (s1.trans sAll) hv, ed, by rw [← show ka = alK (al t) from kae ndi]; exact sd _ _ ec, sd _ _ (sc _ _ eb), dpa_same sAll hus, rfl⟩ Sd

end
end K11
set_option Elab.async false
set_option linter.all false
set_option maxRecDepth 100000
set_option maxHeartbeats 4000000
namespace K11
open PySem PySem.Spec PyProof.Rows L2 XL
section
variable {P : Program} {w : World} {K : PySem.W.Frag} {mg : Str → Option Value} {base : Heap}
/-! ### trees that are fit -/
structure TrOk (t : Tr) : Prop where
  hg : hgt t ≤ 60
  tx : ∀ p ∈ pre t, Tx 1 60 (mrk p) ∧ Tx 1 20 (lbl p)
mutual
theorem pre_hgt {p : Tr} : ∀ t, p ∈ pre t → hgt p ≤ hgt t
  | .node m l ks, h => by
    simp only [pre, List.mem_cons] at h
    rcases h with rfl | h
    · exact Nat.le_refl _
    · have := pres_hgt ks h
      simp only [hgt]; omega
theorem pres_hgt {p : Tr} : ∀ ts, p ∈ pres ts → hgt p ≤ hgts ts
  | [], h => by simp [pres] at h
  | t :: r, h => by
    simp only [pres, List.mem_append] at h
    simp only [hgts]
    rcases h with h | h
    · have := pre_hgt t h; omega
    · have := pres_hgt r h; omega
end
mutual
theorem pre_trans {p q : Tr} : ∀ t, p ∈ pre t → q ∈ pre p → q ∈ pre t
  | .node m l ks, h, h2 => by
    simp only [pre, List.mem_cons] at h
    rcases h with rfl | h
    · exact h2
    · simp only [pre, List.mem_cons]
      exact .inr (pres_trans ks h h2)
theorem pres_trans {p q : Tr} : ∀ ts, p ∈ pres ts → q ∈ pre p → q ∈ pres ts
  | [], h, _ => by simp [pres] at h
  | t :: r, h, h2 => by
    simp only [pres, List.mem_append] at h ⊢
    rcases h with h | h
    · exact .inl (pre_trans t h h2)
    · exact .inr (pres_trans r h h2)
end
theorem kid_pre {p c : Tr} (h : c ∈ kids p) : c ∈ pre p := by
  rw [pre_eq]
  exact List.mem_cons_of_mem _ (mem_pres.mpr ⟨c, h, self_pre c⟩)
theorem TrOk.sub {t p : Tr} (ok : TrOk t) (h : p ∈ pre t) : TrOk p := ⟨Nat.le_trans (pre_hgt t h) ok.hg, fun q hq => ok.tx q (pre_trans t h hq)⟩
mutual
theorem tr_lay : ∀ t : Tr, (∀ p ∈ pre t, (PyData.str (mrk p)).canLay0 = true ∧ (PyData.str (lbl p)).canLay0 = true) → (toD t).canLay0 = true
  | .node m l ks, h => by
    have h0 := h (.node m l ks) (self_pre _)
    have h1 := trs_lay ks fun p hp => h p (by rw [pre_eq]; exact List.mem_cons_of_mem _ hp)
    simp only [mrk, lbl, PyData.canLay0] at h0
    simp only [toD, PyData.canLay0, PyData.canLayAll0, h0.1, h0.2, h1, Bool.and_self]
theorem trs_lay : ∀ ts : List Tr, (∀ p ∈ pres ts, (PyData.str (mrk p)).canLay0 = true ∧ (PyData.str (lbl p)).canLay0 = true) → PyData.canLayAll0 (toDs ts) = true
  | [], _ => by simp only [toDs, PyData.canLayAll0]
  | t :: r, h => by
    have h0 := tr_lay t fun p hp => h p (by simp only [pres]; exact List.mem_append_left _ hp)
    have h1 := trs_lay r fun p hp => h p (by simp only [pres]; exact List.mem_append_right _ hp)
    simp only [toDs, PyData.canLayAll0, h0, h1, Bool.and_self]
end
mutual
theorem tr_dep : ∀ t : Tr, (toD t).depth ≤ 2 * hgt t
  | .node m l ks => by
    have h1 := trs_dep ks
    simp only [toD, PyData.depth, PyData.depthAll, hgt]
    omega
theorem trs_dep : ∀ ts : List Tr, PyData.depthAll (toDs ts) ≤ 2 * hgts ts
  | [] => by simp only [toDs, PyData.depthAll]; omega
  | t :: r => by
    have h0 := tr_dep t
    have h1 := trs_dep r
    simp only [toDs, PyData.depthAll, hgts]
    omega
end
theorem tx_lay {a b : Nat} {z : Str} (h : Tx a b z) : (PyData.str z).canLay0 = true := (Fit.str (w := b) (fun c hc => Nat.lt_trans (h.ch c hc) (by decide)) h.hi).cl
theorem ok_lay {t : Tr} (ok : TrOk t) : (toD t).canLay0 = true := tr_lay t fun p hp => ⟨tx_lay (ok.tx p hp).1, tx_lay (ok.tx p hp).2⟩
theorem ok_dep {t : Tr} (ok : TrOk t) : (toD t).depth ≤ 120 := by
  have := tr_dep t
  have := ok.hg
  omega
theorem eqv_str (a b : Str) : PyData.eqv (.str a) (.str b) = decide (a = b) := by
  rw [Bool.eq_iff_iff]
  simp [PyData.eqv]
theorem strs_dp {K : PySem.W.Frag} {G : Hp} : ∀ zs : List Str, DpAll K G (zs.map V.str) (zs.map PyData.str)
  | [] => .nil
  | z :: r => .cons (.str z) (strs_dp r)
theorem strs_fit {zs : List Str} {b : Nat} (h : ∀ z ∈ zs, (∀ c ∈ z.cps.toList, c < 128) ∧ z.length ≤ b) : ∃ n, Fit n 1 (.list (zs.map PyData.str)) :=
  ⟨_, Fit.lsts (w := b) fun d hd => by
    obtain ⟨z, hz, rfl⟩ := List.mem_map.mp hd
    exact Fit.str (fun c hc => Nat.lt_trans ((h z hz).1 c hc) (by decide)) (h z hz).2⟩
theorem tre_ok {ms ls : List Str} {ps lv : List Nat} (h : Par ps lv) (h1 : ps.length ≤ ms.length) (h2 : ps.length ≤ ls.length) (hm : ∀ z ∈ ms, Tx 1 60 z) (hl : ∀ z ∈ ls, Tx 1 20 z) : TrOk (tre ms ls ps 0) :=
  ⟨Nat.le_trans (tre_hgt0 h) (by decide), fun p hp => by
    obtain ⟨h3, h4⟩ := tre_mem h h1 h2 hp
    exact ⟨hm _ h3, hl _ h4⟩⟩
theorem mrk_inj {ts : List Tr} {p q : Tr} (nd : (ts.map mrk).Nodup) (hp : p ∈ ts) (hq : q ∈ ts) (e : mrk p = mrk q) : p = q := by
  obtain ⟨i, hi⟩ := List.getElem?_of_mem hp
  obtain ⟨j, hj⟩ := List.getElem?_of_mem hq
  have e1 : (ts.map mrk)[i]? = (ts.map mrk)[j]? := by rw [List.getElem?_map, List.getElem?_map, hi, hj]; exact congrArg some e
  have il := (List.getElem?_eq_some_iff.mp hi).1
  have e2 := (List.getElem?_inj (by rw [List.length_map]; exact il) nd).mp e1
  rw [e2, hj] at hi
  exact (Option.some.inj hi).symm
/-! the shown form -/
mutual
def shD : Tr → PyData
  | .node _ l ks => .tuple [.str l, .tuple (shDs ks)]
def shDs : List Tr → List PyData
  | [] => []
  | s :: r => shD s :: shDs r
end
theorem shDs_eq : ∀ ps, shDs ps = ps.map shD
  | [] => by simp only [shDs, List.map_nil]
  | s :: r => by simp only [shDs, List.map_cons, shDs_eq r]
theorem shD_eq (t : Tr) : shD t = .tuple [.str (lbl t), .tuple ((kids t).map shD)] := by
  cases t
  simp only [shD, lbl, kids, shDs_eq]
mutual
theorem sh_lay : ∀ t : Tr, (∀ p ∈ pre t, (PyData.str (lbl p)).canLay0 = true) → (shD t).canLay0 = true
  | .node m l ks, h => by
    have h0 := h (.node m l ks) (self_pre _)
    have h1 := shs_lay ks fun p hp => h p (by rw [pre_eq]; exact List.mem_cons_of_mem _ hp)
    simp only [lbl, PyData.canLay0] at h0
    simp only [shD, PyData.canLay0, PyData.canLayAll0, h0, h1, Bool.and_self]
theorem shs_lay : ∀ ts : List Tr, (∀ p ∈ pres ts, (PyData.str (lbl p)).canLay0 = true) → PyData.canLayAll0 (shDs ts) = true
  | [], _ => by simp only [shDs, PyData.canLayAll0]
  | t :: r, h => by
    have h0 := sh_lay t fun p hp => h p (by simp only [pres]; exact List.mem_append_left _ hp)
    have h1 := shs_lay r fun p hp => h p (by simp only [pres]; exact List.mem_append_right _ hp)
    simp only [shDs, PyData.canLayAll0, h0, h1, Bool.and_self]
end
mutual
theorem sh_dep : ∀ t : Tr, (shD t).depth ≤ 2 * hgt t
  | .node m l ks => by
    have h1 := shs_dep ks
    simp only [shD, PyData.depth, PyData.depthAll, hgt]
    omega
theorem shs_dep : ∀ ts : List Tr, PyData.depthAll (shDs ts) ≤ 2 * hgts ts
  | [] => by simp only [shDs, PyData.depthAll]; omega
  | t :: r => by
    have h0 := sh_dep t
    have h1 := shs_dep r
    simp only [shDs, PyData.depthAll, hgts]
    omega
end
theorem ok_shl {t : Tr} (ok : TrOk t) : (shD t).canLay0 = true := sh_lay t fun p hp => tx_lay (ok.tx p hp).2
theorem ok_shd {t : Tr} (ok : TrOk t) : (shD t).depth ≤ 120 := by
  have := sh_dep t
  have := ok.hg
  omega
/-! equal data, equal trees -/
mutual
theorem eqv_tr : ∀ s t : Tr, PyData.eqv (toD s) (toD t) = true → s = t
  | .node m l ks, .node m' l' ks', h => by
    simp only [toD, PyData.eqv, PyData.eqvAll, Bool.and_eq_true, decide_eq_true_eq, beq_iff_eq] at h
    obtain ⟨h1, h2, h3, _⟩ := h
    rw [h1, h2, eqv_trs ks ks' h3]
theorem eqv_trs : ∀ ss ts : List Tr, PyData.eqvAll (toDs ss) (toDs ts) = true → ss = ts
  | [], [], _ => rfl
  | [], t :: r, h => by simp [toDs, PyData.eqvAll] at h
  | s :: r, [], h => by simp [toDs, PyData.eqvAll] at h
  | s :: r, t :: r', h => by
    simp only [toDs, PyData.eqvAll, Bool.and_eq_true] at h
    rw [eqv_tr s t h.1, eqv_trs r r' h.2]
end
theorem eqv_self {t : Tr} (ok : TrOk t) : PyData.eqv (toD t) (toD t) = true := SeqAt.eqv_refl _ (ok_lay ok)
theorem eqv_ne {s t : Tr} (h : s ≠ t) : PyData.eqv (toD s) (toD t) = false := by
  cases e : PyData.eqv (toD s) (toD t) with
  | false => rfl
  | true => exact absurd (eqv_tr s t e) h

end
end K11
set_option Elab.async false
set_option linter.all false
set_option maxRecDepth 100000
set_option maxHeartbeats 4000000
namespace K11
open PySem PySem.Spec PyProof.Rows L2 XL
section
variable {P : Program} {w : World} {K : PySem.W.Frag} {mg : Str → Option Value} {base : Heap}
/-! ### pages read -/
theorem kn_val {K : PySem.W.Frag} {G : Hp} {p : Tr} : ∀ {us : List V} {ts : List Tr}, DpAll K G us (ts.map toD) → (ts.map mrk).Nodup → p ∈ ts → ∃ v, valV (((ts.map mrk).map (fun m => (Sum.inr m : Key))).zip us) (Sum.inr (mrk p)) = some v ∧ Dp K G v (toD p)
  | _, [], _, _, hp => nomatch hp
  | u :: us, t :: ts, .cons h r, nd, hp => by
    rw [List.map_cons, List.nodup_cons] at nd
    rcases List.mem_cons.mp hp with rfl | hp
    · exact ⟨u, valV_pos rfl, h⟩
    · obtain ⟨v, h1, h2⟩ := kn_val r nd.2 hp
      refine ⟨v, ?_, h2⟩
      show valV ((Sum.inr (mrk t), u) :: _) _ = _
      rw [valV_neg (fun e => nd.1 ?_)]
      · exact h1
      · rw [Sum.inr.inj e]
        exact List.mem_map_of_mem hp
theorem kn_keys {ts : List Tr} {us : List V} (h : us.length = ts.length) : ((((ts.map mrk).map (fun m => (Sum.inr m : Key))).zip us).map (·.1)) = (ts.map mrk).map (fun m => (Sum.inr m : Key)) := by
  rw [List.map_fst_zip]
  simp only [List.length_map]
  omega
theorem kn_none {ts : List Tr} {us : List V} {m : Str} (h : us.length = ts.length) (hm : m ∉ ts.map mrk) : valV (((ts.map mrk).map (fun m => (Sum.inr m : Key))).zip us) (Sum.inr m) = none := valV_none (by
  rw [kn_keys h]
  intro hx
  obtain ⟨z, hz, e⟩ := List.mem_map.mp hx
  rw [Sum.inr.inj e] at hz
  exact hm hz)
theorem kn_some {ts : List Tr} {us : List V} {m : Str} (h : us.length = ts.length) (nd : (ts.map mrk).Nodup) : (valV (((ts.map mrk).map (fun m => (Sum.inr m : Key))).zip us) (Sum.inr m)).isSome = decide (m ∈ ts.map mrk) := by
  by_cases hm : m ∈ ts.map mrk
  · rw [decide_eq_true hm]
    exact valV_none_iff (by rw [kn_keys h]; exact nd_inr nd) (by rw [kn_keys h]; exact List.mem_map_of_mem hm)
  · rw [kn_none h hm, decide_eq_false hm]
    rfl
def spPgGet (K : PySem.W.Frag) (C Ce : Addr) : Sp := fun vs H Q E => ∃ (G : Hp) (x : Addr) (m : Str) (t : Tr), vs = [.ref x, .str m] ∧ Same G H ∧ PgAt K C G x t ∧ ((pre t).map mrk).Nodup ∧ Tx 0 100 m ∧
  (∀ p v, p ∈ pre t → mrk p = m → Dp K G v (toD p) → Q v H) ∧ (m ∉ (pre t).map mrk → ∀ dd, H dd = none → E (.ref Ce) (some dd) (upd H dd (.xd [("mark", .str m)])))
theorem ok_Page_getitem (T : Top K mg w) (pf : PySem.XExc.PF P T.x_file) {k : Nat} : FnOk P w K mg base (L2.CX P w) (k + 2) T.a_Page_getitem T.d_Page_getitem ["self", "mark"] (spPgGet K T.C_Page T.C_NoNode) := by
  refine T.F_Page_getitem.okX sc_Page_getitem (fun vs H Q E h => ?_) (fun cdv A outer s H vs Q E hr h => ?_)
  · obtain ⟨G, x, m, t, rfl, _⟩ := h
    rfl
  · obtain ⟨G, x, m, t, rfl, s0, hp, nd, tm, q, qe⟩ := h
    obtain ⟨dx, N, A', O, v, us, kn, h1, h2, h3, h4, h5, h6, h7⟩ := hp.ex
    have hx := s0 _ _ h1
    have ul := dpa_len h6
    rw [List.length_map] at ul
    refine ⟨_, (pss_cons (xs_if (pt_cmp (pc_dnotin (hu_of hr) (xv 1) (pe_fldK K (xv 0))))
      (pss_one (ps_raiseX (k := 0) rfl (T.x_NoNode P pf) (hr.mono (by omega)) (takes_of rfl rfl rfl rfl) (pa_cons (xv 1) pa_nil)))
      pss_nil)
      (pss_one (ps_ret (pe_dget (hu_of hr) (pe_fldK K (xv 0)) (xv 1) (fun _ _ => rfl))))), ?_⟩
    have es := kn_some (m := m) ul nd
    rw [← h7] at es
    refine ⟨x, T.C_Page, dx, _, _, rfl, hx, T.cl_Page, T.na_Page_nodes, (by rw [lk_ne, lk_eq]), N, _, rfl, DGet.k (k := Sum.inr m) (s0 _ _ h3), _, rfl, fun e => ?_, fun e => ?_⟩
    · refine ⟨_, rfl, tm.rp (by decide), fun dd ndd => qe (fun hm => ?_) dd ndd⟩
      rw [decide_eq_true hm] at es
      rw [es] at e
      exact nomatch e
    · by_cases hm : m ∈ (pre t).map mrk
      · obtain ⟨p, hp, rfl⟩ := List.mem_map.mp hm
        obtain ⟨u, hu, hd⟩ := kn_val h6 nd hp
        refine ⟨x, T.C_Page, dx, _, _, rfl, hx, T.cl_Page, T.na_Page_nodes, (by rw [lk_ne, lk_eq]), N, u, rfl, ?_, q p u hp rfl hd⟩
        rw [← hu, ← h7]
        exact DGet.k (k := Sum.inr (mrk p)) (s0 _ _ h3)
      · rw [decide_eq_false hm] at es
        rw [es] at e
        exact nomatch e
def spPgPar (K : PySem.W.Frag) (C Ce : Addr) : Sp := fun vs H Q E => ∃ (G : Hp) (x : Addr) (m : Str) (t : Tr), vs = [.ref x, .str m] ∧ Same G H ∧ PgAt K C G x t ∧ ((pre t).map mrk).Nodup ∧ Tx 0 100 m ∧
  (∀ r, r ∈ tb none 0 1 t → mrk r.1 = m → Q (oV r.2.1) H) ∧ (m ∉ (pre t).map mrk → ∀ dd, H dd = none → E (.ref Ce) (some dd) (upd H dd (.xd [("mark", .str m)])))
theorem ok_Page_parent (T : Top K mg w) (pf : PySem.XExc.PF P T.x_file) {k : Nat} : FnOk P w K mg base (L2.CX P w) (k + 2) T.a_Page_parent T.d_Page_parent ["self", "mark"] (spPgPar K T.C_Page T.C_NoNode) := by
  refine T.F_Page_parent.okX sc_Page_parent (fun vs H Q E h => ?_) (fun cdv A outer s H vs Q E hr h => ?_)
  · obtain ⟨G, x, m, t, rfl, _⟩ := h
    rfl
  · obtain ⟨G, x, m, t, rfl, s0, hp, nd, tm, q, qe⟩ := h
    obtain ⟨dx, N, A', O, v, us, kn, h1, h2, h3, h4, h5, h6, h7⟩ := hp.ex
    have hx := s0 _ _ h1
    have ul := dpa_len h6
    rw [List.length_map] at ul
    refine ⟨_, (pss_cons (xs_if (pt_cmp (pc_dnotin (hu_of hr) (xv 1) (pe_fldK K (xv 0))))
      (pss_one (ps_raiseX (k := 0) rfl (T.x_NoNode P pf) (hr.mono (by omega)) (takes_of rfl rfl rfl rfl) (pa_cons (xv 1) pa_nil)))
      pss_nil)
      (pss_one (ps_ret (pe_dget (hu_of hr) (pe_fldK K (xv 0)) (xv 1) (fun _ _ => rfl))))), ?_⟩
    have es := kn_some (m := m) ul nd
    rw [← h7] at es
    refine ⟨x, T.C_Page, dx, _, _, rfl, hx, T.cl_Page, T.na_Page_nodes, (by rw [lk_ne, lk_eq]), N, _, rfl, DGet.k (k := Sum.inr m) (s0 _ _ h3), _, rfl, fun e => ?_, fun e => ?_⟩
    · refine ⟨_, rfl, tm.rp (by decide), fun dd ndd => qe (fun hm => ?_) dd ndd⟩
      rw [decide_eq_true hm] at es
      rw [es] at e
      exact nomatch e
    · by_cases hm : m ∈ (pre t).map mrk
      · obtain ⟨p, hp, rfl⟩ := List.mem_map.mp hm
        obtain ⟨r, hr', rfl⟩ := row_of hp
        refine ⟨x, T.C_Page, dx, _, _, rfl, hx, T.cl_Page, T.na_Page_above, (by rw [lk_ne, lk_ne, lk_eq]), A', _, rfl, ?_, q r hr' rfl⟩
        rw [← al_val nd hr']
        exact DGet.k (k := Sum.inr (mrk r.1)) (s0 _ _ h4)
      · rw [decide_eq_false hm] at es
        rw [es] at e
        exact nomatch e
def spPgIn (K : PySem.W.Frag) (C : Addr) : Sp := fun vs H Q _ => ∃ (G : Hp) (x : Addr) (m : Str) (t : Tr), vs = [.ref x, .str m] ∧ Same G H ∧ PgAt K C G x t ∧ ((pre t).map mrk).Nodup ∧ Q (.bl (decide (m ∈ (pre t).map mrk))) H
theorem ok_Page_contains (T : Top K mg w) {k : Nat} : FnOk P w K mg base CX0 (k + 1) T.a_Page_contains T.d_Page_contains ["self", "mark"] (spPgIn K T.C_Page) := by
  refine T.F_Page_contains.ok sc_Page_contains (fun vs H Q E h => ?_) (fun cdv A outer s H vs Q E hr h => ?_)
  · obtain ⟨G, x, m, t, rfl, _⟩ := h
    rfl
  · obtain ⟨G, x, m, t, rfl, s0, hp, nd, q⟩ := h
    obtain ⟨dx, N, A', O, v, us, kn, h1, h2, h3, h4, h5, h6, h7⟩ := hp.ex
    have ul := dpa_len h6
    rw [List.length_map] at ul
    refine ⟨_, (pss_one (ps_ret (pe_cmp (pc_din (hu_of hr) (xv 1) (pe_fldK K (xv 0)))))), ?_⟩
    have es := kn_some (m := m) ul nd
    rw [← h7] at es
    refine ⟨x, T.C_Page, dx, _, _, rfl, s0 _ _ h1, T.cl_Page, T.na_Page_nodes, (by rw [lk_ne, lk_eq]), N, _, rfl, DGet.k (k := Sum.inr m) (s0 _ _ h3), ?_⟩
    rw [es]
    exact q
def spPgIter (K : PySem.W.Frag) (C : Addr) (n : Nat) : Sp := fun vs H Q _ => ∃ (G : Hp) (x : Addr) (t : Tr), vs = [.ref x] ∧ Same G H ∧ PgAt K C G x t ∧ ∀ it l, H it = none → n ≤ it → G l = some (.lst (((pre t).map mrk).map V.str)) → Q (.ref it) (upd H it (ItO l it 0))
theorem ok_Page_iter (T : Top K mg w) {k : Nat} : FnY P w K mg base CX0 (k + 1) T.a_Page_iter T.d_Page_iter ["self"] (spPgIter K T.C_Page) := by
  refine okY T.F_Page_iter sc_Page_iter (fun n vs H Q E h => ?_) (fun cdv A outer s H vs Q E hr h => ?_)
  · obtain ⟨G, x, t, rfl, _⟩ := h
    rfl
  · obtain ⟨G, x, t, rfl, s0, hp, q⟩ := h
    obtain ⟨dx, N, A', O, v, us, kn, h1, h2, h3, h4, h5, h6, h7⟩ := hp.ex
    refine ⟨_, (pss_one (ps_ret (pe_callB ItX.call_iterN (by rfl) T.m_iter (by decide +kernel) (pa_cons (pe_fldK K (xv 0)) pa_nil)))), ?_⟩
    exact ⟨x, T.C_Page, dx, _, _, rfl, s0 _ _ h1, T.cl_Page, T.na_Page_order, (by rw [lk_ne, lk_ne, lk_ne, lk_eq]), O, _, rfl, SqL.of (s0 _ _ h5), fun it nit hn => q it O nit hn h5⟩
def spTop (K : PySem.W.Frag) (C : Addr) : Sp := fun vs H Q _ => ∃ (G : Hp) (p : Addr) (t : Tr), vs = [.ref p] ∧ Same G H ∧ PgAt K C G p t ∧ ∀ v, Dp K G v (toD t) → Q v H
theorem ok_Page_top (T : Top K mg w) {k : Nat} : FnOk P w K mg base CX0 (k + 1) T.a_Page_top T.d_Page_top ["self"] (spTop K T.C_Page) := by
  refine T.F_Page_top.ok sc_Page_top (fun vs H Q E h => ?_) (fun cdv A outer s H vs Q E hr h => ?_)
  · obtain ⟨G, p, t, rfl, _⟩ := h
    rfl
  · obtain ⟨G, p, t, rfl, S, pg, q⟩ := h
    obtain ⟨dx, N, A', O, v, us, kn, h1, h2, _⟩ := pg.ex
    refine ⟨_, (pss_one (ps_ret (pe_fldK K (xv 0)))), ?_⟩
    exact ⟨p, T.C_Page, dx, _, _, rfl, S _ _ h1, T.cl_Page, T.na_Page_tree, lk_eq, q v h2⟩
def spPgEq (K : PySem.W.Frag) (C : Addr) : Sp := fun vs H Q _ => ∃ (G : Hp) (x y : Addr) (s t : Tr), vs = [.ref x, .ref y] ∧ Same G H ∧ PgAt K C G x s ∧ PgAt K C G y t ∧ TrOk s ∧ TrOk t ∧ Q (.bl (PyData.eqv (toD s) (toD t))) H
theorem ok_Page_eq (T : Top K mg w) {k : Nat} : FnOk P w K mg base CX0 (k + 1) T.a_Page_eq T.d_Page_eq ["self", "other"] (spPgEq K T.C_Page) := by
  refine T.F_Page_eq.ok sc_Page_eq (fun vs H Q E h => ?_) (fun cdv A outer s H vs Q E hr h => ?_)
  · obtain ⟨G, x, y, s, t, rfl, _⟩ := h
    rfl
  · obtain ⟨G, x, y, s, t, rfl, S, ps, pt, oks, okt, q⟩ := h
    obtain ⟨dx, N, A', O, v, us, kn, h1, h2, _⟩ := ps.ex
    obtain ⟨dy, N2, A2, O2, v2, us2, kn2, g1, g2, _⟩ := pt.ex
    refine ⟨_, (pss_one (ps_ret (xe_and (pe_callB (call_isK K) (by rfl) T.m_isinstance (by decide +kernel) (pa_cons (xv 1) (pa_cons (pe_glob (v := .ref T.C_Page) (by rfl) T.g_Page rfl) pa_nil))) (pe_one (pe_cmpR (op_eqLK K hr.u190) (pe_fldK K (xv 0)) (pe_fldK K (xv 1)) (nomark _)))))), ?_⟩
    refine ⟨_, _, _, _, true, rfl, .own _, .base (.ins (S _ _ g1) T.cl_Page T.ty_Page.1 T.ty_Page.2.1 T.ty_Page.2.2.1 T.ty_Page.2.2.2.1), T.ty_Page.2.2.2.2, fun _ => ?_, tt⟩
    refine ⟨x, T.C_Page, dx, _, _, rfl, S _ _ h1, T.cl_Page, T.na_Page_tree, lk_eq, y, T.C_Page, dy, _, _, rfl, S _ _ g1, T.cl_Page, T.na_Page_tree, lk_eq, ?_⟩
    obtain ⟨a, _, _, rfl, _⟩ := node_at h2
    obtain ⟨b, _, _, rfl, _⟩ := node_at g2
    exact ⟨toD s, toD t, dp_same S h2, dp_same S g2, ok_lay oks, ok_lay okt, by have := ok_dep oks; omega, q⟩

end
end K11
set_option Elab.async false
set_option linter.all false
set_option maxRecDepth 100000
set_option maxHeartbeats 4000000
namespace K11
open PySem PySem.Spec PyProof.Rows L2 XL
/-! ### patches, and the tree behind them -/
inductive Pt where
  | drop (m : Str)
  | put (m : Str) (i : Nat) (t : Tr)
  | move (m : Str) (i : Nat)
  | say (m l : Str)
def wd : Pt → Str
  | .drop _ => "drop"
  | .put _ _ _ => "put"
  | .move _ _ => "move"
  | .say _ _ => "say"
def pmk : Pt → Str
  | .drop m => m
  | .put m _ _ => m
  | .move m _ => m
  | .say m _ => m
def insT (ks : List Tr) (i : Nat) (t : Tr) : List Tr := ks.take i ++ t :: ks.drop i
def mvT (m : Str) (i : Nat) (ks : List Tr) : List Tr := match ks.findIdx? fun s => decide (mrk s = m) with
  | none => ks
  | some k => match ks[k]? with
    | none => ks
    | some c => insT (ks.eraseIdx k) i c
def keeps (p : Pt) (s : Tr) : Bool := match p with
  | .drop m => decide (mrk s ≠ m)
  | _ => true
def ksP (p : Pt) (m : Str) (ks : List Tr) : List Tr := match p with
  | .put m' i t => if m = m' then insT ks i t else ks
  | .move m' i => mvT m' i ks
  | _ => ks
def lbP (p : Pt) (m l : Str) : Str := match p with
  | .say m' l' => if m = m' then l' else l
  | _ => l
mutual
def aft (p : Pt) : Tr → Tr
  | .node m l ks => .node m (lbP p m l) (ksP p m (afts p ks))
def afts (p : Pt) : List Tr → List Tr
  | [] => []
  | s :: r => if keeps p s then aft p s :: afts p r else afts p r
end
theorem aft_eq (p : Pt) (t : Tr) : aft p t = .node (mrk t) (lbP p (mrk t) (lbl t)) (ksP p (mrk t) (afts p (kids t))) := by
  cases t
  simp only [aft, mrk, lbl, kids]
theorem aft_mrk (p : Pt) (t : Tr) : mrk (aft p t) = mrk t := by rw [aft_eq]; rfl
theorem afts_app (p : Pt) : ∀ xs ys, afts p (xs ++ ys) = afts p xs ++ afts p ys
  | [], ys => by simp only [List.nil_append, afts]
  | s :: r, ys => by
    simp only [List.cons_append, afts, afts_app p r ys]
    split <;> rfl
theorem afts_one (p : Pt) (s : Tr) : afts p [s] = if keeps p s then [aft p s] else [] := by simp only [afts]
theorem mvT_none {m : Str} {i : Nat} {ks : List Tr} (h : ∀ s ∈ ks, mrk s ≠ m) : mvT m i ks = ks := by
  unfold mvT
  have e : (ks.findIdx? fun s => decide (mrk s = m)) = none := List.findIdx?_eq_none_iff.mpr fun s hs => decide_eq_false (h s hs)
  rw [e]
theorem mvT_at {m : Str} {i k : Nat} {ks : List Tr} {c : Tr} (hk : ks[k]? = some c) (hm : mrk c = m) (h : ∀ j s, j < k → ks[j]? = some s → mrk s ≠ m) : mvT m i ks = insT (ks.eraseIdx k) i c := by
  unfold mvT
  have e : (ks.findIdx? fun s => decide (mrk s = m)) = some k := by
    rw [List.findIdx?_eq_some_iff_getElem]
    have hl := (List.getElem?_eq_some_iff.mp hk)
    have hl1 := hl.1
    refine ⟨hl.1, decide_eq_true (by rw [hl.2]; exact hm), fun j hj => ?_⟩
    have := h j _ hj (List.getElem?_eq_getElem (by omega))
    simpa using this
  rw [e]
  show (match ks[k]? with | none => ks | some c => insT (ks.eraseIdx k) i c) = _
  rw [hk]
/-! nothing changes where the mark is not -/
mutual
theorem aft_off (p : Pt) : ∀ t, pmk p ∉ (pre t).map mrk → aft p t = t
  | .node m l ks, h => by
    simp only [pre, List.map_cons, List.mem_cons, not_or, mrk] at h
    have h2 := afts_off p ks h.2
    have hk : ∀ s ∈ ks, mrk s ≠ pmk p := fun s hs e => h.2 (e ▸ List.mem_map_of_mem (mem_pres.mpr ⟨s, hs, self_pre s⟩))
    simp only [aft]
    rw [h2]
    have e1 : lbP p m l = l := by
      cases p <;> simp only [lbP]
      exact if_neg (fun e => h.1 e.symm)
    have e2 : ksP p m ks = ks := by
      cases p <;> simp only [ksP]
      · exact if_neg (fun e => h.1 e.symm)
      · exact mvT_none hk
    rw [e1, e2]
theorem afts_off (p : Pt) : ∀ ts, pmk p ∉ (pres ts).map mrk → afts p ts = ts
  | [], _ => rfl
  | t :: r, h => by
    simp only [pres, List.map_append, List.mem_append, not_or] at h
    have e : keeps p t = true := by
      cases p <;> simp only [keeps]
      refine decide_eq_true fun e => h.1 ?_
      rw [← show mrk t = pmk (.drop _) from e]
      exact List.mem_map_of_mem (self_pre t)
    simp only [afts]
    rw [if_pos e, aft_off p t h.1, afts_off p r h.2]
end
/-! paths -/
def sub : Tr → List Nat → Option Tr
  | t, [] => some t
  | t, k :: π => match (kids t)[k]? with
    | none => none
    | some c => sub c π
def setAt : Tr → List Nat → Tr → Tr
  | _, [], u => u
  | t, k :: π, u => match (kids t)[k]? with
    | none => t
    | some c => .node (mrk t) (lbl t) ((kids t).set k (setAt c π u))
theorem sub_cons {t c : Tr} {k : Nat} {π : List Nat} (h : (kids t)[k]? = some c) : sub t (k :: π) = sub c π := by
  rw [sub, h]
theorem setAt_cons {t c u : Tr} {k : Nat} {π : List Nat} (h : (kids t)[k]? = some c) : setAt t (k :: π) u = .node (mrk t) (lbl t) ((kids t).set k (setAt c π u)) := by
  rw [setAt, h]
theorem sub_ne {t p : Tr} {k : Nat} {π : List Nat} (h : sub t (k :: π) = some p) : ∃ c, (kids t)[k]? = some c ∧ sub c π = some p := by
  rw [sub] at h
  cases hk : (kids t)[k]? with
  | none => rw [hk] at h; cases h
  | some c => rw [hk] at h; exact ⟨c, rfl, h⟩
theorem sub_mem {p : Tr} : ∀ {π : List Nat} {t : Tr}, sub t π = some p → p ∈ pre t
  | [], t, h => by
    cases h
    exact self_pre p
  | k :: π, t, h => by
    obtain ⟨c, hc, h⟩ := sub_ne h
    rw [pre_eq]
    exact List.mem_cons_of_mem _ (mem_pres.mpr ⟨c, List.mem_of_getElem? hc, sub_mem h⟩)
mutual
theorem pre_sub {p : Tr} : ∀ t, p ∈ pre t → ∃ π, sub t π = some p
  | .node m l ks, h => by
    simp only [pre, List.mem_cons] at h
    rcases h with rfl | h
    · exact ⟨[], rfl⟩
    · obtain ⟨k, c, π, h1, h2⟩ := pres_sub ks h
      exact ⟨k :: π, by rw [sub_cons (show (kids (.node m l ks))[k]? = some c from h1)]; exact h2⟩
theorem pres_sub {p : Tr} : ∀ ts, p ∈ pres ts → ∃ (k : Nat) (c : Tr) (π : List Nat), ts[k]? = some c ∧ sub c π = some p
  | [], h => by simp [pres] at h
  | t :: r, h => by
    simp only [pres, List.mem_append] at h
    rcases h with h | h
    · obtain ⟨π, hπ⟩ := pre_sub t h
      exact ⟨0, t, π, rfl, hπ⟩
    · obtain ⟨k, c, π, h1, h2⟩ := pres_sub r h
      exact ⟨k + 1, c, π, h1, h2⟩
end
theorem sub_set : ∀ {π : List Nat} {t p : Tr} (u : Tr), sub t π = some p → sub (setAt t π u) π = some u
  | [], _, _, _, _ => rfl
  | k :: π, t, p, u, h => by
    obtain ⟨c, hc, h⟩ := sub_ne h
    rw [setAt_cons hc]
    have hk := (List.getElem?_eq_some_iff.mp hc).1
    rw [sub_cons (c := setAt c π u) (by show ((kids t).set k (setAt c π u))[k]? = _; exact List.getElem?_set_self hk)]
    exact sub_set u h
theorem set_sub : ∀ {π : List Nat} {t p : Tr}, sub t π = some p → setAt t π p = t
  | [], _, _, h => by cases h; rfl
  | k :: π, t, p, h => by
    obtain ⟨c, hc, h⟩ := sub_ne h
    rw [setAt_cons hc, set_sub h]
    have : (kids t).set k c = kids t := by
      refine List.ext_getElem? fun j => ?_
      by_cases e : j = k
      · subst e
        rw [List.getElem?_set_self (List.getElem?_eq_some_iff.mp hc).1, hc]
      · rw [List.getElem?_set_ne (Ne.symm e)]
    rw [this]
    exact (tr_eta t).symm
theorem set_set : ∀ {π : List Nat} {t p : Tr} (u v : Tr), sub t π = some p → setAt (setAt t π u) π v = setAt t π v
  | [], _, _, _, _, _ => rfl
  | k :: π, t, p, u, v, h => by
    obtain ⟨c, hc, h⟩ := sub_ne h
    have hk := (List.getElem?_eq_some_iff.mp hc).1
    rw [setAt_cons hc, setAt_cons hc]
    rw [setAt_cons (c := setAt c π u) (by show ((kids t).set k (setAt c π u))[k]? = _; exact List.getElem?_set_self hk)]
    show Tr.node (mrk t) (lbl t) (((kids t).set k (setAt c π u)).set k _) = _
    rw [List.set_set, set_set u v h]
theorem pres_at {ts : List Tr} {k : Nat} {c : Tr} (h : ts[k]? = some c) : ∃ a b, ts = a ++ c :: b ∧ a.length = k ∧ pres ts = pres a ++ (pre c ++ pres b) ∧ ∀ c', ts.set k c' = a ++ c' :: b := by
  have e := (take_pre h).1
  have hk := (List.getElem?_eq_some_iff.mp h).1
  refine ⟨ts.take k, ts.drop (k + 1), e, by rw [List.length_take]; omega, ?_, fun c' => ?_⟩
  · conv => lhs; rw [e]
    rw [pres_app]
    rfl
  · rw [List.set_eq_take_append_cons_drop, if_pos hk]
/-- marks and labels in page order -/
def ml (t : Tr) : List (Str × Str) := (pre t).map fun p => (mrk p, lbl p)
def mls (ts : List Tr) : List (Str × Str) := (pres ts).map fun p => (mrk p, lbl p)
theorem ml_eq (t : Tr) : ml t = (mrk t, lbl t) :: mls (kids t) := by
  unfold ml mls
  rw [pre_eq, List.map_cons]
theorem mls_app (xs ys : List Tr) : mls (xs ++ ys) = mls xs ++ mls ys := by
  unfold mls
  rw [pres_app, List.map_append]
theorem mls_cons (x : Tr) (ys : List Tr) : mls (x :: ys) = ml x ++ mls ys := by
  unfold mls ml
  simp only [pres, List.map_append]
theorem ml_mrk (t : Tr) : (ml t).map (·.1) = (pre t).map mrk := by
  unfold ml
  rw [List.map_map]
  rfl
theorem mls_mrk (t : List Tr) : (mls t).map (·.1) = (pres t).map mrk := by
  unfold mls
  rw [List.map_map]
  rfl
theorem ml_set : ∀ {π : List Nat} {t p : Tr}, sub t π = some p → ∃ R, (ml t).Perm (ml p ++ R) ∧ ∀ u, (ml (setAt t π u)).Perm (ml u ++ R)
  | [], t, p, h => by
    cases h
    exact ⟨[], by rw [List.append_nil], fun u => by rw [List.append_nil]; exact List.Perm.refl _⟩
  | k :: π, t, p, h => by
    obtain ⟨c, hc, h⟩ := sub_ne h
    obtain ⟨R, h1, h2⟩ := ml_set h
    obtain ⟨a, b, e, _, _, es⟩ := pres_at hc
    have go : ∀ (X Y : List (Str × Str)) (hX : X.Perm (Y ++ R)), ((mrk t, lbl t) :: (mls a ++ (X ++ mls b))).Perm (Y ++ (R ++ (mrk t, lbl t) :: (mls a ++ mls b))) := fun X Y hX => by
      have z1 := List.Perm.cons (mrk t, lbl t) (List.Perm.trans (List.perm_append_comm_assoc (mls a) X (mls b)) (hX.append_right (mls a ++ mls b)))
      have z3 := (List.perm_middle (a := (mrk t, lbl t)) (l₁ := Y ++ R) (l₂ := mls a ++ mls b)).symm
      have z := z1.trans z3
      rw [List.append_assoc] at z
      exact z
    refine ⟨R ++ (mrk t, lbl t) :: (mls a ++ mls b), ?_, fun u => ?_⟩
    · rw [ml_eq t, e, mls_app, mls_cons]
      exact go _ _ h1
    · rw [setAt_cons hc, ml_eq, es]
      show ((mrk t, lbl t) :: mls (a ++ setAt c π u :: b)).Perm _
      rw [mls_app, mls_cons]
      exact go _ _ (h2 u)
theorem hgt_set : ∀ {π : List Nat} {t p : Tr} (u : Tr), sub t π = some p → hgt (setAt t π u) ≤ max (hgt t) (π.length + hgt u)
  | [], t, p, u, h => by
    show hgt u ≤ _
    simp only [List.length_nil]
    omega
  | k :: π, t, p, u, h => by
    obtain ⟨c, hc, h⟩ := sub_ne h
    have ih := hgt_set u h
    have hcm := hgt_kid (List.mem_of_getElem? hc)
    rw [setAt_cons hc, hgt]
    have : hgts ((kids t).set k (setAt c π u)) ≤ max (hgt t - 1) (π.length + hgt u) := hgts_le fun x hx => by
      rcases List.mem_or_eq_of_mem_set hx with h | rfl
      · have := hgt_kid h; omega
      · omega
    simp only [List.length_cons]
    have ht := hgt_eq t
    omega
theorem sub_lev : ∀ {π : List Nat} {t p : Tr}, sub t π = some p → π.length + hgt p ≤ hgt t
  | [], t, p, h => by cases h; simp
  | k :: π, t, p, h => by
    obtain ⟨c, hc, h⟩ := sub_ne h
    have := sub_lev h
    have := hgt_kid (List.mem_of_getElem? hc)
    simp only [List.length_cons]
    omega
theorem set_ne {π : List Nat} {t p u : Tr} (h : sub t π = some p) (ne : u ≠ p) : setAt t π u ≠ t := fun e => by
  have := sub_set u h
  rw [e, h] at this
  exact ne (Option.some.inj this).symm
/-! a patch at its place -/
theorem nd_kid {t c : Tr} {k : Nat} (nd : ((pre t).map mrk).Nodup) (hc : (kids t)[k]? = some c) : ((pre c).map mrk).Nodup := by
  obtain ⟨a, b, e, _, ep, _⟩ := pres_at hc
  rw [pre_eq, List.map_cons, List.nodup_cons, ep, List.map_append, List.map_append] at nd
  exact (List.nodup_append.mp (List.nodup_append.mp nd.2).2.1).1
theorem afts_at {p : Pt} {ks a b : List Tr} {c : Tr} (e : ks = a ++ c :: b) (nd : ((pres ks).map mrk).Nodup) (hm : pmk p ∈ (pre c).map mrk) : afts p ks = a ++ (if keeps p c then aft p c :: b else b) := by
  subst e
  have ep : pres (a ++ c :: b) = pres a ++ (pre c ++ pres b) := by rw [pres_app]; rfl
  rw [ep, List.map_append, List.map_append, List.nodup_append] at nd
  have nb := (List.nodup_append.mp nd.2.1)
  have ha : pmk p ∉ (pres a).map mrk := fun h => nd.2.2 _ h _ (List.mem_append_left _ hm) rfl
  have hb : pmk p ∉ (pres b).map mrk := fun h => nb.2.2 _ hm _ h rfl
  rw [afts_app, afts_off p a ha, afts, afts_off p b hb]
theorem aft_kid {p : Pt} {t c : Tr} {k : Nat} (nd : ((pre t).map mrk).Nodup) (hc : (kids t)[k]? = some c) (hm : pmk p ∈ (pre c).map mrk) (hd : keeps p c = true) (hv : ∀ s ∈ kids t, (∃ i, p = .move (mrk s) i) → False) :
    aft p t = .node (mrk t) (lbl t) ((kids t).set k (aft p c)) := by
  obtain ⟨a, b, e, _, ep, es⟩ := pres_at hc
  rw [pre_eq, List.map_cons, List.nodup_cons] at nd
  have h0 : mrk t ≠ pmk p := fun e2 => nd.1 (by
    rw [ep, List.map_append, List.map_append, e2]
    exact List.mem_append_right _ (List.mem_append_left _ hm))
  rw [aft_eq, afts_at e nd.2 hm, if_pos hd, es]
  have e1 : lbP p (mrk t) (lbl t) = lbl t := by
    cases p <;> simp only [lbP]
    exact if_neg h0
  have e2 : ksP p (mrk t) (a ++ aft p c :: b) = a ++ aft p c :: b := by
    cases hp : p with
    | drop m => rfl
    | say m l => rfl
    | put m i s => subst hp; exact if_neg h0
    | move m i =>
      subst hp
      refine mvT_none fun s hs e3 => ?_
      rcases List.mem_append.mp hs with hs | hs
      · exact hv s (by rw [e]; exact List.mem_append_left _ hs) ⟨i, by rw [e3]⟩
      · rcases List.mem_cons.mp hs with rfl | hs
        · rw [aft_mrk] at e3
          exact hv c (by rw [e]; simp) ⟨i, by rw [e3]⟩
        · exact hv s (by rw [e]; simp [hs]) ⟨i, by rw [e3]⟩
  rw [e1, e2]
/-- the node of the mark itself: put, say -/
theorem aft_node {p : Pt} (hp : (∃ m i s, p = .put m i s) ∨ ∃ m l, p = .say m l) : ∀ {π : List Nat} {t q : Tr}, ((pre t).map mrk).Nodup → sub t π = some q → mrk q = pmk p → aft p t = setAt t π (.node (mrk q) (lbP p (mrk q) (lbl q)) (ksP p (mrk q) (kids q)))
  | [], t, q, nd, h, e => by
    cases h
    rw [aft_eq]
    show _ = Tr.node _ _ _
    rw [pre_eq, List.map_cons, List.nodup_cons] at nd
    rw [afts_off p (kids t) (by rw [← e]; exact nd.1)]
  | k :: π, t, q, nd, h, e => by
    obtain ⟨c, hc, h⟩ := sub_ne h
    have hk : keeps p c = true := by
      rcases hp with ⟨m, i, s, rfl⟩ | ⟨m, l, rfl⟩ <;> rfl
    rw [aft_kid nd hc (by rw [← e]; exact List.mem_map_of_mem (sub_mem h)) hk (fun s _ ⟨i, e2⟩ => by
      rcases hp with ⟨m, j, u, rfl⟩ | ⟨m, l, rfl⟩ <;> cases e2), setAt_cons hc, aft_node hp (nd_kid nd hc) h e]
def chP (p : Pt) (ks : List Tr) (k : Nat) (c : Tr) : List Tr := match p with
  | .move _ i => insT (ks.eraseIdx k) i c
  | _ => ks.eraseIdx k
/-- a child of a node: drop, move -/
theorem aft_child {p : Pt} (hp : (∃ m, p = .drop m) ∨ ∃ m i, p = .move m i) : ∀ {π : List Nat} {t q c : Tr} {k : Nat}, ((pre t).map mrk).Nodup → sub t π = some q → (kids q)[k]? = some c → mrk c = pmk p →
    aft p t = setAt t π (.node (mrk q) (lbl q) (chP p (kids q) k c))
  | [], t, q, c, k, nd, h, hk, e => by
    cases h
    obtain ⟨a, b, ea, al, ep, es⟩ := pres_at hk
    have nd2 := nd
    rw [pre_eq, List.map_cons, List.nodup_cons] at nd2
    have hm : pmk p ∈ (pre c).map mrk := by rw [← e]; exact List.mem_map_of_mem (self_pre c)
    have ee : (a ++ c :: b).eraseIdx k = a ++ b := by
      rw [List.eraseIdx_append_of_length_le (by omega), al, Nat.sub_self]
      rfl
    rw [aft_eq, afts_at ea nd2.2 hm]
    show _ = Tr.node _ _ _
    rcases hp with ⟨m, rfl⟩ | ⟨m, i, rfl⟩
    · have hd : keeps (.drop m) c = false := decide_eq_false (fun h => h e)
      rw [hd, ea]
      show _ = Tr.node _ _ ((a ++ c :: b).eraseIdx k)
      rw [ee]
      rfl
    · have hd : keeps (.move m i) c = true := rfl
      have ndc := nd_kid nd hk
      have ec : aft (.move m i) c = c := by
        rw [aft_eq]
        rw [pre_eq, List.map_cons, List.nodup_cons] at ndc
        rw [afts_off _ (kids c) (by rw [← e]; exact ndc.1)]
        show Tr.node (mrk c) (lbl c) (mvT m i (kids c)) = c
        rw [mvT_none fun s hs e3 => ndc.1 (by rw [e, ← show mrk s = pmk (.move m i) from e3]; exact List.mem_map_of_mem (mem_pres.mpr ⟨s, hs, self_pre s⟩))]
        exact (tr_eta c).symm
      rw [hd, if_pos rfl, ec, ← ea]
      show Tr.node (mrk t) (lbl t) (mvT m i (kids t)) = _
      rw [mvT_at (m := m) hk e fun j s hj hs e3 => ?_]
      · rfl
      have := nd2.2
      rw [ep, List.map_append, List.map_append, List.nodup_append] at this
      refine this.2.2 (mrk s) (List.mem_map_of_mem (mem_pres.mpr ⟨s, ?_, self_pre s⟩)) (mrk c) (List.mem_append_left _ (List.mem_map_of_mem (self_pre c))) (e3.trans e.symm)
      rw [ea, List.getElem?_append_left (by omega)] at hs
      exact List.mem_of_getElem? hs
  | k' :: π, t, q, c, k, nd, h, hk, e => by
    obtain ⟨c', hc, h⟩ := sub_ne h
    have cq : c ∈ pre q := by
      rw [pre_eq]
      exact List.mem_cons_of_mem _ (mem_pres.mpr ⟨c, List.mem_of_getElem? hk, self_pre c⟩)
    have cc : c ∈ pre c' := pre_trans c' (sub_mem h) cq
    have ndc := nd_kid nd hc
    obtain ⟨a, b, ea, al, ep, es⟩ := pres_at hc
    have strict : mrk c' ≠ mrk c := fun e2 => by
      have : c' = c := mrk_inj ndc (self_pre c') cc e2
      have l1 := sub_lev h
      have l2 := hgt_kid (List.mem_of_getElem? hk)
      rw [this] at l1
      omega
    have hm : pmk p ∈ (pre c').map mrk := by rw [← e]; exact List.mem_map_of_mem cc
    have kd : keeps p c' = true := by
      rcases hp with ⟨m, rfl⟩ | ⟨m, i, rfl⟩
      · exact decide_eq_true fun e2 => strict (e2.trans e.symm)
      · rfl
    rw [aft_kid nd hc hm kd (fun s hs ⟨i, e2⟩ => ?_), setAt_cons hc, aft_child hp ndc h hk e]
    have em : mrk s = mrk c := by rw [e, e2]; rfl
    have nd2 := nd
    rw [pre_eq, List.map_cons, List.nodup_cons] at nd2
    have sp : s ∈ pres (kids t) := mem_pres.mpr ⟨s, hs, self_pre s⟩
    have cp : c ∈ pres (kids t) := mem_pres.mpr ⟨c', List.mem_of_getElem? hc, cc⟩
    have es2 : s = c := mrk_inj nd2.2 sp cp em
    subst es2
    -- a child of t that stands within another child
    have nd3 := nd2.2
    rw [ep, List.map_append, List.map_append, List.nodup_append] at nd3
    have nb := List.nodup_append.mp nd3.2.1
    rw [ea] at hs
    rcases List.mem_append.mp hs with h1 | h1
    · exact nd3.2.2 _ (List.mem_map_of_mem (mem_pres.mpr ⟨s, h1, self_pre s⟩)) _ (List.mem_append_left _ (List.mem_map_of_mem cc)) rfl
    · rcases List.mem_cons.mp h1 with rfl | h1
      · exact strict rfl
      · exact nb.2.2 _ (List.mem_map_of_mem cc) _ (List.mem_map_of_mem (mem_pres.mpr ⟨s, h1, self_pre s⟩)) rfl

/-! ### trees that are changed -/
theorem mls_perm {ts us : List Tr} (h : ts.Perm us) : (mls ts).Perm (mls us) := by
  induction h with
  | nil => exact List.Perm.refl _
  | cons x _ ih => rw [mls_cons, mls_cons]; exact List.Perm.append_left _ ih
  | swap x y l => rw [mls_cons, mls_cons, mls_cons, mls_cons]; exact List.perm_append_comm_assoc _ _ _
  | trans _ _ h1 h2 => exact h1.trans h2
theorem ml_nd {t : Tr} : ((pre t).map mrk).Nodup ↔ ((ml t).map (·.1)).Nodup := by rw [ml_mrk]
theorem ml_len (t : Tr) : (ml t).length = (pre t).length := by
  unfold ml
  rw [List.length_map]
theorem ml_tx {t : Tr} {A : Str → Str → Prop} (h : ∀ x ∈ ml t, A x.1 x.2) : ∀ p ∈ pre t, A (mrk p) (lbl p) := fun p hp => h _ (List.mem_map_of_mem hp)
theorem ml_tx2 {t : Tr} {A : Str → Str → Prop} (h : ∀ p ∈ pre t, A (mrk p) (lbl p)) : ∀ x ∈ ml t, A x.1 x.2 := fun x hx => by
  obtain ⟨p, hp, rfl⟩ := List.mem_map.mp hx
  exact h p hp
theorem ins_perm (ks : List Tr) (i : Nat) (t : Tr) : (insT ks i t).Perm (t :: ks) := by
  unfold insT
  have := List.perm_middle (a := t) (l₁ := ks.take i) (l₂ := ks.drop i)
  rw [List.take_append_drop] at this
  exact this
theorem erase_perm {α : Type} : ∀ {xs : List α} {i : Nat} {x : α}, xs[i]? = some x → xs.Perm (x :: xs.eraseIdx i)
  | [], _, _, h => by simp at h
  | y :: r, 0, x, h => by
    simp at h
    subst h
    exact List.Perm.refl _
  | y :: r, i + 1, x, h => by
    rw [List.getElem?_cons_succ] at h
    exact (List.Perm.cons y (erase_perm h)).trans (List.Perm.swap _ _ _)
theorem nd_sep {α : Type} {xs : List α} (nd : xs.Nodup) {i j : Nat} {x : α} (hi : xs[i]? = some x) (hj : xs[j]? = some x) : i = j :=
  (List.getElem?_inj (List.getElem?_eq_some_iff.mp hi).1 nd).mp (hi.trans hj.symm)
/-- brothers have unlike marks -/
theorem kids_nd {t q : Tr} (nd : ((pre t).map mrk).Nodup) (hq : q ∈ pre t) : ((kids q).map mrk).Nodup := by
  obtain ⟨π, hπ⟩ := pre_sub t hq
  have go : ∀ {π : List Nat} {t q : Tr}, ((pre t).map mrk).Nodup → sub t π = some q → ((pre q).map mrk).Nodup := by
    intro π
    induction π with
    | nil => intro t q nd h; cases h; exact nd
    | cons k π ih =>
      intro t q nd h
      obtain ⟨c, hc, h⟩ := sub_ne h
      exact ih (nd_kid nd hc) h
  have ndq := go nd hπ
  rw [pre_eq, List.map_cons, List.nodup_cons] at ndq
  have sl : ∀ ks : List Tr, (ks.map mrk).Sublist ((pres ks).map mrk) := by
    intro ks
    induction ks with
    | nil => simp [pres]
    | cons k r ih =>
      simp only [pres, List.map_append, List.map_cons]
      rw [pre_eq, List.map_cons, List.cons_append]
      exact List.Sublist.cons₂ _ (ih.trans (List.sublist_append_right _ _))
  exact (sl (kids q)).nodup ndq.2
structure Chg (t t' : Tr) (R S : List (Str × Str)) (P : List (Str × Str)) : Prop where
  ne : t' ≠ t
  p1 : (ml t).Perm (R ++ P)
  p2 : (ml t').Perm (S ++ P)
  hg : hgt t' ≤ hgt t
theorem hgt_sub {t q u : Tr} {π : List Nat} (h : sub t π = some q) (hu : hgt u ≤ hgt q) : hgt (setAt t π u) ≤ hgt t := by
  have h1 := hgt_set u h
  have h2 := sub_lev h
  omega
theorem chg_say {t q : Tr} {l : Str} (nd : ((pre t).map mrk).Nodup) (hq : q ∈ pre t) (hl : l ≠ lbl q) : ∃ P, Chg t (aft (.say (mrk q) l) t) [(mrk q, lbl q)] [(mrk q, l)] P := by
  obtain ⟨π, hπ⟩ := pre_sub t hq
  have e := aft_node (p := .say (mrk q) l) (.inr ⟨_, _, rfl⟩) nd hπ rfl
  have e1 : lbP (.say (mrk q) l) (mrk q) (lbl q) = l := if_pos rfl
  have e2 : ksP (.say (mrk q) l) (mrk q) (kids q) = kids q := rfl
  rw [e1, e2] at e
  obtain ⟨R, h1, h2⟩ := ml_set hπ
  refine ⟨mls (kids q) ++ R, ?_, ?_, ?_, ?_⟩
  · rw [e]
    exact set_ne hπ fun h => hl (by rw [← h]; rfl)
  · rw [ml_eq q] at h1
    exact h1
  · rw [e]
    have := h2 (.node (mrk q) l (kids q))
    rw [ml_eq (.node (mrk q) l (kids q))] at this
    exact this
  · rw [e]
    exact hgt_sub hπ (by rw [hgt_eq, hgt_eq q]; exact Nat.le_refl _)
theorem chg_move {t q p : Tr} (nd : ((pre t).map mrk).Nodup) (hq : q ∈ pre t) (hk : (kids q)[1]? = some p) : ∃ P, Chg t (aft (.move (mrk p) 0) t) [] [] P := by
  obtain ⟨π, hπ⟩ := pre_sub t hq
  have e := aft_child (p := .move (mrk p) 0) (.inr ⟨_, _, rfl⟩) nd hπ hk rfl
  have e1 : chP (.move (mrk p) 0) (kids q) 1 p = p :: (kids q).eraseIdx 1 := rfl
  rw [e1] at e
  obtain ⟨R, h1, h2⟩ := ml_set hπ
  have pm := erase_perm hk
  refine ⟨ml q ++ R, ?_, h1, ?_, ?_⟩
  · rw [e]
    refine set_ne hπ fun h => ?_
    have hk0 : (kids q)[0]? = some p := by
      rw [← h]
      rfl
    have n2 := kids_nd nd hq
    have := nd_sep n2 (i := 0) (j := 1) (x := mrk p) (by rw [List.getElem?_map, hk0]; rfl) (by rw [List.getElem?_map, hk]; rfl)
    omega
  · rw [e]
    refine (h2 _).trans (List.Perm.append_right _ ?_)
    rw [ml_eq, ml_eq q]
    exact List.Perm.cons _ (mls_perm pm.symm)
  · rw [e]
    refine hgt_sub hπ ?_
    rw [hgt]
    have : hgts (p :: (kids q).eraseIdx 1) ≤ hgt q - 1 := hgts_le fun x hx => by
      have hx2 : x ∈ kids q := pm.mem_iff.mpr hx
      have := hgt_kid hx2
      omega
    have := hgt_eq q
    omega
theorem erase_ins {ks : List Tr} {i : Nat} {p : Tr} (hk : ks[i]? = some p) (s : Tr) : insT (ks.eraseIdx i) i s = ks.set i s := by
  have hi := (List.getElem?_eq_some_iff.mp hk).1
  unfold insT
  rw [List.set_eq_take_append_cons_drop, if_pos hi, List.eraseIdx_eq_take_drop_succ]
  congr 1
  · rw [List.take_append_of_le_length (by rw [List.length_take]; omega), List.take_take, Nat.min_self]
  · rw [List.drop_append_of_le_length (by rw [List.length_take]; omega), List.drop_take, Nat.sub_self, List.take_zero, List.nil_append]
theorem chg_other {t q p : Tr} {i : Nat} {s : Str} (nd : ((pre t).map mrk).Nodup) (hq : q ∈ pre t) (hk : (kids q)[i]? = some p) (hs : s ∉ (pre t).map mrk) :
    (((pre (aft (.drop (mrk p)) t)).map mrk).Nodup ∧ hgt (aft (.drop (mrk p)) t) ≤ hgt t ∧ (pre (aft (.drop (mrk p)) t)).length ≤ (pre t).length) ∧
    ∃ P, Chg t (aft (.put (mrk q) i (.node s (lbl p) (kids p))) (aft (.drop (mrk p)) t)) [(mrk p, lbl p)] [(s, lbl p)] P := by
  obtain ⟨π, hπ⟩ := pre_sub t hq
  have e := aft_child (p := .drop (mrk p)) (.inl ⟨_, rfl⟩) nd hπ hk rfl
  have e1 : chP (.drop (mrk p)) (kids q) i p = (kids q).eraseIdx i := rfl
  rw [e1] at e
  obtain ⟨R, h1, h2⟩ := ml_set hπ
  have pm := erase_perm hk
  have hu := h2 (.node (mrk q) (lbl q) ((kids q).eraseIdx i))
  rw [← e] at hu
  have hml : (ml t).Perm (ml p ++ (ml (.node (mrk q) (lbl q) ((kids q).eraseIdx i)) ++ R)) := by
    refine h1.trans ?_
    rw [← List.append_assoc]
    refine List.Perm.append_right _ ?_
    rw [ml_eq q, ml_eq (.node (mrk q) (lbl q) ((kids q).eraseIdx i))]
    show ((mrk q, lbl q) :: mls (kids q)).Perm (ml p ++ (mrk q, lbl q) :: mls ((kids q).eraseIdx i))
    refine (List.Perm.cons _ (mls_perm pm)).trans ?_
    rw [mls_cons]
    exact List.perm_middle.symm
  have hml2 := hml.trans (List.Perm.append_left (ml p) hu.symm)
  have nd2 : ((ml t).map (·.1)).Nodup := ml_nd.mp nd
  rw [(hml2.map (·.1)).nodup_iff, List.map_append, List.nodup_append] at nd2
  have ndb : ((pre (aft (.drop (mrk p)) t)).map mrk).Nodup := ml_nd.mpr nd2.2.1
  refine ⟨⟨ndb, ?_, ?_⟩, ?_⟩
  · rw [e]
    refine hgt_sub hπ ?_
    rw [hgt]
    have : hgts ((kids q).eraseIdx i) ≤ hgt q - 1 := hgts_le fun x hx => by
      have := hgt_kid (List.mem_of_mem_eraseIdx hx)
      omega
    have := hgt_eq q
    omega
  · have := hml2.length_eq
    rw [List.length_append, ml_len, ml_len, ml_len] at this
    omega
  · have hs1 : sub (aft (.drop (mrk p)) t) π = some (.node (mrk q) (lbl q) ((kids q).eraseIdx i)) := by rw [e]; exact sub_set _ hπ
    have e3 := aft_node (p := .put (mrk q) i (.node s (lbl p) (kids p))) (.inl ⟨_, _, _, rfl⟩) ndb hs1 rfl
    have e4 : ksP (.put (mrk q) i (.node s (lbl p) (kids p))) (mrk q) ((kids q).eraseIdx i) = (kids q).set i (.node s (lbl p) (kids p)) := by
      show (if mrk q = mrk q then _ else _) = _
      rw [if_pos rfl, erase_ins hk]
    have e5 : aft (.put (mrk q) i (.node s (lbl p) (kids p))) (aft (.drop (mrk p)) t) = setAt t π (.node (mrk q) (lbl q) ((kids q).set i (.node s (lbl p) (kids p)))) := by
      rw [e3]
      show setAt (aft (.drop (mrk p)) t) π (.node (mrk q) (lbl q) (ksP (.put (mrk q) i (.node s (lbl p) (kids p))) (mrk q) ((kids q).eraseIdx i))) = _
      rw [e4, e, set_set _ _ hπ]
    have hp2 := h2 (.node (mrk q) (lbl q) ((kids q).set i (.node s (lbl p) (kids p))))
    rw [← e5] at hp2
    have pm2 : ((kids q).set i (.node s (lbl p) (kids p))).Perm (.node s (lbl p) (kids p) :: (kids q).eraseIdx i) := by
      rw [← erase_ins hk]
      exact ins_perm _ _ _
    have hp3 : (ml (.node (mrk q) (lbl q) ((kids q).set i (.node s (lbl p) (kids p))))).Perm ((s, lbl p) :: (mls (kids p) ++ ml (.node (mrk q) (lbl q) ((kids q).eraseIdx i)))) := by
      rw [ml_eq, ml_eq (.node (mrk q) (lbl q) ((kids q).eraseIdx i))]
      show ((mrk q, lbl q) :: mls ((kids q).set i (.node s (lbl p) (kids p)))).Perm _
      refine (List.Perm.cons _ (mls_perm pm2)).trans ?_
      rw [mls_cons, ml_eq]
      exact (List.perm_middle (a := (mrk q, lbl q)) (l₁ := (s, lbl p) :: mls (kids p))).symm
    have pA : (ml t).Perm ([(mrk p, lbl p)] ++ (mls (kids p) ++ (ml (.node (mrk q) (lbl q) ((kids q).eraseIdx i)) ++ R))) := by
      rw [ml_eq p] at hml
      exact hml
    have pB : (ml (aft (.put (mrk q) i (.node s (lbl p) (kids p))) (aft (.drop (mrk p)) t))).Perm ([(s, lbl p)] ++ (mls (kids p) ++ (ml (.node (mrk q) (lbl q) ((kids q).eraseIdx i)) ++ R))) := by
      have := hp2.trans (List.Perm.append_right R hp3)
      rw [List.cons_append, List.append_assoc] at this
      exact this
    refine ⟨_, ?_, pA, pB, ?_⟩
    · intro h
      have := pB.map (·.1)
      rw [h, ml_mrk] at this
      exact hs (this.mem_iff.mpr (by simp))
    · rw [e5]
      refine hgt_sub hπ ?_
      rw [hgt]
      have : hgts ((kids q).set i (.node s (lbl p) (kids p))) ≤ hgt q - 1 := hgts_le fun x hx => by
        rcases List.mem_or_eq_of_mem_set hx with h | rfl
        · have := hgt_kid h; omega
        · have h3 := hgt_kid (List.mem_of_getElem? hk)
          rw [hgt]
          have := hgt_eq p
          omega
      have := hgt_eq q
      omega
/-- what stays of it -/
theorem chg_good {t t' : Tr} {R S P : List (Str × Str)} (c : Chg t t' R S P) (hl : S.length = R.length) (nd : ((pre t).map mrk).Nodup) (hn : ∀ x ∈ S, x ∈ R ∨ x.1 ∉ (pre t).map mrk ∨ ∃ y ∈ R, y.1 = x.1) (hS : (S.map (·.1)).Nodup) :
    ((pre t').map mrk).Nodup ∧ (pre t').length = (pre t).length ∧ ∀ A : Str → Str → Prop, (∀ p ∈ pre t, A (mrk p) (lbl p)) → (∀ x ∈ S, A x.1 x.2) → ∀ p ∈ pre t', A (mrk p) (lbl p) := by
  have nd1 := ml_nd.mp nd
  rw [(c.p1.map (·.1)).nodup_iff, List.map_append, List.nodup_append] at nd1
  refine ⟨?_, ?_, fun A h1 h2 => ml_tx fun x hx => ?_⟩
  · rw [ml_nd, (c.p2.map (·.1)).nodup_iff, List.map_append, List.nodup_append]
    refine ⟨hS, nd1.2.1, fun a ha b hb e => ?_⟩
    subst e
    obtain ⟨x, hx, rfl⟩ := List.mem_map.mp ha
    have inR : ∀ y ∈ R, y.1 = x.1 → False := fun y hy e => nd1.2.2 y.1 (List.mem_map_of_mem hy) x.1 hb e
    rcases hn x hx with h | h | ⟨y, hy, e⟩
    · exact inR x h rfl
    · refine h ?_
      rw [← ml_mrk, (c.p1.map (·.1)).mem_iff, List.map_append]
      exact List.mem_append_right _ hb
    · exact inR y hy e
  · have e1 := c.p1.length_eq
    have e2 := c.p2.length_eq
    rw [ml_len, List.length_append] at e1 e2
    omega
  · rcases List.mem_append.mp (c.p2.mem_iff.mp hx) with h | h
    · exact h2 x h
    · exact ml_tx2 (A := A) h1 x (c.p1.mem_iff.mpr (List.mem_append_right _ h))

section
variable {P : Program} {w : World} {K : PySem.W.Frag} {mg : Str → Option Value} {base : Heap}
/-! ### the law's patch of a tree -/
def rsD : Pt → List PyData
  | .drop _ => []
  | .put _ i t => [.int (i : Nat), toD t]
  | .move _ i => [.int (i : Nat)]
  | .say _ l => [.str l]
def ptD (p : Pt) : PyData := .tuple (.str (wd p) :: .str (pmk p) :: rsD p)
theorem pt_at {K : PySem.W.Frag} {G : Hp} {v : V} {p : Pt} (h : Dp K G v (ptD p)) : ∃ a ws, v = .ref a ∧ SqT K G a (.str (wd p) :: .str (pmk p) :: ws) ∧ DpAll K G ws (rsD p) := by
  obtain ⟨a, xs, rfl, h1, h2⟩ := dp_tup h
  obtain ⟨x1, r1, rfl, h3, h4⟩ := dpa_cons h2
  obtain ⟨x2, r2, rfl, h5, h6⟩ := dpa_cons h4
  rw [dp_str h3, dp_str h5] at h1
  exact ⟨a, r2, rfl, h1, h6⟩
theorem dp_int {K : PySem.W.Frag} {G : Hp} {v : V} {i : Int} (h : Dp K G v (.int i)) : v = .int i := by
  cases h
  rfl
theorem keeps_eq (p : Pt) (s : Tr) : keeps p s = (!decide (wd p = "drop") || !decide (mrk s = pmk p)) := by
  cases p with
  | drop m =>
    have e : decide (wd (.drop m) = "drop") = true := decide_eq_true rfl
    rw [e]
    show decide (mrk s ≠ m) = _
    rw [decide_not]
    rfl
  | put m i t =>
    have e : decide (wd (.put m i t) = "drop") = false := (show decide (("put" : Str) = "drop") = false by decide +kernel)
    rw [e]; rfl
  | move m i =>
    have e : decide (wd (.move m i) = "drop") = false := (show decide (("move" : Str) = "drop") = false by decide +kernel)
    rw [e]; rfl
  | say m l =>
    have e : decide (wd (.say m l) = "drop") = false := (show decide (("say" : Str) = "drop") = false by decide +kernel)
    rw [e]; rfl
def insV (xs : List V) (i : Nat) (v : V) : List V := xs.take i ++ [v] ++ xs.drop i
theorem dpa_ins {K : PySem.W.Frag} {G : Hp} {xs : List V} {ts : List Tr} {v : V} {t : Tr} (h : DpAll K G xs (ts.map toD)) (hv : Dp K G v (toD t)) (i : Nat) : DpAll K G (insV xs i v) ((insT ts i t).map toD) := by
  unfold insV insT
  rw [List.map_append, List.map_cons, List.map_take, List.map_drop, List.append_assoc]
  exact dpa_app (dpa_take i h) (.cons hv (dpa_drop i h))
theorem dpa_erase {K : PySem.W.Frag} {G : Hp} : ∀ {xs : List V} {ds : List PyData} (k : Nat), DpAll K G xs ds → DpAll K G (xs.eraseIdx k) (ds.eraseIdx k)
  | _, _, _, .nil => by simp only [List.eraseIdx_nil]; exact .nil
  | _, _, 0, .cons _ h => h
  | _, _, k + 1, .cons h1 h2 => .cons h1 (dpa_erase k h2)
theorem map_erase {α β : Type} (f : α → β) : ∀ (l : List α) (j : Nat), (l.map f).eraseIdx j = (l.eraseIdx j).map f
  | [], j => by simp
  | a :: r, 0 => by simp
  | a :: r, j + 1 => by
    have ih := map_erase f r j
    simp [ih]
def spAft (K : PySem.W.Frag) (n : Nat) : Sp := fun vs H Q _ => ∃ (G : Hp) (M : List (Addr × HO)) (v u : V) (t : Tr) (p : Pt), vs = [v, u] ∧ Sep G M H ∧ Dp K G v (toD t) ∧ Dp K G u (ptD p) ∧ (pre t).length ≤ 1000 ∧ hgt t ≤ n ∧ (∀ m i s, p = .put m i s → i ≤ 2000) ∧ (∀ m i, p = .move m i → i ≤ 2000) ∧
  ∀ (x : V) (G' H' : Hp), Same G G' → Dp K G' x (toD (aft p t)) → Sep G' M H' → Q x H'
theorem kid_len {t c : Tr} (cm : c ∈ kids t) : (pre c).length ≤ (pres (kids t)).length := by
  obtain ⟨i, hi⟩ := List.getElem?_of_mem cm
  have e := congrArg pres (take_pre hi).1
  rw [pres_app] at e
  simp only [pres] at e
  rw [e]
  simp only [List.length_append]
  omega
def pu1 (p : Pt) (m : Str) (ks : List Tr) : List Tr := match p with
  | .put m' i t => if m = m' then insT ks i t else ks
  | _ => ks
theorem afts_len (p : Pt) : ∀ ts, (afts p ts).length ≤ ts.length
  | [] => by simp [afts]
  | s :: r => by
    have := afts_len p r
    simp only [afts]
    split <;> simp only [List.length_cons] <;> omega
theorem ok_after (T : Top K mg w) : ∀ n, FnOk P w K mg base CX0 (n + 1) T.a_after T.d_after ["_law_node_here", "_law_patch"] (spAft K n) := by
  intro n
  induction n with
  | zero =>
    refine T.F_after.ok sc_after (fun vs H Q E h => ?_) (fun cdv A outer s H vs Q E hr h => ?_)
    · obtain ⟨G, M, v, u, t, p, rfl, _⟩ := h
      rfl
    · obtain ⟨G, M, v, u, t, p, rfl, S, hv, hu, pl, hg, _⟩ := h
      rw [hgt_eq] at hg
      omega
  | succ n ih =>
    refine T.F_after.ok sc_after (fun vs H Q E h => ?_) (fun cdv A outer s H vs Q E hr h => ?_)
    · obtain ⟨G, M, v, u, t, p, rfl, _⟩ := h
      rfl
    · obtain ⟨G, M, v, u, t, p, rfl, S, hv, hu, pl, hg, bp, bm, q⟩ := h
      have G_after := ih
      obtain ⟨a, kv, kus, rfl, ha, hkv, hkus⟩ := node_at hv
      obtain ⟨b, ws, rfl, hb, hws⟩ := pt_at hu
      have kl := dpa_len hkus
      rw [List.length_map] at kl
      have km := many_le (kids t)
      have pe := congrArg List.length (pre_eq t)
      rw [List.length_cons] at pe
      refine ⟨_, (pss_cons (ps_setLc (i := 2) (own := [("_law_child", 6)]) (by rfl) sc_after.nd rfl rfl (sw_true rfl rfl rfl (by decide +kernel)) (pi_tupK K (pe_ix (ix_k K) (xv 0) pe_int (fun _ _ => rfl))) (blkOk_by (N := ["_law_node_here", "_law_patch", "_law_below", "_law_label_here", "_law_k", "_law_moved", "_law_child"]) (sc := defScope s_after) (by decide +kernel)) (fun _ _ _ _ _ => (pg_name (i := 6) sc_after.nd rfl (.inl rfl))) (fun _ _ _ _ _ => (pts_one (PW.pt (xw_or (xt_cmp (op_neLK K hr.u190) (pe_ix (ix_k K) (xv 1) pe_int (fun _ _ => rfl)) pe_str (nomark _)) (pw_or1 (xt_cmp (op_neLK K hr.u190) (pe_ix (ix_k K) (xv 6) pe_int (fun _ _ => rfl)) (pe_ix (ix_k K) (xv 1) pe_int (fun _ _ => rfl)) (nomark _))))))) (fun _ _ _ _ _ => (pe_call G_after (hr.mono (by omega)) (by rfl) T.g_after T.F_after.kp T.b_after .nil pass0 (pa_cons (xv 6) (pa_cons (xv 1) pa_nil)))))
      (pss_cons (ps_set (i := 3) sc_after.nd rfl (.inl rfl) (pe_ix (ix_k K) (xv 0) pe_int (fun _ _ => rfl)))
      (xss_cut (xs_if (PW.pt (xw_and (xt_cmp (op_eqLK K hr.u190) (pe_ix (ix_k K) (xv 1) pe_int (fun _ _ => rfl)) pe_str (nomark _)) (pw_and1 (xt_cmp (op_eqLK K hr.u190) (pe_ix (ix_k K) (xv 0) pe_int (fun _ _ => rfl)) (pe_ix (ix_k K) (xv 1) pe_int (fun _ _ => rfl)) (nomark _)))))
      (pss_one (ps_expr (pe_bmK K PySem.F.plainAttrs_list PySem.F.slot_list_insert PySem.F.type_list_insert mt_insert (xv 2) (pa_cons (pe_ix (ix_k K) (xv 1) pe_int (fun _ _ => rfl)) (pa_cons (pe_ix (ix_k K) (xv 1) pe_int (fun _ _ => rfl)) pa_nil)))))
      pss_nil)
      (xss_cut (xs_if (PW.pt (xw_and (xt_cmp (op_eqLK K hr.u190) (pe_ix (ix_k K) (xv 1) pe_int (fun _ _ => rfl)) pe_str (nomark _)) (pw_and1 (xt_cmp (op_eqLK K hr.u190) (pe_ix (ix_k K) (xv 0) pe_int (fun _ _ => rfl)) (pe_ix (ix_k K) (xv 1) pe_int (fun _ _ => rfl)) (nomark _)))))
      (pss_one (ps_set (i := 3) sc_after.nd rfl (.inl rfl) (pe_ix (ix_k K) (xv 1) pe_int (fun _ _ => rfl))))
      pss_nil)
      (xss_cut (xs_if (xt_cmp (op_eqLK K hr.u190) (pe_ix (ix_k K) (xv 1) pe_int (fun _ _ => rfl)) pe_str (nomark _))
      (pss_one (ps_for PassesOwn.never rfl (pi_range1 (by rfl) T.m_range (pa_cons (pe_callB (cr_lenK K) (by rfl) T.m_len (by decide +kernel) (pa_cons (xv 2) pa_nil)) pa_nil)) (pg_name (i := 4) sc_after.nd rfl (.inl rfl))
      (pss_one (xs_if (xt_cmp (op_eqLK K hr.u190) (pe_ix (ix_k K) (pe_ix (ix_k K) (xv 2) (xv 4) (fun _ _ => rfl)) pe_int (fun _ _ => rfl)) (pe_ix (ix_k K) (xv 1) pe_int (fun _ _ => rfl)) (nomark _))
      (pss_cons (ps_set (i := 5) sc_after.nd rfl (.inl rfl) (pe_bmK K PySem.F.plainAttrs_list PySem.F.slot_list_pop PySem.F.type_list_pop mt_popAt (xv 2) (pa_cons (xv 4) pa_nil)))
      (pss_cons (ps_expr (pe_bmK K PySem.F.plainAttrs_list PySem.F.slot_list_insert PySem.F.type_list_insert mt_insert (xv 2) (pa_cons (pe_ix (ix_k K) (xv 1) pe_int (fun _ _ => rfl)) (pa_cons (xv 5) pa_nil))))
      (pss_one ps_break)))
      pss_nil))))
      pss_nil)
      (pss_one (ps_ret (pe_tup (pa_cons (pe_ix (ix_k K) (xv 0) pe_int (fun _ _ => rfl)) (pa_cons (xv 3) (pa_cons (pe_callTy (call_tupleK K) (by rfl) T.m_tuple (by decide +kernel) (pa_cons (xv 2) pa_nil)) pa_nil))))))))))), ?_⟩
      refine ⟨_, _, .inr (S.t ha), atI_nat (j := 2) rfl, kv, rfl, ⟨_, S.t hkv⟩, fun D nD => lc_tup (xs := kus) (fun i H' => ∃ (vs : List V) (G' : Hp), Same G G' ∧ DpAll K G' vs ((afts p ((kids t).take i)).map toD) ∧ Sep G' ((D, .lst vs) :: M) H') ⟨[], G, Same.refl _, .nil, S.new nD⟩ (fun i H' _ pv => ?_) (fun i x H' hx pv => ⟨rfl, ?_⟩) (fun H' pv => ?_)⟩
      · obtain ⟨_, _, s', _, S'⟩ := pv
        exact S'.t (same_t s' hkv)
      · obtain ⟨vs, G1, s1, hvs, S1⟩ := pv
        obtain ⟨d, hd, hxd⟩ := dpa_get hkus hx
        obtain ⟨c, hc, rfl⟩ := map_get hd
        obtain ⟨ca, ckv, ckus, rfl, hca, _, _⟩ := id (node_at hxd)
        have cm := List.mem_of_getElem? hc
        have hgc := hgt_kid cm
        have plc := kid_len cm
        have il := (List.getElem?_eq_some_iff.mp hc).1
        have vl := dpa_len hvs
        have al := afts_len p ((kids t).take i)
        rw [List.length_map] at vl
        rw [List.length_take] at al
        have ek := keeps_eq p c
        have en : afts p ((kids t).take (i + 1)) = afts p ((kids t).take i) ++ (if keeps p c then [aft p c] else []) := by rw [take_snoc hc, afts_app, afts_one]
        refine ⟨_, _, .inr (S1.t (same_t s1 hb)), atI_nat (j := 0) rfl, fun e1 => ?_, fun e1 => ⟨_, _, .inr (S1.t (same_t s1 hca)), atI_nat (j := 0) rfl, _, _, .inr (S1.t (same_t s1 hb)), atI_nat (j := 1) rfl, ?_⟩⟩
        · refine tst (fun _ => ?_) (fun e => nomatch e)
          rw [e1, Bool.true_or] at ek
          rw [ek, if_pos rfl] at en
          refine ⟨G1, _, _, _, c, p, rfl, S1, dp_same s1 hxd, dp_same s1 hu, by omega, by omega, bp, bm, fun y G2 H2 s2 hy S2 => ⟨_, S2.hd, smallL (by omega), vs ++ [y], G2, s1.trans s2, ?_, S2.set⟩⟩
          rw [en, List.map_append]
          exact dpa_app (dpa_same s2 hvs) (dpa_one hy)
        · rw [e1, Bool.false_or] at ek
          refine tst (fun e2 => ?_) (fun e2 => ?_)
          · rw [e2] at ek
            rw [ek, if_pos rfl] at en
            refine ⟨G1, _, _, _, c, p, rfl, S1, dp_same s1 hxd, dp_same s1 hu, by omega, by omega, bp, bm, fun y G2 H2 s2 hy S2 => ⟨_, S2.hd, smallL (by omega), vs ++ [y], G2, s1.trans s2, ?_, S2.set⟩⟩
            rw [en, List.map_append]
            exact dpa_app (dpa_same s2 hvs) (dpa_one hy)
          · rw [e2] at ek
            rw [ek, if_neg (by decide), List.append_nil] at en
            exact ⟨vs, G1, s1, by rw [en]; exact hvs, S1⟩
      · obtain ⟨vs, G1, s1, hvs, S1⟩ := pv
        rw [kl, List.take_length] at hvs
        have vl := dpa_len hvs
        have al := afts_len p (kids t)
        rw [List.length_map] at vl
        refine ⟨_, _, .inr (S1.t (same_t s1 ha)), atI_nat (j := 1) rfl, ?_⟩
        -- put
        generalize ekz : afts p (kids t) = kz at *
        have stay1 : (∀ m i s, p = .put m i s → mrk t ≠ m) → pu1 p (mrk t) kz = kz := fun hno => by
          cases p with
          | put m i s => exact if_neg (hno m i s rfl)
          | _ => rfl
        have wp : ∀ m i s, p = .put m i s → wd p = "put" := fun m i s e => by rw [e]; rfl
        have nop : wd p ≠ "put" → ∀ m i s, p = .put m i s → False := fun h m i s e => h (wp m i s e)
        refine ⟨fun σ H' => ∃ (vs : List V), σ = [some (.ref a), some (.ref b), some (.ref D), some (.str (lbl t)), none, none, none] ∧ vs.length ≤ (kids t).length + 1 ∧ DpAll K G1 vs ((pu1 p (mrk t) kz).map toD) ∧ Sep G1 ((D, .lst vs) :: M) H',
          ⟨_, _, .inr (S1.t (same_t s1 hb)), atI_nat (j := 0) rfl, fun e1 => ⟨_, _, .inr (S1.t (same_t s1 ha)), atI_nat (j := 0) rfl, _, _, .inr (S1.t (same_t s1 hb)), atI_nat (j := 1) rfl, fun e2 => ?_, fun e2 => ?_⟩, fun e1 => ⟨ff, fun _ => ?_⟩⟩, fun σ H3 hj => ?_⟩
        · have w1 := of_decide_eq_true e1
          have w2 := of_decide_eq_true e2
          cases p with
          | put m i s =>
            have hws1 := dpa_same s1 hws
            obtain ⟨x1, r1, rfl, h3, h4⟩ := dpa_cons hws1
            obtain ⟨x2, r2, rfl, h5, h6⟩ := dpa_cons h4
            obtain rfl := dp_int h3
            have bi := bp m i s rfl
            refine ⟨.inl ⟨rfl, _, SqL.of S1.hd⟩, _, _, .inr (S1.t (same_t s1 hb)), atI_nat (j := 2) rfl, _, _, .inr (S1.t (same_t s1 hb)), atI_nat (j := 3) rfl, D, vs, (i : Nat), x2, rfl, rfl, S1.hd, smallL (by omega), by omega, by omega, ?_⟩
            refine ⟨insV vs i x2, rfl, ?_, ?_, S1.set⟩
            · unfold insV
              rw [List.length_append, List.length_append, List.length_take, List.length_drop]
              simp only [List.length_singleton]
              omega
            · rw [show pu1 (.put m i s) (mrk t) kz = insT kz i s from if_pos w2]
              exact dpa_ins hvs h5 i
          | drop m => exact absurd w1 (show ("drop" : Str) ≠ "put" by decide +kernel)
          | move m i => exact absurd w1 (show ("move" : Str) ≠ "put" by decide +kernel)
          | say m l => exact absurd w1 (show ("say" : Str) ≠ "put" by decide +kernel)
        · refine ⟨vs, rfl, by omega, ?_, S1⟩
          rw [stay1 fun m i s e e3 => of_decide_eq_false e2 (by rw [e3, e]; rfl)]
          exact hvs
        · refine ⟨vs, rfl, by omega, ?_, S1⟩
          rw [stay1 fun m i s e => ((nop (of_decide_eq_false e1)) m i s e).elim]
          exact hvs
        obtain ⟨vs1, rfl, vl1, hvs1, S3⟩ := hj
        generalize ek1 : pu1 p (mrk t) kz = k1 at *
        -- say
        refine ⟨fun σ H' => σ = [some (.ref a), some (.ref b), some (.ref D), some (.str (lbP p (mrk t) (lbl t))), none, none, none] ∧ H' = H3,
          ⟨_, _, .inr (S3.t (same_t s1 hb)), atI_nat (j := 0) rfl, fun e1 => ⟨_, _, .inr (S3.t (same_t s1 ha)), atI_nat (j := 0) rfl, _, _, .inr (S3.t (same_t s1 hb)), atI_nat (j := 1) rfl, fun e2 => ?_, fun e2 => ?_⟩, fun e1 => ⟨ff, fun _ => ?_⟩⟩, fun σ H4 hj => ?_⟩
        · have w1 := of_decide_eq_true e1
          have w2 := of_decide_eq_true e2
          cases p with
          | say m l =>
            have hws1 := dpa_same s1 hws
            obtain ⟨x1, r1, rfl, h3, h4⟩ := dpa_cons hws1
            obtain rfl := dp_str h3
            refine ⟨_, _, .inr (S3.t (same_t s1 hb)), atI_nat (j := 2) rfl, ?_, rfl⟩
            rw [show lbP (.say m l) (mrk t) (lbl t) = l from if_pos w2]
            rfl
          | drop m => exact absurd w1 (show ("drop" : Str) ≠ "say" by decide +kernel)
          | move m i => exact absurd w1 (show ("move" : Str) ≠ "say" by decide +kernel)
          | put m i s => exact absurd w1 (show ("put" : Str) ≠ "say" by decide +kernel)
        · refine ⟨?_, rfl⟩
          have : lbP p (mrk t) (lbl t) = lbl t := by
            cases p with
            | say m l => exact if_neg (of_decide_eq_false e2)
            | _ => rfl
          rw [this]
        · refine ⟨?_, rfl⟩
          have : lbP p (mrk t) (lbl t) = lbl t := by
            cases p with
            | say m l => exact absurd rfl (of_decide_eq_false e1)
            | _ => rfl
          rw [this]
        obtain ⟨rfl, rfl⟩ := hj
        -- move
        refine ⟨fun σ H' => ∃ (y4 y5 : Option V) (vs2 : List V), σ = [some (.ref a), some (.ref b), some (.ref D), some (.str (lbP p (mrk t) (lbl t))), y4, y5, none] ∧ DpAll K G1 vs2 ((ksP p (mrk t) kz).map toD) ∧ Sep G1 ((D, .lst vs2) :: M) H',
          ⟨_, _, .inr (S3.t (same_t s1 hb)), atI_nat (j := 0) rfl, fun e1 => ?_, fun e1 => ?_⟩, fun σ H5 hj => ?_⟩
        · have w1 := of_decide_eq_true e1
          cases p with
          | move m i =>
            have e0 : k1 = kz := ek1.symm
            subst e0
            have hws1 := dpa_same s1 hws
            obtain ⟨x1, r1, rfl, h3, h4⟩ := dpa_cons hws1
            obtain rfl := dp_int h3
            have bi := bm m i rfl
            have vl2 := dpa_len hvs1
            rw [List.length_map] at vl2
            refine ⟨_, .inl (SqL.of S3.hd), _, rfl, by omega, by omega, for_range (lo := 0) (n := (vs1.length : Int).toNat) (fun j σ H' => ∃ (y4 : Option V), σ = [some (.ref a), some (.ref b), some (.ref D), some (.str (lbP (.move m i) (mrk t) (lbl t))), y4, none, none] ∧ (∀ (j' : Nat) (c : Tr), j' < j → k1[j']? = some c → mrk c ≠ m) ∧ Sep G1 ((D, .lst vs1) :: M) H') ⟨_, rfl, fun j' c h => by omega, S3⟩ (fun j σ H' hj h => ?_) (fun σ H' h => ?_)⟩
            · obtain ⟨y4, rfl, hno, S4⟩ := h
              have hjl : j < vs1.length := by omega
              obtain ⟨d, hd, hdd⟩ := dpa_get hvs1 (List.getElem?_eq_getElem hjl)
              obtain ⟨c, hc, rfl⟩ := map_get hd
              obtain ⟨ca, ckv, ckus, eca, hca, _, _⟩ := id (node_at hdd)
              have ej : (0 : Int) + (j : Nat) = ((j : Nat) : Int) := by omega
              rw [ej]
              have hvj : vs1[j]? = some (.ref ca) := by rw [List.getElem?_eq_getElem hjl, eca]
              refine ⟨_, _, .inl (SqL.of S4.hd), atI_nat hvj, _, _, .inr (S4.t hca), atI_nat (j := 0) rfl, _, _, .inr (S4.t (same_t s1 hb)), atI_nat (j := 1) rfl, fun e2 => ?_, fun e2 => ?_⟩
              · have w2 : mrk c = m := of_decide_eq_true e2
                refine ⟨.inl ⟨rfl, _, SqL.of S4.hd⟩, D, vs1, (j : Nat), j, .ref ca, rfl, rfl, S4.hd, by omega, by omega, seqIdx (by omega) (by omega), hvj, ?_⟩
                have S5 := S4.set (o' := .lst (vs1.eraseIdx j))
                refine ⟨.inl ⟨rfl, _, SqL.of S5.hd⟩, _, _, .inr (S5.t (same_t s1 hb)), atI_nat (j := 2) rfl, D, vs1.eraseIdx j, (i : Nat), .ref ca, rfl, rfl, S5.hd, smallL (by rw [List.length_eraseIdx]; split <;> omega), by omega, by omega, ?_⟩
                refine ⟨_, _, insV (vs1.eraseIdx j) i (.ref ca), rfl, ?_, S5.set⟩
                rw [show ksP (.move m i) (mrk t) k1 = insT (k1.eraseIdx j) i c from mvT_at hc w2 fun j' s hj' hs => hno j' s hj' hs]
                refine dpa_ins ?_ (by rw [← eca]; exact hdd) i
                have := dpa_erase j hvs1
                rw [map_erase] at this
                exact this
              · refine ⟨_, rfl, fun j' c' hj' hc' => ?_, S4⟩
                by_cases ejj : j' = j
                · subst ejj
                  rw [hc] at hc'
                  cases hc'
                  exact of_decide_eq_false e2
                · exact hno j' c' (by omega) hc'
            · obtain ⟨y4, rfl, hno, S4⟩ := h
              refine ⟨_, _, vs1, rfl, ?_, S4⟩
              rw [show ksP (.move m i) (mrk t) k1 = k1 from mvT_none fun s hs => by
                obtain ⟨j', hj'⟩ := List.getElem?_of_mem hs
                have := (List.getElem?_eq_some_iff.mp hj').1
                exact hno j' s (by omega) hj']
              exact hvs1
          | drop m => exact absurd w1 (show ("drop" : Str) ≠ "move" by decide +kernel)
          | say m l => exact absurd w1 (show ("say" : Str) ≠ "move" by decide +kernel)
          | put m i s => exact absurd w1 (show ("put" : Str) ≠ "move" by decide +kernel)
        · refine ⟨_, _, vs1, rfl, ?_, S3⟩
          have : ksP p (mrk t) kz = k1 := by
            rw [← ek1]
            cases p with
            | move m i => exact absurd rfl (of_decide_eq_false e1)
            | _ => rfl
          rw [this]
          exact hvs1
        obtain ⟨y4, y5, vs2, rfl, hvs2, S6⟩ := hj
        refine ⟨_, _, .inr (S6.t (same_t s1 ha)), atI_nat (j := 0) rfl, D, vs2, rfl, .inl ⟨SqL.of S6.hd, fun p7 np7 => ?_⟩⟩
        obtain ⟨G7, s7, S7, h7⟩ := Sep.mk (o := .tup vs2) S6.drop np7
        refine ⟨sz, fun p8 np8 => ?_⟩
        obtain ⟨G8, s8, S8, h8⟩ := Sep.mk (o := .tup [.str (mrk t), .str (lbP p (mrk t) (lbl t)), .ref p7]) S7 np8
        refine q _ G8 _ (s1.trans (s7.trans s8)) ?_ S8
        rw [aft_eq, ekz]
        simp only [toD, toDs_eq]
        exact .tup (SqT.of h8) (.cons (.str _) (.cons (.str _) (.cons (.tup (SqT.of (s8 _ _ h7)) (dpa_same (s7.trans s8) hvs2)) .nil)))

end
end K11
set_option Elab.async false
set_option linter.all false
set_option maxRecDepth 100000
set_option maxHeartbeats 4000000
namespace K11
open PySem PySem.Spec PyProof.Rows L2 XL
section
variable {P : Program} {w : World} {K : PySem.W.Frag} {mg : Str → Option Value} {base : Heap}
/-! ### the program's patches: small parts -/
def spIsN : Sp := fun vs H Q _ => ∃ i lo hi : Int, vs = [.int i, .int lo, .int hi] ∧ Q (.bl (decide (lo ≤ i) && decide (i ≤ hi))) H
theorem ok_is_number (T : Top K mg w) {k : Nat} : FnOk P w K mg base CX0 (k + 1) T.a_is_number T.d_is_number ["thing", "low", "high"] spIsN := by
  refine T.F_is_number.ok sc_is_number (fun vs H Q E h => ?_) (fun cdv A outer s H vs Q E hr h => ?_)
  · obtain ⟨i, lo, hi, rfl, _⟩ := h
    rfl
  · obtain ⟨i, lo, hi, rfl, q⟩ := h
    refine ⟨_, (pss_one (ps_ret (xe_and (pe_callB (call_isK K) (by rfl) T.m_isinstance (by decide +kernel) (pa_cons (xv 0) (pa_cons (pe_bltn (v := .ty "int") (by rfl) T.m_int (by decide +kernel) rfl) pa_nil))) (xe_and (xe_not (pe_callB (call_isK K) (by rfl) T.m_isinstance (by decide +kernel) (pa_cons (xv 0) (pa_cons (pe_bltn (v := .ty "bool") (by rfl) T.m_bool (by decide +kernel) rfl) pa_nil)))) (pe_one (xe_chain op_leY op_leY (xv 1) (xv 0) (xv 2))))))), ?_⟩
    refine ⟨_, _, _, _, true, rfl, .ty _, .base (.int _), kit_ty (by decide +kernel), fun _ => ⟨_, _, _, _, false, rfl, .ty _, .base (.int _), kit_ty (by decide +kernel), ?_⟩, tt⟩
    refine ⟨fun _ => ⟨fun e => ?_, fun e => ?_⟩, tt⟩
    · rw [show decide (lo ≤ i) = true from e, Bool.true_and] at q
      exact q
    · rw [show decide (lo ≤ i) = false from e, Bool.false_and] at q
      exact q
def spAt : Sp := fun vs H Q _ => ∃ i n : Nat, vs = [.int (i : Nat), .int (n : Nat)] ∧ i ≤ n ∧ Q .non H
theorem ok_check_at (T : Top K mg w) {k : Nat} (G_is_number : FnOk P w K mg base CX0 k T.a_is_number T.d_is_number ["thing", "low", "high"] spIsN) : FnOk P w K mg base CX0 (k + 1) T.a_check_at T.d_check_at ["at", "count"] spAt := by
  refine T.F_check_at.ok sc_check_at (fun vs H Q E h => ?_) (fun cdv A outer s H vs Q E hr h => ?_)
  · obtain ⟨i, n, rfl, _⟩ := h
    rfl
  · obtain ⟨i, n, rfl, hi, q⟩ := h
    refine ⟨_, (pss_one (xs_if (pt_not (xt_truK K (pe_call G_is_number (hr.mono (by omega)) (by rfl) T.g_is_number T.F_is_number.kp T.b_is_number .nil pass0 (pa_cons (xv 0) (pa_cons pe_int (pa_cons (xv 1) pa_nil))))))
      (pss_one ps_never)
      pss_nil)), ?_⟩
    refine ⟨i, 0, n, rfl, ?_⟩
    rw [decide_eq_true (by omega), decide_eq_true (by omega)]
    exact ⟨ff, fun _ => q⟩
def spChk (K : PySem.W.Frag) : Sp := fun vs H Q _ => ∃ (u : V) (p : Pt), vs = [u] ∧ Dp K H u (ptD p) ∧ Q .non H
def wlen : Pt → Nat
  | .drop _ => 2
  | .put _ _ _ => 4
  | .move _ _ => 3
  | .say _ _ => 3
theorem ok_check_patch (T : Top K mg w) {k : Nat} : FnOk P w K mg base CX0 (k + 1) T.a_check_patch T.d_check_patch ["patch"] (spChk K) := by
  refine T.F_check_patch.ok sc_check_patch (fun vs H Q E h => ?_) (fun cdv A outer s H vs Q E hr h => ?_)
  · obtain ⟨u, p, rfl, _⟩ := h
    rfl
  · obtain ⟨u, p, rfl, hu, q⟩ := h
    obtain ⟨a, ws, rfl, ha, hws⟩ := pt_at hu
    refine ⟨_, (pss_cons (xs_if (PW.pt (xw_or (pt_not (xt_truK K (pe_callB (call_isK K) (by rfl) T.m_isinstance (by decide +kernel) (pa_cons (xv 0) (pa_cons (pe_bltn (v := .ty "tuple") (by rfl) T.m_tuple (by decide +kernel) rfl) pa_nil))))) (xw_or (xt_cmp (op_eqLK K hr.u190) (pe_callB (cr_lenK K) (by rfl) T.m_len (by decide +kernel) (pa_cons (xv 0) pa_nil)) pe_int (nomark _)) (pw_or1 (xt_cmp (notin_seqK K) (pe_ix (ix_k K) (xv 0) pe_int (fun _ _ => rfl)) (pe_glob (v := .ref T.U_WORDS) (by rfl) T.g_WORDS rfl) (by rfl))))))
      (pss_one ps_never)
      pss_nil)
      (pss_one (xs_if (xt_cmp (op_neLK K hr.u190) (pe_callB (cr_lenK K) (by rfl) T.m_len (by decide +kernel) (pa_cons (xv 0) pa_nil)) (pe_ix (ix_k K) (pe_glob (v := .ref T.U_LENGTHS) (by rfl) T.g_LENGTHS rfl) (pe_bmK K PySem.F.plainAttrs_tuple PySem.F.slot_tuple_index PySem.F.type_tuple_index (mt_tindexK K hr.u65) (pe_glob (v := .ref T.U_WORDS) (by rfl) T.g_WORDS rfl) (pa_cons (pe_ix (ix_k K) (xv 0) pe_int (fun _ _ => rfl)) pa_nil)) (fun _ _ => rfl)) (nomark _))
      (pss_one ps_never)
      pss_nil))), ?_⟩
    have wl := dpa_len hws
    refine ⟨_, _, _, _, true, rfl, .ty _, sqT_ty ha, kit_ty (by decide +kernel), ff, fun _ => ?_⟩
    refine ⟨_, .inr ha, fun e => ?_, fun _ => ?_⟩
    · have := of_decide_eq_true e
      simp only [List.length_cons] at this
      omega
    have sqW := T.sq_WORDS H
    refine ⟨_, _, .inr ha, atI_nat (j := 0) rfl, T.U_WORDS, _, rfl, .inr sqW, rfl, by decide, ?_⟩
    have win : inV (.str (wd p)) [V.str "drop", .str "put", .str "move", .str "say"] = true := by
      cases p with
      | drop m => show inV (.str "drop") [V.str "drop", .str "put", .str "move", .str "say"] = true; decide +kernel
      | put m i t => show inV (.str "put") [V.str "drop", .str "put", .str "move", .str "say"] = true; decide +kernel
      | move m i => show inV (.str "move") [V.str "drop", .str "put", .str "move", .str "say"] = true; decide +kernel
      | say m l => show inV (.str "say") [V.str "drop", .str "put", .str "move", .str "say"] = true; decide +kernel
    rw [win]
    refine ⟨ff, fun _ => ?_⟩
    have ws4 : DpAll K H [V.str "drop", .str "put", .str "move", .str "say"] [.str "drop", .str "put", .str "move", .str "say"] := .cons (.str _) (.cons (.str _) (.cons (.str _) (.cons (.str _) .nil)))
    refine ⟨_, .inr ha, .inr (.inl ⟨rfl, T.wt_WORDS⟩), _, _, .inr ha, atI_nat (j := 0) rfl, ?_⟩
    have sqL := T.sq_LENGTHS H
    cases p with
    | drop m =>
      refine ⟨T.U_WORDS, .str "drop", .str "drop", _, 0, .str "drop", rfl, rfl, .tup sqW ws4, .str _, by decide +kernel, by decide +kernel, rfl, by decide +kernel, fun m z h => by omega, ?_⟩
      refine ⟨_, _, .inr sqL, atI_nat (j := 0) rfl, ?_⟩
      have e2 : ((V.str (wd (.drop m)) :: V.str (pmk (.drop m)) :: ws).length : Int) = 2 := by simp only [List.length_cons, wl, rsD, List.length_nil]; rfl
      rw [e2]
      exact ⟨fun e => absurd e (by decide), fun _ => q⟩
    | put m i t =>
      refine ⟨T.U_WORDS, .str "put", .str "put", _, 1, .str "put", rfl, rfl, .tup sqW ws4, .str _, by decide +kernel, by decide +kernel, rfl, by decide +kernel, fun m z h hz => ?_, ?_⟩
      · obtain rfl : m = 0 := by omega
        cases hz
        decide +kernel
      refine ⟨_, _, .inr sqL, atI_nat (j := 1) rfl, ?_⟩
      have e2 : ((V.str (wd (.put m i t)) :: V.str (pmk (.put m i t)) :: ws).length : Int) = 4 := by simp only [List.length_cons, wl, rsD, List.length_nil]; rfl
      rw [e2]
      exact ⟨fun e => absurd e (by decide), fun _ => q⟩
    | move m i =>
      refine ⟨T.U_WORDS, .str "move", .str "move", _, 2, .str "move", rfl, rfl, .tup sqW ws4, .str _, by decide +kernel, by decide +kernel, rfl, by decide +kernel, fun m z h hz => ?_, ?_⟩
      · match m, h, hz with
        | 0, _, hz => cases hz; decide +kernel
        | 1, _, hz => cases hz; decide +kernel
      refine ⟨_, _, .inr sqL, atI_nat (j := 2) rfl, ?_⟩
      have e2 : ((V.str (wd (.move m i)) :: V.str (pmk (.move m i)) :: ws).length : Int) = 3 := by simp only [List.length_cons, wl, rsD, List.length_nil]; rfl
      rw [e2]
      exact ⟨fun e => absurd e (by decide), fun _ => q⟩
    | say m l =>
      refine ⟨T.U_WORDS, .str "say", .str "say", _, 3, .str "say", rfl, rfl, .tup sqW ws4, .str _, by decide +kernel, by decide +kernel, rfl, by decide +kernel, fun m z h hz => ?_, ?_⟩
      · match m, h, hz with
        | 0, _, hz => cases hz; decide +kernel
        | 1, _, hz => cases hz; decide +kernel
        | 2, _, hz => cases hz; decide +kernel
      refine ⟨_, _, .inr sqL, atI_nat (j := 3) rfl, ?_⟩
      have e2 : ((V.str (wd (.say m l)) :: V.str (pmk (.say m l)) :: ws).length : Int) = 3 := by simp only [List.length_cons, wl, rsD, List.length_nil]; rfl
      rw [e2]
      exact ⟨fun e => absurd e (by decide), fun _ => q⟩
mutual
theorem hgt_pre : ∀ t, hgt t ≤ (pre t).length
  | .node m l ks => by
    have := hgts_pre ks
    simp only [hgt, pre, List.length_cons]; omega
theorem hgts_pre : ∀ ts, hgts ts ≤ (pres ts).length
  | [] => by simp [hgts]
  | t :: r => by
    have h1 := hgt_pre t
    have h2 := hgts_pre r
    simp only [hgts, pres, List.length_append]; omega
end
/-! paths -/
theorem sub_snoc : ∀ {π : List Nat} {t q c : Tr} {k : Nat}, sub t π = some q → (kids q)[k]? = some c → sub t (π ++ [k]) = some c
  | [], t, q, c, k, h, hk => by
    cases h
    rw [List.nil_append, sub_cons hk]
    rfl
  | j :: π, t, q, c, k, h, hk => by
    obtain ⟨d, hd, h⟩ := sub_ne h
    rw [List.cons_append, sub_cons hd]
    exact sub_snoc h hk
theorem sub_unsnoc : ∀ {π : List Nat} {t c : Tr} {k : Nat}, sub t (π ++ [k]) = some c → ∃ q, sub t π = some q ∧ (kids q)[k]? = some c
  | [], t, c, k, h => by
    rw [List.nil_append] at h
    obtain ⟨d, hd, h⟩ := sub_ne h
    cases h
    exact ⟨t, rfl, hd⟩
  | j :: π, t, c, k, h => by
    rw [List.cons_append] at h
    obtain ⟨d, hd, h⟩ := sub_ne h
    obtain ⟨q, h1, h2⟩ := sub_unsnoc h
    exact ⟨q, by rw [sub_cons hd]; exact h1, h2⟩
def WtAt (K : PySem.W.Frag) (t : Tr) (G : Hp) (v : V) (r : List Nat × Tr) : Prop := ∃ a v1 pa, v = .ref a ∧ G a = some (.tup [v1, .ref pa]) ∧ Dp K G v1 (toD r.2) ∧ SqT K G pa (r.1.map nv) ∧ sub t r.1 = some r.2
theorem WtAt.same {K : PySem.W.Frag} {t : Tr} {G G' : Hp} {v : V} {r : List Nat × Tr} (e : Same G G') (h : WtAt K t G v r) : WtAt K t G' v r := by
  obtain ⟨a, v1, pa, h1, h2, h3, h4, h5⟩ := h
  exact ⟨a, v1, pa, h1, e _ _ h2, dp_same e h3, same_t e h4, h5⟩
def szs (rs : List (List Nat × Tr)) : Nat := (rs.map fun r => (pre r.2).length).sum
theorem szs_app (xs ys : List (List Nat × Tr)) : szs (xs ++ ys) = szs xs + szs ys := by
  unfold szs
  rw [List.map_append, List.sum_append]
theorem szs_kids (π : List Nat) : ∀ (ks : List Tr) (f : Nat → List Nat), szs ((List.range ks.length).filterMap fun k => (ks[k]?).map fun c => (f k, c)) = (pres ks).length := by
  intro ks f
  have go : ∀ (n : Nat), n ≤ ks.length → szs ((List.range n).filterMap fun k => (ks[k]?).map fun c => (f k, c)) = (pres (ks.take n)).length := by
    intro n
    induction n with
    | zero => intro _; simp [szs, pres]
    | succ n ih =>
      intro h
      have hk : ks[n]? = some ks[n] := List.getElem?_eq_getElem (by omega)
      rw [List.range_succ, List.filterMap_append, szs_app, ih (by omega), take_snoc hk, pres_app, List.length_append, pres_one]
      congr 1
      simp [szs, hk]
  have := go ks.length (Nat.le_refl _)
  rw [List.take_length] at this
  exact this
def spPath (K : PySem.W.Frag) : Sp := fun vs H Q _ => ∃ (G : Hp) (M : List (Addr × HO)) (v : V) (m : Str) (t : Tr), vs = [v, .str m] ∧ Sep G M H ∧ Dp K G v (toD t) ∧ (pre t).length ≤ 1000 ∧ m ∈ (pre t).map mrk ∧
  ∀ (pa : Addr) (π : List Nat) (q : Tr) (G' H' : Hp), Same G G' → SqT K G' pa (π.map nv) → sub t π = some q → mrk q = m → Sep G' M H' → Q (.ref pa) H'
theorem ok_path_to (T : Top K mg w) {k : Nat} : FnOk P w K mg base CX0 (k + 1) T.a_path_to T.d_path_to ["root", "mark"] (spPath K) := by
  refine T.F_path_to.ok sc_path_to (fun vs H Q E h => ?_) (fun cdv A outer s H vs Q E hr h => ?_)
  · obtain ⟨G, M, v, m, t, rfl, _⟩ := h
    rfl
  · obtain ⟨G, M, v, m, t, rfl, S, hv, pl, hm, q⟩ := h
    refine ⟨_, (pss_cons (ps_set (i := 2) sc_path_to.nd rfl (.inl rfl) (pe_lst (pa_cons (pe_tup (pa_cons (xv 0) (pa_cons (pe_tup pa_nil) pa_nil))) pa_nil)))
      (pss_cons (xs_while PassesOwn.never (xt_truK K (xv 2))
      (pss_cons (ps_asg (pe_bm0 PySem.F.plainAttrs_list PySem.F.slot_list_pop PySem.F.type_list_pop mt_pop (xv 2)) (pg_tupK K 2 (pgs_cons (pg_name (i := 3) sc_path_to.nd rfl (.inl rfl)) (pgs_cons (pg_name (i := 4) sc_path_to.nd rfl (.inl rfl)) pgs_nil))))
      (pss_cons (xs_if (xt_cmp (op_eqLK K hr.u190) (pe_ix (ix_k K) (xv 3) pe_int (fun _ _ => rfl)) (xv 1) (nomark _))
      (pss_one (ps_ret (xv 4)))
      pss_nil)
      (pss_one (ps_for PassesOwn.never rfl (pi_range1 (by rfl) T.m_range (pa_cons (pe_callB (cr_lenK K) (by rfl) T.m_len (by decide +kernel) (pa_cons (pe_ix (ix_k K) (xv 3) pe_int (fun _ _ => rfl)) pa_nil)) pa_nil)) (pg_name (i := 5) sc_path_to.nd rfl (.inl rfl))
      (pss_one (ps_expr (pe_bmK K PySem.F.plainAttrs_list PySem.F.slot_list_append PySem.F.type_list_append mt_append (xv 2) (pa_cons (pe_tup (pa_cons (pe_ix (ix_k K) (pe_ix (ix_k K) (xv 3) pe_int (fun _ _ => rfl)) (xv 5) (fun _ _ => rfl)) (pa_cons (pe_op (op_catAK K) (xv 4) (pe_tup (pa_cons (xv 5) pa_nil))) pa_nil))) pa_nil)))))))))
      (pss_one (ps_ret pe_non)))), ?_⟩
    refine ⟨sz, fun p0 np0 => ⟨sz, fun p1 np1 => ⟨sz, fun W nW => ?_⟩⟩⟩
    obtain ⟨G1, s1, S1, h1⟩ := Sep.mk (o := .tup []) S np0
    obtain ⟨G2, s2, S2, h2⟩ := Sep.mk (o := .tup [v, .ref p0]) S1 np1
    have S3 := S2.new (o := .lst [.ref p1]) nW
    refine ⟨fun n σ H' => ∃ (y3 y4 y5 : Option V) (ws : List V) (rs : List (List Nat × Tr)) (G' : Hp), σ = [some v, some (.str m), some (.ref W), y3, y4, y5] ∧ Same G2 G' ∧ n = szs rs ∧ n ≤ 1000 ∧ Paired (WtAt K t G') ws rs ∧ (∃ r ∈ rs, m ∈ (pre r.2).map mrk) ∧ Sep G' ((W, .lst ws) :: M) H',
      ⟨_, _, _, _, [.ref p1], [([], t)], G2, rfl, Same.refl _, rfl, by simpa [szs] using pl, .cons ⟨p1, v, p0, rfl, h2, dp_same (s1.trans s2) hv, SqT.of (s2 _ _ h1), rfl⟩ .nil, ⟨_, List.mem_singleton.mpr rfl, hm⟩, S3⟩, fun n σ H' h => ?_⟩
    obtain ⟨y3, y4, y5, ws, rs, G4, rfl, s4, rfl, n1, hws, ⟨r1, hr1, hr2⟩, S4⟩ := h
    have wl := prd_len hws
    rcases nil_or_snoc ws with ew | ⟨wp, w0, ew⟩
    · subst ew
      have : rs = [] := List.length_eq_zero_iff.mp wl.symm
      rw [this] at hr1
      exact nomatch hr1
    · subst ew
      have ne : (!(wp ++ [w0]).isEmpty) = true := by simp
      refine ⟨!(wp ++ [w0]).isEmpty, .inl ⟨_, SqL.of S4.hd, rfl⟩, fun _ => ?_, fun e => absurd (ne.symm.trans e) (by decide)⟩
      obtain ⟨rp, ⟨π, c⟩, rfl, hwp, a, v1, pa, rfl, ha, hv1, hpa, hsub⟩ := prd_unsnoc hws
      replace hv1 : Dp K G4 v1 (toD c) := hv1
      replace hpa : SqT K G4 pa (π.map nv) := hpa
      replace hsub : sub t π = some c := hsub
      have S5 := S4.set (o' := .lst wp)
      refine ⟨.inl ⟨rfl, _, SqL.of S4.hd⟩, W, wp ++ [.ref a], .ref a, rfl, rfl, S4.hd, by simp, ?_⟩
      rw [List.dropLast_concat]
      refine ⟨a, _, rfl, SqT.of (S5.st ha), rfl, _, _, rfl, _, _, rfl, rfl, ?_⟩
      obtain ⟨a0, kv, kus, rfl, ha0, hkv, hkus⟩ := node_at hv1
      have kl := dpa_len hkus
      rw [List.length_map] at kl
      have ez : szs (rp ++ [(π, c)]) = szs rp + (pre c).length := by
        rw [szs_app]
        simp [szs]
      have ec := congrArg List.length (pre_eq c)
      rw [List.length_cons] at ec
      have km := many_le (kids c)
      refine ⟨_, _, .inr (S5.t ha0), atI_nat (j := 0) rfl, fun e => ?_, fun e => ?_⟩
      · exact q pa π c G4 _ (s1.trans (s2.trans s4)) hpa hsub (of_decide_eq_true e) S5.drop
      have ne2 : mrk c ≠ m := of_decide_eq_false e
      refine ⟨_, _, .inr (S5.t ha0), atI_nat (j := 2) rfl, _, .inr (S5.t hkv), ?_⟩
      rw [kl]
      have wpl := prd_len hwp
      have wps : wp.length ≤ szs rp := by
        rw [wpl]
        clear hwp wpl ez n1 hr1 hws wl
        induction rp with
        | nil => simp
        | cons x r ih =>
          have hx := congrArg List.length (pre_eq x.2)
          rw [List.length_cons] at hx
          have : szs (x :: r) = (pre x.2).length + szs r := by simp [szs]
          rw [this, List.length_cons]
          omega
      have fk : ∀ n, (List.range n).filterMap (fun k => ((kids c)[k]?).map fun d => (π ++ [k], d)) = (List.range n).filterMap fun k => ((kids c)[k]?).map fun d => (π ++ [k], d) := fun _ => rfl
      refine ⟨_, rfl, by omega, by omega, for_range (lo := 0) (n := ((kids c).length : Int).toNat) (fun i σ H' => ∃ (y5 : Option V) (vs : List V) (G' : Hp), σ = [some v, some (.str m), some (.ref W), some (.ref a0), some (.ref pa), y5] ∧ Same G4 G' ∧ vs.length = wp.length + i ∧ Paired (WtAt K t G') vs (rp ++ (List.range i).filterMap fun k => ((kids c)[k]?).map fun d => (π ++ [k], d)) ∧ Sep G' ((W, .lst vs) :: M) H') ⟨_, wp, G4, rfl, Same.refl _, rfl, by simpa using hwp, S5⟩ (fun i σ H' hi h => ?_) (fun σ H' h => ?_)⟩
      · obtain ⟨y5, vs, G6, rfl, s6, vl, hvs, S6⟩ := h
        have ei : (0 : Int) + (i : Nat) = ((i : Nat) : Int) := by omega
        rw [ei]
        have il : i < (kids c).length := by omega
        have hk : (kids c)[i]? = some (kids c)[i] := List.getElem?_eq_getElem il
        have hku : kus[i]? = some (kus[i]'(by omega)) := List.getElem?_eq_getElem (by omega)
        obtain ⟨d, hd, hdd⟩ := dpa_get hkus hku
        obtain ⟨c2, hc2, rfl⟩ := map_get hd
        rw [hk] at hc2
        cases hc2
        refine ⟨.inl ⟨rfl, _, SqL.of S6.hd⟩, _, _, .inr (S6.t (same_t s6 ha0)), atI_nat (j := 2) rfl, _, _, .inr (S6.t (same_t s6 hkv)), atI_nat hku, sz, fun p7 np7 => ?_⟩
        obtain ⟨G7, s7, S7, h7⟩ := Sep.mk (o := .tup [.int (i : Nat)]) S6 np7
        have plen : π.length ≤ 1000 := by
          have := sub_lev hsub
          have h2 : hgt t ≤ (pre t).length := hgt_pre t
          omega
        refine cat_ok S7 (same_t (s6.trans s7) hpa) (SqT.of h7) (small (by rw [List.length_map]; simp only [List.length_singleton]; omega)) fun cc G8 H8 s8 hcc S8 => ⟨sz, fun p9 np9 => ?_⟩
        obtain ⟨G9, s9, S9, h9⟩ := Sep.mk (o := .tup [kus[i]'(by omega), .ref cc]) S8 np9
        have s69 := s7.trans (s8.trans s9)
        refine ⟨W, vs, .ref p9, rfl, rfl, S9.hd, smallL (by omega), _, vs ++ [.ref p9], G9, rfl, s6.trans s69, by rw [List.length_append, vl]; rfl, ?_, S9.set⟩
        rw [List.range_succ, List.filterMap_append, ← List.append_assoc]
        have e1 : [i].filterMap (fun k => ((kids c)[k]?).map fun d => (π ++ [k], d)) = [(π ++ [i], (kids c)[i])] := by simp [hk]
        rw [e1]
        refine prd_app (prd_imp (fun _ _ => WtAt.same s69) hvs) (.cons ⟨p9, _, cc, rfl, h9, dp_same (s6.trans s69) hdd, ?_, sub_snoc hsub hk⟩ .nil)
        rw [List.map_append]
        exact same_t s9 hcc
      · obtain ⟨y5, vs, G6, rfl, s6, vl, hvs, S6⟩ := h
        have en : ((kids c).length : Int).toNat = (kids c).length := by omega
        rw [en] at hvs vl
        have e2 := szs_kids π (kids c) fun k => π ++ [k]
        refine ⟨szs rp + (pres (kids c)).length, by rw [ez]; omega, _, _, _, vs, _, G6, rfl, s4.trans s6, by rw [szs_app, e2], by omega, hvs, ?_, S6⟩
        rcases List.mem_append.mp hr1 with h | h
        · exact ⟨r1, List.mem_append_left _ h, hr2⟩
        · obtain rfl := List.mem_singleton.mp h
          replace hr2 : m ∈ (pre c).map mrk := hr2
          rw [pre_eq, List.map_cons, List.mem_cons] at hr2
          rcases hr2 with h | h
          · exact absurd h.symm ne2
          · obtain ⟨x, hx, rfl⟩ := List.mem_map.mp h
            obtain ⟨d, hd, hxd⟩ := mem_pres.mp hx
            obtain ⟨j, hj⟩ := List.getElem?_of_mem hd
            refine ⟨(π ++ [j], d), List.mem_append_right _ (List.mem_filterMap.mpr ⟨j, List.mem_range.mpr (List.getElem?_eq_some_iff.mp hj).1, by rw [hj]; rfl⟩), List.mem_map_of_mem hxd⟩
def spNodeOn (K : PySem.W.Frag) : Sp := fun vs H Q _ => ∃ (G : Hp) (v : V) (pa : Addr) (π : List Nat) (t q : Tr), vs = [v, .ref pa] ∧ Same G H ∧ Dp K G v (toD t) ∧ SqT K G pa (π.map nv) ∧ sub t π = some q ∧ ∀ u, Dp K G u (toD q) → Q u H
theorem ok_node_on (T : Top K mg w) {k : Nat} : FnOk P w K mg base CX0 (k + 1) T.a_node_on T.d_node_on ["root", "path"] (spNodeOn K) := by
  refine T.F_node_on.ok sc_node_on (fun vs H Q E h => ?_) (fun cdv A outer s H vs Q E hr h => ?_)
  · obtain ⟨G, v, pa, π, t, q, rfl, _⟩ := h
    rfl
  · obtain ⟨G, v, pa, π, t, qn, rfl, s0, hv, hpa, hs, q⟩ := h
    have hpaH := same_t s0 hpa
    refine ⟨_, (pss_cons (ps_set (i := 2) sc_node_on.nd rfl (.inl rfl) (xv 0))
      (pss_cons (ps_for PassesOwn.never rfl (pi_tupK K (xv 1)) (pg_name (i := 3) sc_node_on.nd rfl (.inl rfl))
      (pss_one (ps_set (i := 2) sc_node_on.nd rfl (.inl rfl) (pe_ix (ix_k K) (pe_ix (ix_k K) (xv 2) pe_int (fun _ _ => rfl)) (xv 3) (fun _ _ => rfl)))))
      (pss_one (ps_ret (xv 2))))), ?_⟩
    refine ⟨pa, rfl, ⟨_, hpaH⟩, for_tup (xs := π.map nv) (fun i σ H' => ∃ (u : V) (y3 : Option V) (c : Tr), σ = [some v, some (.ref pa), some u, y3] ∧ H' = H ∧ sub t (π.take i) = some c ∧ Dp K G u (toD c)) ⟨v, _, t, rfl, rfl, rfl, hv⟩ (fun i σ H' _ h => ?_) (fun i y σ H' hy h => ?_) (fun σ H' h => ?_)⟩
    · obtain ⟨_, _, _, _, rfl, _⟩ := h
      exact hpaH
    · obtain ⟨u, y3, c, rfl, rfl, hc, hu⟩ := h
      rw [List.getElem?_map] at hy
      obtain ⟨j, hj, rfl⟩ := Option.map_eq_some_iff.mp hy
      obtain ⟨a0, kv, kus, rfl, ha0, hkv, hkus⟩ := node_at hu
      have e1 := (take_pre hj).1
      rw [take_snoc hj]
      have hs2 := hs
      rw [e1] at hs2
      obtain ⟨d, hd⟩ : ∃ d, (kids c)[j]? = some d := by
        have : ∀ {π' : List Nat} {t c : Tr}, sub t π' = some c → ∀ {ρ : List Nat} {x : Tr}, sub t (π' ++ j :: ρ) = some x → ∃ d, (kids c)[j]? = some d := by
          intro π'
          induction π' with
          | nil =>
            intro t c h ρ x h2
            cases h
            obtain ⟨d, hd, _⟩ := sub_ne (show sub t (j :: ρ) = some x from h2)
            exact ⟨d, hd⟩
          | cons k π' ih =>
            intro t c h ρ x h2
            obtain ⟨d, hd, h⟩ := sub_ne h
            rw [List.cons_append, sub_cons hd] at h2
            exact ih h h2
        exact this hc hs2
      have jl := (List.getElem?_eq_some_iff.mp hd).1
      have kl := dpa_len hkus
      rw [List.length_map] at kl
      have hku : kus[j]? = some (kus[j]'(by omega)) := List.getElem?_eq_getElem (by omega)
      obtain ⟨d', hd', hdd⟩ := dpa_get hkus hku
      obtain ⟨c2, hc2, rfl⟩ := map_get hd'
      rw [hd] at hc2
      cases hc2
      exact ⟨_, _, .inr (same_t s0 ha0), atI_nat (j := 2) rfl, _, _, .inr (same_t s0 hkv), atI_nat hku, _, _, d, rfl, rfl, sub_snoc hc hd, hdd⟩
    · obtain ⟨u, y3, c, rfl, rfl, hc, hu⟩ := h
      rw [List.length_map, List.take_length, hs] at hc
      cases hc
      exact q u hu

end
end K11
set_option Elab.async false
set_option linter.all false
set_option maxRecDepth 100000
set_option maxHeartbeats 4000000
namespace K11
open PySem PySem.Spec PyProof.Rows L2 XL
theorem cutV_from (xs : List V) (k : Nat) (h : k ≤ xs.length) : cutV xs (some (k : Int)) none = xs.drop k := by
  unfold cutV
  rw [HT.sIx_nat, HT.sIx_none, Nat.min_eq_left h]
  exact List.take_of_length_le (by rw [List.length_drop]; exact Nat.le_refl _)

section
variable {P : Program} {w : World} {K : PySem.W.Frag} {mg : Str → Option Value} {base : Heap}
/-! ### a node put in at a path -/
theorem cutV_to (xs : List V) (k : Nat) (h : k ≤ xs.length) : cutV xs none (some (k : Int)) = xs.take k := by
  unfold cutV
  rw [HT.sIx_nat, HT.sIx_none, Nat.min_eq_left h, Nat.sub_zero, List.drop_zero]
theorem dpa_setK {K : PySem.W.Frag} {G : Hp} {xs : List V} {ts : List Tr} {v : V} {t : Tr} {k : Nat} (hk : k < ts.length) (h : DpAll K G xs (ts.map toD)) (hv : Dp K G v (toD t)) : DpAll K G (xs.take k ++ [v] ++ xs.drop (k + 1)) ((ts.set k t).map toD) := by
  rw [List.set_eq_take_append_cons_drop, if_pos hk, List.map_append, List.map_cons, List.map_take, List.map_drop, List.append_assoc]
  exact dpa_app (dpa_take k h) (.cons hv (dpa_drop (k + 1) h))
/-- the tree with the last part of the path put in -/
theorem set_step : ∀ {π : List Nat} {t q c u : Tr} {k : Nat}, sub t π = some q → (kids q)[k]? = some c → setAt t (π ++ [k]) u = setAt t π (.node (mrk q) (lbl q) ((kids q).set k u))
  | [], t, q, c, u, k, h, hk => by
    cases h
    rw [List.nil_append, setAt_cons hk]
    rfl
  | j :: π, t, q, c, u, k, h, hk => by
    obtain ⟨d, hd, h⟩ := sub_ne h
    rw [List.cons_append, setAt_cons hd, setAt_cons hd, set_step h hk]
theorem sub_pre2 : ∀ {π : List Nat} {t c : Tr}, sub t π = some c → ∀ i, ∃ d, sub t (π.take i) = some d
  | _, t, _, _, 0 => ⟨t, rfl⟩
  | [], t, c, h, i + 1 => ⟨c, by cases h; rfl⟩
  | k :: π, t, c, h, i + 1 => by
    obtain ⟨d, hd, h⟩ := sub_ne h
    obtain ⟨e, he⟩ := sub_pre2 h i
    exact ⟨e, by rw [List.take_succ_cons, sub_cons hd]; exact he⟩
theorem sub_next {π : List Nat} {t c d : Tr} {i k : Nat} (h : sub t π = some c) (hd : sub t (π.take i) = some d) (hk : π[i]? = some k) : ∃ e, (kids d)[k]? = some e ∧ sub t (π.take (i + 1)) = some e := by
  obtain ⟨e, he⟩ := sub_pre2 h (i + 1)
  rw [take_snoc hk] at he
  obtain ⟨q, h1, h2⟩ := sub_unsnoc he
  rw [hd] at h1
  cases h1
  exact ⟨e, h2, by rw [take_snoc hk]; exact he⟩
def spWith (K : PySem.W.Frag) : Sp := fun vs H Q _ => ∃ (G : Hp) (M : List (Addr × HO)) (v u : V) (pa : Addr) (π : List Nat) (t q s : Tr), vs = [v, .ref pa, u] ∧ Sep G M H ∧ Dp K G v (toD t) ∧ SqT K G pa (π.map nv) ∧ sub t π = some q ∧ Dp K G u (toD s) ∧ (pre t).length ≤ 1000 ∧
  ∀ (x : V) (G' H' : Hp), Same G G' → Dp K G' x (toD (setAt t π s)) → Sep G' M H' → Q x H'
theorem ok_with_node (T : Top K mg w) {k : Nat} : FnOk P w K mg base CX0 (k + 1) T.a_with_node T.d_with_node ["root", "path", "node"] (spWith K) := by
  refine T.F_with_node.ok sc_with_node (fun vs H Q E h => ?_) (fun cdv A outer s H vs Q E hr h => ?_)
  · obtain ⟨G, M, v, u, pa, π, t, q, s, rfl, _⟩ := h
    rfl
  · obtain ⟨G, M, v, u, pa, π, t, qn, sn, rfl, S, hv, hpa, hs, hu, pl, q⟩ := h
    refine ⟨_, (pss_cons (ps_set (i := 3) sc_with_node.nd rfl (.inl rfl) (pe_lst (pa_cons (xv 0) pa_nil)))
      (pss_cons (ps_for PassesOwn.never rfl (pi_tupK K (xv 1)) (pg_name (i := 4) sc_with_node.nd rfl (.inl rfl))
      (pss_one (ps_expr (pe_bmK K PySem.F.plainAttrs_list PySem.F.slot_list_append PySem.F.type_list_append mt_append (xv 3) (pa_cons (pe_ix (ix_k K) (pe_ix (ix_k K) (pe_ix (ix_k K) (xv 3) (pe_op op_subY (pe_callB (cr_lenK K) (by rfl) T.m_len (by decide +kernel) (pa_cons (xv 3) pa_nil)) pe_int) (fun _ _ => rfl)) pe_int (fun _ _ => rfl)) (xv 4) (fun _ _ => rfl)) pa_nil)))))
      (pss_cons (ps_set (i := 5) sc_with_node.nd rfl (.inl rfl) (xv 2))
      (pss_cons (ps_for PassesOwn.never rfl (pi_range3 (by rfl) T.m_range (pa_cons (pe_op op_subY (pe_callB (cr_lenK K) (by rfl) T.m_len (by decide +kernel) (pa_cons (xv 1) pa_nil)) pe_int) (pa_cons (pe_un un_neg pe_int) (pa_cons (pe_un un_neg pe_int) pa_nil)))) (pg_name (i := 6) sc_with_node.nd rfl (.inl rfl))
      (pss_cons (ps_set (i := 7) sc_with_node.nd rfl (.inl rfl) (pe_ix (ix_k K) (xv 3) (xv 6) (fun _ _ => rfl)))
      (pss_cons (ps_set (i := 4) sc_with_node.nd rfl (.inl rfl) (pe_ix (ix_k K) (xv 1) (xv 6) (fun _ _ => rfl)))
      (pss_one (ps_set (i := 5) sc_with_node.nd rfl (.inl rfl) (pe_tup (pa_cons (pe_ix (ix_k K) (xv 7) pe_int (fun _ _ => rfl)) (pa_cons (pe_ix (ix_k K) (xv 7) pe_int (fun _ _ => rfl)) (pa_cons (pe_op (op_catAK K) (pe_op (op_catAK K) (pe_slice (sl_tupAK K) (pe_ix (ix_k K) (xv 7) pe_int (fun _ _ => rfl)) po_none (po_some (xv 4))) (pe_tup (pa_cons (xv 5) pa_nil))) (pe_slice (sl_tupAK K) (pe_ix (ix_k K) (xv 7) pe_int (fun _ _ => rfl)) (po_some (pe_op op_addY (xv 4) pe_int)) po_none)) pa_nil)))))))))
      (pss_one (ps_ret (xv 5))))))), ?_⟩
    refine ⟨sz, fun L nL => ?_⟩
    have S1 := S.new (o := .lst [v]) nL
    have pln : π.length ≤ 1000 := by
      have := sub_lev hs
      have h2 : hgt t ≤ (pre t).length := hgt_pre t
      omega
    have mapl : (π.map nv).length = π.length := List.length_map _
    refine ⟨pa, rfl, ⟨_, S1.t hpa⟩, for_tup (xs := π.map nv) (fun i σ H' => ∃ (y4 : Option V) (ls : List V), σ = [some v, some (.ref pa), some u, some (.ref L), y4, none, none, none] ∧ ls.length = i + 1 ∧ (∀ j, j ≤ i → ∃ x d, ls[j]? = some x ∧ sub t (π.take j) = some d ∧ Dp K G x (toD d)) ∧ Sep G ((L, .lst ls) :: M) H') ⟨_, [v], rfl, rfl, fun j hj => ⟨v, t, by rw [show j = 0 by omega]; rfl, by rw [show j = 0 by omega]; rfl, hv⟩, S1⟩ (fun i σ H' _ h => ?_) (fun i y σ H' hy h => ?_) (fun σ H' h => ?_)⟩
    · obtain ⟨_, _, _, _, _, S'⟩ := h
      exact S'.t hpa
    · obtain ⟨y4, ls, rfl, ll, hls, S2⟩ := h
      rw [List.getElem?_map] at hy
      obtain ⟨j, hj, rfl⟩ := Option.map_eq_some_iff.mp hy
      obtain ⟨x, d, hx, hd, hxd⟩ := hls i (Nat.le_refl _)
      obtain ⟨e, he1, he2⟩ := sub_next hs hd hj
      obtain ⟨a0, kv, kus, rfl, ha0, hkv, hkus⟩ := node_at hxd
      have jl := (List.getElem?_eq_some_iff.mp he1).1
      have il := (List.getElem?_eq_some_iff.mp hj).1
      have kl := dpa_len hkus
      rw [List.length_map] at kl
      have hku : kus[j]? = some (kus[j]'(by omega)) := List.getElem?_eq_getElem (by omega)
      obtain ⟨d', hd', hdd⟩ := dpa_get hkus hku
      obtain ⟨c2, hc2, rfl⟩ := map_get hd'
      rw [he1] at hc2
      cases hc2
      have el : ((ls.length : Nat) : Int) - 1 = ((i : Nat) : Int) := by omega
      refine ⟨.inl ⟨rfl, _, SqL.of S2.hd⟩, _, .inl (SqL.of S2.hd), _, .ref a0, .inl (SqL.of S2.hd), by rw [el]; exact atI_nat hx, _, _, .inr (S2.t ha0), atI_nat (j := 2) rfl, _, _, .inr (S2.t hkv), atI_nat hku, L, ls, _, rfl, rfl, S2.hd, smallL (by omega), ?_⟩
      refine ⟨_, ls ++ [kus[j]'(by omega)], rfl, by rw [List.length_append, ll]; rfl, fun j' hj' => ?_, S2.set⟩
      by_cases ej : j' = i + 1
      · subst ej
        exact ⟨_, e, by rw [List.getElem?_append_right (by omega), ll, Nat.sub_self]; rfl, he2, hdd⟩
      · obtain ⟨x, d, h1, h2, h3⟩ := hls j' (by omega)
        exact ⟨x, d, by rw [List.getElem?_append_left (by omega)]; exact h1, h2, h3⟩
    · obtain ⟨y4, ls, rfl, ll, hls, S2⟩ := h
      rw [mapl] at ll hls
      refine ⟨_, .inr (S2.t hpa), ?_⟩
      rw [mapl]
      refine ⟨1, rfl, 1, rfl, _, _, _, π.length, rfl, ?_, for_rangeC (lo := (π.length : Int) - 1) (c := -1) (n := π.length) (fun i σ H' => ∃ (y4 y6 y7 : Option V) (x : V) (g : Tr) (G' : Hp), σ = [some v, some (.ref pa), some u, some (.ref L), y4, some x, y6, y7] ∧ Same G G' ∧ Dp K G' x (toD g) ∧ setAt t (π.take (π.length - i)) g = setAt t π sn ∧ Sep G' ((L, .lst ls) :: M) H') ⟨_, _, _, u, sn, G, rfl, Same.refl _, hu, by rw [Nat.sub_zero, List.take_length], S2⟩ (fun i σ H' hi h => ?_) (fun σ H' h => ?_)⟩
      · have := RgC.neg (i := (π.length : Int) - 1) (j := -1) (by omega) (by omega) (by omega) (by omega)
        have e : ((π.length : Int) - 1 - -1).toNat = π.length := by omega
        rw [e] at this
        exact this
      · obtain ⟨y4, y6, y7, x, g, G3, rfl, s3, hx, hg, S3⟩ := h
        have ek : (π.length : Int) - 1 + (i : Nat) * (-1) = ((π.length - 1 - i : Nat) : Int) := by omega
        rw [ek]
        generalize edd : π.length - 1 - i = dd at *
        have dl : dd < π.length := by omega
        have hπ : π[dd]? = some π[dd] := List.getElem?_eq_getElem dl
        obtain ⟨y, d, hy, hd, hyd⟩ := hls dd (by omega)
        obtain ⟨e, he1, he2⟩ := sub_next hs hd hπ
        obtain ⟨a0, kv, kus, rfl, ha0, hkv, hkus⟩ := node_at (dp_same s3 hyd)
        have jl := (List.getElem?_eq_some_iff.mp he1).1
        have kl := dpa_len hkus
        rw [List.length_map] at kl
        have e1 : π.length - i = dd + 1 := by omega
        have e2 : π.length - (i + 1) = dd := by omega
        rw [e1, take_snoc hπ, set_step hd he1] at hg
        have dmem : d ∈ pre t := sub_mem hd
        have kml := many_le (kids d)
        have ksl := sub_len dmem
        refine ⟨_, _, .inl (SqL.of S3.hd), atI_nat hy, _, _, .inr (S3.t (same_t s3 hpa)), atI_nat (nv_get hπ), _, _, .inr (S3.t ha0), atI_nat (j := 0) rfl, _, _, .inr (S3.t ha0), atI_nat (j := 1) rfl, _, _, .inr (S3.t ha0), atI_nat (j := 2) rfl, _, rfl, ?_⟩
        refine cutA_ok S3 hkv fun c4 G4 H4 s4 hc4 S4 => ⟨sz, fun p5 np5 => ?_⟩
        rw [cutV_to _ _ (by omega)] at hc4
        obtain ⟨G5, s5, S5, h5⟩ := Sep.mk (o := .tup [x]) S4 np5
        refine cat_ok S5 (same_t s5 hc4) (SqT.of h5) (small (by rw [List.length_take]; simp only [List.length_singleton]; omega)) fun c6 G6 H6 s6 hc6 S6 => ?_
        have s36 := s4.trans (s5.trans s6)
        refine ⟨_, _, .inr (S6.t (same_t s36 ha0)), atI_nat (j := 2) rfl, _, rfl, ?_⟩
        unfold tNoPart
        refine cutA_ok S6 (same_t s36 hkv) fun c7 G7 H7 s7 hc7 S7 => ?_
        have e3 : ((π[dd] : Nat) : Int) + 1 = ((π[dd] + 1 : Nat) : Int) := by omega
        rw [e3, cutV_from _ _ (by omega)] at hc7
        refine cat_ok S7 (same_t s7 hc6) hc7 (small (by rw [List.length_append, List.length_take, List.length_drop]; simp only [List.length_singleton]; omega)) fun c8 G8 H8 s8 hc8 S8 => ⟨sz, fun p9 np9 => ?_⟩
        obtain ⟨G9, s9, S9, h9⟩ := Sep.mk (o := .tup [.str (mrk d), .str (lbl d), .ref c8]) S8 np9
        have s39 := s36.trans (s7.trans (s8.trans s9))
        refine ⟨_, _, _, .ref p9, .node (mrk d) (lbl d) ((kids d).set π[dd] g), G9, rfl, s3.trans s39, ?_, by rw [e2]; exact hg, S9⟩
        simp only [toD, toDs_eq]
        exact .tup (SqT.of h9) (.cons (.str _) (.cons (.str _) (.cons (.tup (same_t s9 hc8) (dpa_setK jl (dpa_same s39 hkus) (dp_same s39 hx))) .nil)))
      · obtain ⟨y4, y6, y7, x, g, G3, rfl, s3, hx, hg, S3⟩ := h
        rw [Nat.sub_self, List.take_zero] at hg
        rw [show setAt t [] g = g from rfl] at hg
        rw [hg] at hx
        exact q x G3 _ s3 hx S3.drop
def spWithC (K : PySem.W.Frag) : Sp := fun vs H Q _ => ∃ (G : Hp) (M : List (Addr × HO)) (v : V) (pa ca : Addr) (us : List V) (π : List Nat) (t q : Tr) (ks : List Tr), vs = [v, .ref pa, .ref ca] ∧ Sep G M H ∧ Dp K G v (toD t) ∧ SqT K G pa (π.map nv) ∧ sub t π = some q ∧ SqT K G ca us ∧ DpAll K G us (ks.map toD) ∧ (pre t).length ≤ 1000 ∧
  ∀ (x : V) (G' H' : Hp), Same G G' → Dp K G' x (toD (setAt t π (.node (mrk q) (lbl q) ks))) → Sep G' M H' → Q x H'
theorem ok_with_children (T : Top K mg w) {k : Nat} (G_node_on : FnOk P w K mg base CX0 k T.a_node_on T.d_node_on ["root", "path"] (spNodeOn K)) (G_with_node : FnOk P w K mg base CX0 k T.a_with_node T.d_with_node ["root", "path", "node"] (spWith K)) : FnOk P w K mg base CX0 (k + 1) T.a_with_children T.d_with_children ["root", "path", "children"] (spWithC K) := by
  refine T.F_with_children.ok sc_with_children (fun vs H Q E h => ?_) (fun cdv A outer s H vs Q E hr h => ?_)
  · obtain ⟨G, M, v, pa, ca, us, π, t, q, ks, rfl, _⟩ := h
    rfl
  · obtain ⟨G, M, v, pa, ca, us, π, t, qn, ks, rfl, S, hv, hpa, hs, hca, hus, pl, q⟩ := h
    refine ⟨_, (pss_cons (ps_set (i := 3) sc_with_children.nd rfl (.inl rfl) (pe_call G_node_on (hr.mono (by omega)) (by rfl) T.g_node_on T.F_node_on.kp T.b_node_on .nil pass0 (pa_cons (xv 0) (pa_cons (xv 1) pa_nil))))
      (pss_one (ps_ret (pe_call G_with_node (hr.mono (by omega)) (by rfl) T.g_with_node T.F_with_node.kp T.b_with_node .nil pass0 (pa_cons (xv 0) (pa_cons (xv 1) (pa_cons (pe_tup (pa_cons (pe_ix (ix_k K) (xv 3) pe_int (fun _ _ => rfl)) (pa_cons (pe_ix (ix_k K) (xv 3) pe_int (fun _ _ => rfl)) (pa_cons (xv 2) pa_nil)))) pa_nil))))))), ?_⟩
    refine ⟨G, v, pa, π, t, qn, rfl, S.1, hv, hpa, hs, fun u hu => ?_⟩
    obtain ⟨a0, kv, kus, rfl, ha0, _, _⟩ := node_at hu
    refine ⟨_, _, .inr (S.t ha0), atI_nat (j := 0) rfl, _, _, .inr (S.t ha0), atI_nat (j := 1) rfl, sz, fun p np => ?_⟩
    obtain ⟨G1, s1, S1, h1⟩ := Sep.mk (o := .tup [.str (mrk qn), .str (lbl qn), .ref ca]) S np
    refine ⟨G1, M, v, .ref p, pa, π, t, qn, .node (mrk qn) (lbl qn) ks, rfl, S1, dp_same s1 hv, same_t s1 hpa, hs, ?_, pl, fun x G2 H2 s2 hx S2 => q x G2 H2 (s1.trans s2) hx S2⟩
    simp only [toD, toDs_eq]
    exact .tup (SqT.of h1) (.cons (.str _) (.cons (.str _) (.cons (.tup (same_t s1 hca) (dpa_same s1 hus)) .nil)))
/-! ### marks of a node that is put -/
def spOrd (K : PySem.W.Frag) : Sp := fun vs H Q _ => ∃ (G : Hp) (M : List (Addr × HO)) (v : V) (t : Tr), vs = [v] ∧ Sep G M H ∧ Dp K G v (toD t) ∧ (pre t).length ≤ 1000 ∧
  ∀ (l : Addr) (G' H' : Hp), Same G G' → G' l = some (.lst (((pre t).map mrk).map V.str)) → Sep G' M H' → Q (.ref l) H'
theorem ok_order_of (T : Top K mg w) {k : Nat} (G_nodes_of : FnOk P w K mg base CX0 k T.a_nodes_of T.d_nodes_of ["root"] (spNodes K)) : FnOk P w K mg base CX0 (k + 1) T.a_order_of T.d_order_of ["root"] (spOrd K) := by
  refine T.F_order_of.ok sc_order_of (fun vs H Q E h => ?_) (fun cdv A outer s H vs Q E hr h => ?_)
  · obtain ⟨G, M, v, t, rfl, _⟩ := h
    rfl
  · obtain ⟨G, M, v, t, rfl, S, hv, pl, q⟩ := h
    refine ⟨_, (pss_one (ps_ret (pe_lc (own := [("piece", 1)]) (by rfl) sc_order_of.nd (pi_listK K (pe_call G_nodes_of (hr.mono (by omega)) (by rfl) T.g_nodes_of T.F_nodes_of.kp T.b_nodes_of .nil pass0 (pa_cons (xv 0) pa_nil))) (blkOk_by (N := ["root", "piece"]) (sc := defScope s_order_of) (by decide +kernel)) (fun _ _ _ _ _ => (pg_name (i := 1) sc_order_of.nd rfl (.inl rfl))) (fun _ _ _ _ _ => pts_nil) (fun _ _ _ _ _ => (pe_ix (ix_k K) (xv 1) pe_int (fun _ _ => rfl)))))), ?_⟩
    refine ⟨G, M, v, t, rfl, S, hv, by omega, fun l us G1 H1 s1 hl hus S1 => ⟨l, rfl, ⟨_, SqL.of (S1.st hl)⟩, fun D nD => lc_at (xs := us) (fun i H' => Sep G1 ((D, .lst ((((pre t).map mrk).take i).map V.str)) :: M) H') (S1.new nD) (fun i H' p => SqL.of (p.st hl)) (fun _ => rfl) (fun i x H' hx p => ?_) (fun H' p => ?_)⟩⟩
    · obtain ⟨d, hd, hxd⟩ := dpa_get hus hx
      obtain ⟨c, hc, rfl⟩ := map_get hd
      obtain ⟨a0, kv, kus, rfl, ha0, hkv, hkus⟩ := node_at hxd
      have hm : ((pre t).map mrk)[i]? = some (mrk c) := by rw [List.getElem?_map, hc]; rfl
      have il := (List.getElem?_eq_some_iff.mp hm).1
      rw [List.length_map] at il
      refine ⟨_, _, .inr (p.t ha0), atI_nat (j := 0) rfl, _, p.hd, by rw [List.length_map, List.length_take, List.length_map]; exact smallL (by omega), ?_⟩
      rw [take_snoc hm, List.map_append]
      exact p.set
    · have ul := dpa_len hus
      rw [List.length_map] at ul
      rw [ul, List.take_of_length_le (by rw [List.length_map]; exact Nat.le_refl _)] at p
      exact q D _ _ (s1.trans p.frzS) upd_same p.frz
def spCkM (K : PySem.W.Frag) : Sp := fun vs H Q _ => ∃ (G : Hp) (M : List (Addr × HO)) (v u : V) (t s : Tr), vs = [v, u] ∧ Sep G M H ∧ Dp K G v (toD t) ∧ Dp K G u (toD s) ∧ ((pre t).map mrk ++ (pre s).map mrk).Nodup ∧ (pre t).length + (pre s).length ≤ 400 ∧
  ∀ (G' H' : Hp), Same G G' → Sep G' M H' → Q .non H'
theorem ok_check_marks (T : Top K mg w) {k : Nat} (G_order_of : FnOk P w K mg base CX0 k T.a_order_of T.d_order_of ["root"] (spOrd K)) : FnOk P w K mg base CX0 (k + 1) T.a_check_marks T.d_check_marks ["root", "node"] (spCkM K) := by
  refine T.F_check_marks.ok sc_check_marks (fun vs H Q E h => ?_) (fun cdv A outer s H vs Q E hr h => ?_)
  · obtain ⟨G, M, v, u, t, s, rfl, _⟩ := h
    rfl
  · obtain ⟨G, M, v, u, t, sn, rfl, S, hv, hu, nd, pl, q⟩ := h
    refine ⟨_, (pss_cons (ps_set (i := 2) sc_check_marks.nd rfl (.inl rfl) pe_dnewK)
      (pss_cons (ps_for PassesOwn.never rfl (pi_listK K (pe_call G_order_of (hr.mono (by omega)) (by rfl) T.g_order_of T.F_order_of.kp T.b_order_of .nil pass0 (pa_cons (xv 0) pa_nil))) (pg_name (i := 3) sc_check_marks.nd rfl (.inl rfl))
      (pss_one (ps_dput (hu_of hr) (xv 2) (xv 3) pe_bl rfl)))
      (pss_cons (ps_for PassesOwn.never rfl (pi_listK K (pe_call G_order_of (hr.mono (by omega)) (by rfl) T.g_order_of T.F_order_of.kp T.b_order_of .nil pass0 (pa_cons (xv 1) pa_nil))) (pg_name (i := 3) sc_check_marks.nd rfl (.inl rfl))
      (pss_cons (xs_if (pt_cmp (pc_din (hu_of hr) (xv 3) (xv 2)))
      (pss_one ps_never)
      pss_nil)
      (pss_one (ps_dput (hu_of hr) (xv 2) (xv 3) pe_bl rfl))))
      (pss_one (xs_if (xt_cmp op_gtY (pe_callB call_lenD (by rfl) T.m_len (by decide +kernel) (pa_cons (xv 2) pa_nil)) (xe_globI (by rfl) T.v_MOST_NODES) (nomark _))
      (pss_one ps_never)
      pss_nil))))), ?_⟩
    refine fun D nD => ?_
    have S1 := S.new (o := .dK []) nD
    refine ⟨G, _, v, t, rfl, S1, hv, by omega, fun l G1 H1 s1 hl S2 => ?_⟩
    have dk : ∀ {zs : List Str} {m : Str} {kvs : List (Key × V)}, kvs.map (·.1) = zs.map (fun m => (Sum.inr m : Key)) → m ∉ zs → valV kvs (Sum.inr m) = none := fun hk hm => valV_none (by
      rw [hk]
      intro hm2
      obtain ⟨m', hm1, hm3⟩ := List.mem_map.mp hm2
      cases hm3
      exact hm hm1)
    have dl : ∀ {zs : List Str} {kvs : List (Key × V)}, kvs.map (·.1) = zs.map (fun m => (Sum.inr m : Key)) → kvs.length = zs.length := fun hk => by
      have := congrArg List.length hk
      rw [List.length_map, List.length_map] at this
      exact this
    have nd1 := (List.nodup_append.mp nd)
    refine ⟨l, rfl, ⟨_, SqL.of (S2.st hl)⟩, for_list (xs := ((pre t).map mrk).map V.str) (fun i σ H' => ∃ (y3 : Option V) (kvs : List (Key × V)), σ = [some v, some u, some (.ref D), y3] ∧ kvs.map (·.1) = (((pre t).map mrk).take i).map (fun m => (Sum.inr m : Key)) ∧ Sep G1 ((D, .dK kvs) :: M) H') ⟨_, [], rfl, rfl, S2⟩ (fun i σ H' _ h => ?_) (fun i x σ H' hx h => ?_) (fun σ H' h => ?_)⟩
    · obtain ⟨_, _, _, _, S'⟩ := h
      exact SqL.of (S'.st hl)
    · obtain ⟨y3, kvs, rfl, hk, S3⟩ := h
      rw [List.getElem?_map] at hx
      obtain ⟨m, hm, rfl⟩ := Option.map_eq_some_iff.mp hx
      have il := (List.getElem?_eq_some_iff.mp hm).1
      rw [List.length_map] at il
      have kl := dl hk
      rw [List.length_take] at kl
      have hno : m ∉ ((pre t).map mrk).take i := by
        intro hin
        have e := (take_pre hm).1
        have n2 := nd1.1
        rw [e, List.nodup_append] at n2
        exact n2.2.2 m hin m List.mem_cons_self rfl
      refine ⟨D, _, rfl, DPut.k (k := Sum.inr m) S3.hd (smallL (by omega)), ?_⟩
      rw [putK_new (dk hk hno)]
      refine ⟨_, _, rfl, ?_, S3.set⟩
      rw [take_snoc hm, List.map_append, List.map_append, hk]
      rfl
    · obtain ⟨y3, kvs, rfl, hk, S3⟩ := h
      rw [List.length_map, List.take_length] at hk
      refine ⟨G1, _, u, sn, rfl, S3, dp_same s1 hu, by omega, fun l2 G4 H4 s4 hl2 S4 => ?_⟩
      refine ⟨l2, rfl, ⟨_, SqL.of (S4.st hl2)⟩, for_list (xs := ((pre sn).map mrk).map V.str) (fun i σ H' => ∃ (y3 : Option V) (kvs : List (Key × V)), σ = [some v, some u, some (.ref D), y3] ∧ kvs.map (·.1) = ((pre t).map mrk ++ ((pre sn).map mrk).take i).map (fun m => (Sum.inr m : Key)) ∧ Sep G4 ((D, .dK kvs) :: M) H') ⟨_, kvs, rfl, by rw [List.take_zero, List.append_nil]; exact hk, S4⟩ (fun i σ H' _ h => ?_) (fun i x σ H' hx h => ?_) (fun σ H' h => ?_)⟩
      · obtain ⟨_, _, _, _, S'⟩ := h
        exact SqL.of (S'.st hl2)
      · obtain ⟨y3, kvs, rfl, hk, S3⟩ := h
        rw [List.getElem?_map] at hx
        obtain ⟨m, hm, rfl⟩ := Option.map_eq_some_iff.mp hx
        have il := (List.getElem?_eq_some_iff.mp hm).1
        rw [List.length_map] at il
        have kl := dl hk
        rw [List.length_append, List.length_map, List.length_take] at kl
        have hno : m ∉ (pre t).map mrk ++ ((pre sn).map mrk).take i := by
          intro hin
          have e := (take_pre hm).1
          rcases List.mem_append.mp hin with h | h
          · exact nd1.2.2 m h m (List.mem_of_getElem? hm) rfl
          · have n2 := nd1.2.1
            rw [e, List.nodup_append] at n2
            exact n2.2.2 m h m List.mem_cons_self rfl
        refine ⟨D, _, rfl, DGet.k (k := Sum.inr m) S3.hd, _, rfl, ?_⟩
        rw [dk hk hno]
        refine ⟨ff, fun _ => ⟨D, _, rfl, DPut.k (k := Sum.inr m) S3.hd (smallL (by omega)), ?_⟩⟩
        rw [putK_new (dk hk hno)]
        refine ⟨_, _, rfl, ?_, S3.set⟩
        rw [take_snoc hm, ← List.append_assoc, List.map_append, List.map_append, hk]
        rfl
      · obtain ⟨y3, kvs, rfl, hk, S3⟩ := h
        rw [List.length_map, List.take_length] at hk
        have kl := dl hk
        rw [List.length_append, List.length_map, List.length_map] at kl
        refine ⟨D, kvs, rfl, S3.hd, fun e => ?_, fun _ => q G4 _ (s1.trans s4) S3.drop⟩
        have := of_decide_eq_true e
        omega

end
end K11
set_option Elab.async false
set_option linter.all false
set_option maxRecDepth 100000
set_option maxHeartbeats 4000000
namespace K11
open PySem PySem.Spec PyProof.Rows L2 XL
section
variable {P : Program} {w : World} {K : PySem.W.Frag} {mg : Str → Option Value} {base : Heap}
/-! ### one patch -/
theorem cutV_last (xs : List V) (y : V) : cutV (xs ++ [y]) none (some (-1)) = xs := by
  unfold cutV
  have e : HT.sIx (xs ++ [y]).length (xs ++ [y]).length (some (-1)) = xs.length := by
    unfold HT.sIx
    simp only [List.length_append, List.length_singleton]
    split <;> omega
  rw [e, HT.sIx_none, Nat.sub_zero, List.drop_zero, List.take_left']
  rfl
def Res (K : PySem.W.Frag) (G : Hp) (r : Addr) (t : Tr) (p : Pt) : Prop := ∃ x y, G r = some (.tup [x, y]) ∧ Dp K G x (toD t) ∧ Dp K G y (ptD p)
def spPut (K : PySem.W.Frag) : Sp := fun vs H Q _ => ∃ (G : Hp) (M : List (Addr × HO)) (v u : V) (pa : Addr) (π : List Nat) (t q s : Tr) (m : Str) (i : Nat), vs = [v, .ref pa, u] ∧ Sep G M H ∧ Dp K G v (toD t) ∧ SqT K G pa (π.map nv) ∧ sub t π = some q ∧ Dp K G u (ptD (.put m i s)) ∧ i ≤ (kids q).length ∧
  ((pre t).map mrk ++ (pre s).map mrk).Nodup ∧ (pre t).length + (pre s).length ≤ 400 ∧ ∀ (r : Addr) (G' H' : Hp), Same G G' → Res K G' r (setAt t π (.node (mrk q) (lbl q) (insT (kids q) i s))) (.drop (mrk s)) → Sep G' M H' → Q (.ref r) H'
theorem ok_with_put (T : Top K mg w) {k : Nat} (G_node_on : FnOk P w K mg base CX0 k T.a_node_on T.d_node_on ["root", "path"] (spNodeOn K)) (G_with_children : FnOk P w K mg base CX0 k T.a_with_children T.d_with_children ["root", "path", "children"] (spWithC K))
    (G_check_at : FnOk P w K mg base CX0 k T.a_check_at T.d_check_at ["at", "count"] spAt) (G_check_marks : FnOk P w K mg base CX0 k T.a_check_marks T.d_check_marks ["root", "node"] (spCkM K)) : FnOk P w K mg base CX0 (k + 1) T.a_with_put T.d_with_put ["root", "path", "patch"] (spPut K) := by
  refine T.F_with_put.ok sc_with_put (fun vs H Q E h => ?_) (fun cdv A outer s H vs Q E hr h => ?_)
  · obtain ⟨G, M, v, u, pa, π, t, q, s, m, i, rfl, _⟩ := h
    rfl
  · obtain ⟨G, M, v, u, pa, π, t, qn, sn, m, i, rfl, S, hv, hpa, hs, hu, hi, nd, pl, q⟩ := h
    refine ⟨_, (pss_cons (ps_set (i := 3) sc_with_put.nd rfl (.inl rfl) (pe_ix (ix_k K) (pe_call G_node_on (hr.mono (by omega)) (by rfl) T.g_node_on T.F_node_on.kp T.b_node_on .nil pass0 (pa_cons (xv 0) (pa_cons (xv 1) pa_nil))) pe_int (fun _ _ => rfl)))
      (pss_cons (ps_set (i := 4) sc_with_put.nd rfl (.inl rfl) (pe_ix (ix_k K) (xv 2) pe_int (fun _ _ => rfl)))
      (pss_cons (ps_expr (pe_call G_check_at (hr.mono (by omega)) (by rfl) T.g_check_at T.F_check_at.kp T.b_check_at .nil pass0 (pa_cons (xv 4) (pa_cons (pe_callB (cr_lenK K) (by rfl) T.m_len (by decide +kernel) (pa_cons (xv 3) pa_nil)) pa_nil))))
      (pss_cons (ps_expr (pe_call G_check_marks (hr.mono (by omega)) (by rfl) T.g_check_marks T.F_check_marks.kp T.b_check_marks .nil pass0 (pa_cons (xv 0) (pa_cons (pe_ix (ix_k K) (xv 2) pe_int (fun _ _ => rfl)) pa_nil))))
      (pss_one (ps_ret (pe_tup (pa_cons (pe_call G_with_children (hr.mono (by omega)) (by rfl) T.g_with_children T.F_with_children.kp T.b_with_children .nil pass0 (pa_cons (xv 0) (pa_cons (xv 1) (pa_cons (pe_op (op_catAK K) (pe_op (op_catAK K) (pe_slice (sl_tupAK K) (xv 3) po_none (po_some (xv 4))) (pe_tup (pa_cons (pe_ix (ix_k K) (xv 2) pe_int (fun _ _ => rfl)) pa_nil))) (pe_slice (sl_tupAK K) (xv 3) (po_some (xv 4)) po_none)) pa_nil)))) (pa_cons (pe_tup (pa_cons pe_str (pa_cons (pe_ix (ix_k K) (pe_ix (ix_k K) (xv 2) pe_int (fun _ _ => rfl)) pe_int (fun _ _ => rfl)) pa_nil))) pa_nil))))))))), ?_⟩
    refine ⟨G, v, pa, π, t, qn, rfl, S.1, hv, hpa, hs, fun w1 hw1 => ?_⟩
    obtain ⟨a0, kv, kus, rfl, ha0, hkv, hkus⟩ := node_at hw1
    obtain ⟨b, ws, rfl, hb, hws⟩ := pt_at hu
    obtain ⟨x1, r1, rfl, h3, h4⟩ := dpa_cons hws
    obtain ⟨x2, r2, rfl, h5, h6⟩ := dpa_cons h4
    obtain rfl := dp_int h3
    have hsn := h5
    obtain ⟨sa, skv, skus, rfl, hsa, _, _⟩ := id (node_at h5)
    have kl := dpa_len hkus
    rw [List.length_map] at kl
    have qm : qn ∈ pre t := sub_mem hs
    have kml := many_le (kids qn)
    have ksl := sub_len qm
    refine ⟨_, _, .inr (S.t ha0), atI_nat (j := 2) rfl, _, _, .inr (S.t hb), atI_nat (j := 2) rfl, _, .inr (S.t hkv), i, kus.length, rfl, by omega, ?_⟩
    refine ⟨_, _, .inr (S.t hb), atI_nat (j := 3) rfl, G, M, v, _, t, sn, rfl, S, hv, hsn, nd, pl, fun G1 H1 s1 S1 => ?_⟩
    refine ⟨_, rfl, cutA_ok S1 (same_t s1 hkv) fun c2 G2 H2 s2 hc2 S2 => ?_⟩
    rw [cutV_to _ _ (by omega)] at hc2
    have s02 := s1.trans s2
    refine ⟨_, _, .inr (S2.t (same_t s02 hb)), atI_nat (j := 3) rfl, sz, fun p3 np3 => ?_⟩
    obtain ⟨G3, s3, S3, h3⟩ := Sep.mk (o := .tup [.ref sa]) S2 np3
    refine cat_ok S3 (same_t s3 hc2) (SqT.of h3) (small (by rw [List.length_take]; simp only [List.length_singleton]; omega)) fun c4 G4 H4 s4 hc4 S4 => ⟨_, rfl, ?_⟩
    have s04 := s02.trans (s3.trans s4)
    unfold tNoPart
    refine cutA_ok S4 (same_t s04 hkv) fun c5 G5 H5 s5 hc5 S5 => ?_
    rw [cutV_from _ _ (by omega)] at hc5
    refine cat_ok S5 (same_t s5 hc4) hc5 (small (by rw [List.length_append, List.length_take, List.length_drop]; simp only [List.length_singleton]; omega)) fun c6 G6 H6 s6 hc6 S6 => ?_
    have s06 := s04.trans (s5.trans s6)
    have hus : DpAll K G6 (kus.take i ++ [.ref sa] ++ kus.drop i) ((insT (kids qn) i sn).map toD) := dpa_ins (dpa_same s06 hkus) (dp_same s06 hsn) i
    refine ⟨G6, M, v, pa, c6, _, π, t, qn, insT (kids qn) i sn, rfl, S6, dp_same s06 hv, same_t s06 hpa, hs, hc6, hus, by omega, fun x G7 H7 s7 hx S7 => ?_⟩
    have s07 := s06.trans s7
    refine ⟨_, _, .inr (S7.t (same_t s07 hb)), atI_nat (j := 3) rfl, _, _, .inr (S7.t (same_t s07 hsa)), atI_nat (j := 0) rfl, sz, fun p8 np8 => ⟨sz, fun p9 np9 => ?_⟩⟩
    obtain ⟨G8, s8, S8, h8⟩ := Sep.mk (o := .tup [.str "drop", .str (mrk sn)]) S7 np8
    obtain ⟨G9, s9, S9, h9⟩ := Sep.mk (o := .tup [x, .ref p8]) S8 np9
    exact q p9 G9 _ (s07.trans (s8.trans s9)) ⟨x, .ref p8, h9, dp_same (s8.trans s9) hx, .tup (SqT.of (s9 _ _ h8)) (.cons (.str _) (.cons (.str _) .nil))⟩ S9
def spSay (K : PySem.W.Frag) : Sp := fun vs H Q _ => ∃ (G : Hp) (M : List (Addr × HO)) (v u : V) (pa : Addr) (π : List Nat) (t q : Tr) (m l : Str), vs = [v, .ref pa, u] ∧ Sep G M H ∧ Dp K G v (toD t) ∧ SqT K G pa (π.map nv) ∧ sub t π = some q ∧ Dp K G u (ptD (.say m l)) ∧ (pre t).length ≤ 1000 ∧
  ∀ (r : Addr) (G' H' : Hp), Same G G' → Res K G' r (setAt t π (.node (mrk q) l (kids q))) (.say m (lbl q)) → Sep G' M H' → Q (.ref r) H'
theorem ok_with_say (T : Top K mg w) {k : Nat} (G_node_on : FnOk P w K mg base CX0 k T.a_node_on T.d_node_on ["root", "path"] (spNodeOn K)) (G_with_node : FnOk P w K mg base CX0 k T.a_with_node T.d_with_node ["root", "path", "node"] (spWith K)) : FnOk P w K mg base CX0 (k + 1) T.a_with_say T.d_with_say ["root", "path", "patch"] (spSay K) := by
  refine T.F_with_say.ok sc_with_say (fun vs H Q E h => ?_) (fun cdv A outer s H vs Q E hr h => ?_)
  · obtain ⟨G, M, v, u, pa, π, t, q, m, l, rfl, _⟩ := h
    rfl
  · obtain ⟨G, M, v, u, pa, π, t, qn, m, l, rfl, S, hv, hpa, hs, hu, pl, q⟩ := h
    refine ⟨_, (pss_cons (ps_set (i := 3) sc_with_say.nd rfl (.inl rfl) (pe_call G_node_on (hr.mono (by omega)) (by rfl) T.g_node_on T.F_node_on.kp T.b_node_on .nil pass0 (pa_cons (xv 0) (pa_cons (xv 1) pa_nil))))
      (pss_one (ps_ret (pe_tup (pa_cons (pe_call G_with_node (hr.mono (by omega)) (by rfl) T.g_with_node T.F_with_node.kp T.b_with_node .nil pass0 (pa_cons (xv 0) (pa_cons (xv 1) (pa_cons (pe_tup (pa_cons (pe_ix (ix_k K) (xv 3) pe_int (fun _ _ => rfl)) (pa_cons (pe_ix (ix_k K) (xv 2) pe_int (fun _ _ => rfl)) (pa_cons (pe_ix (ix_k K) (xv 3) pe_int (fun _ _ => rfl)) pa_nil)))) pa_nil)))) (pa_cons (pe_tup (pa_cons pe_str (pa_cons (pe_ix (ix_k K) (xv 2) pe_int (fun _ _ => rfl)) (pa_cons (pe_ix (ix_k K) (xv 3) pe_int (fun _ _ => rfl)) pa_nil)))) pa_nil)))))), ?_⟩
    refine ⟨G, v, pa, π, t, qn, rfl, S.1, hv, hpa, hs, fun w1 hw1 => ?_⟩
    obtain ⟨a0, kv, kus, rfl, ha0, hkv, hkus⟩ := node_at hw1
    obtain ⟨b, ws, rfl, hb, hws⟩ := pt_at hu
    obtain ⟨x1, r1, rfl, h3, h4⟩ := dpa_cons hws
    obtain rfl := dp_str h3
    refine ⟨_, _, .inr (S.t ha0), atI_nat (j := 0) rfl, _, _, .inr (S.t hb), atI_nat (j := 2) rfl, _, _, .inr (S.t ha0), atI_nat (j := 2) rfl, sz, fun p1 np1 => ?_⟩
    obtain ⟨G1, s1, S1, h1⟩ := Sep.mk (o := .tup [.str (mrk qn), .str l, .ref kv]) S np1
    have hn : Dp K G1 (.ref p1) (toD (.node (mrk qn) l (kids qn))) := by
      simp only [toD, toDs_eq]
      exact .tup (SqT.of h1) (.cons (.str _) (.cons (.str _) (.cons (.tup (same_t s1 hkv) (dpa_same s1 hkus)) .nil)))
    refine ⟨G1, M, v, .ref p1, pa, π, t, qn, .node (mrk qn) l (kids qn), rfl, S1, dp_same s1 hv, same_t s1 hpa, hs, hn, pl, fun x G7 H7 s7 hx S7 => ?_⟩
    have s07 := s1.trans s7
    refine ⟨_, _, .inr (S7.t (same_t s07 hb)), atI_nat (j := 1) rfl, _, _, .inr (S7.t (same_t s07 ha0)), atI_nat (j := 1) rfl, sz, fun p8 np8 => ⟨sz, fun p9 np9 => ?_⟩⟩
    obtain ⟨G8, s8, S8, h8⟩ := Sep.mk (o := .tup [.str "say", .str m, .str (lbl qn)]) S7 np8
    obtain ⟨G9, s9, S9, h9⟩ := Sep.mk (o := .tup [x, .ref p8]) S8 np9
    exact q p9 G9 _ (s07.trans (s8.trans s9)) ⟨x, .ref p8, h9, dp_same (s8.trans s9) hx, .tup (SqT.of (s9 _ _ h8)) (.cons (.str _) (.cons (.str _) (.cons (.str _) .nil)))⟩ S9
theorem take_drop_erase {α : Type} (xs : List α) (k : Nat) : xs.take k ++ xs.drop (k + 1) = xs.eraseIdx k := (List.eraseIdx_eq_take_drop_succ ..).symm
def spDrp (K : PySem.W.Frag) : Sp := fun vs H Q _ => ∃ (G : Hp) (M : List (Addr × HO)) (v : V) (pa : Addr) (ρ : List Nat) (k : Nat) (t q c : Tr), vs = [v, .ref pa] ∧ Sep G M H ∧ Dp K G v (toD t) ∧ SqT K G pa ((ρ ++ [k]).map nv) ∧ sub t ρ = some q ∧ (kids q)[k]? = some c ∧ (pre t).length ≤ 1000 ∧
  ∀ (r : Addr) (G' H' : Hp), Same G G' → Res K G' r (setAt t ρ (.node (mrk q) (lbl q) ((kids q).eraseIdx k))) (.put (mrk q) k c) → Sep G' M H' → Q (.ref r) H'
theorem ok_with_drop (T : Top K mg w) {k : Nat} (G_node_on : FnOk P w K mg base CX0 k T.a_node_on T.d_node_on ["root", "path"] (spNodeOn K)) (G_with_children : FnOk P w K mg base CX0 k T.a_with_children T.d_with_children ["root", "path", "children"] (spWithC K)) : FnOk P w K mg base CX0 (k + 1) T.a_with_drop T.d_with_drop ["root", "path"] (spDrp K) := by
  refine T.F_with_drop.ok sc_with_drop (fun vs H Q E h => ?_) (fun cdv A outer s H vs Q E hr h => ?_)
  · obtain ⟨G, M, v, pa, ρ, k, t, q, c, rfl, _⟩ := h
    rfl
  · obtain ⟨G, M, v, pa, ρ, kk, t, qn, cn, rfl, S, hv, hpa, hs, hk, pl, q⟩ := h
    refine ⟨_, (pss_cons (ps_set (i := 2) sc_with_drop.nd rfl (.inl rfl) (pe_call G_node_on (hr.mono (by omega)) (by rfl) T.g_node_on T.F_node_on.kp T.b_node_on .nil pass0 (pa_cons (xv 0) (pa_cons (pe_slice (sl_tupAK K) (xv 1) po_none (po_some (pe_un un_neg pe_int))) pa_nil))))
      (pss_cons (ps_set (i := 3) sc_with_drop.nd rfl (.inl rfl) (pe_ix (ix_k K) (xv 1) (pe_op op_subY (pe_callB (cr_lenK K) (by rfl) T.m_len (by decide +kernel) (pa_cons (xv 1) pa_nil)) pe_int) (fun _ _ => rfl)))
      (pss_cons (ps_set (i := 4) sc_with_drop.nd rfl (.inl rfl) (pe_tup (pa_cons pe_str (pa_cons (pe_ix (ix_k K) (xv 2) pe_int (fun _ _ => rfl)) (pa_cons (xv 3) (pa_cons (pe_ix (ix_k K) (pe_ix (ix_k K) (xv 2) pe_int (fun _ _ => rfl)) (xv 3) (fun _ _ => rfl)) pa_nil))))))
      (pss_one (ps_ret (pe_tup (pa_cons (pe_call G_with_children (hr.mono (by omega)) (by rfl) T.g_with_children T.F_with_children.kp T.b_with_children .nil pass0 (pa_cons (xv 0) (pa_cons (pe_slice (sl_tupAK K) (xv 1) po_none (po_some (pe_un un_neg pe_int))) (pa_cons (pe_op (op_catAK K) (pe_slice (sl_tupAK K) (pe_ix (ix_k K) (xv 2) pe_int (fun _ _ => rfl)) po_none (po_some (xv 3))) (pe_slice (sl_tupAK K) (pe_ix (ix_k K) (xv 2) pe_int (fun _ _ => rfl)) (po_some (pe_op op_addY (xv 3) pe_int)) po_none)) pa_nil)))) (pa_cons (xv 4) pa_nil)))))))), ?_⟩
    have em : (ρ ++ [kk]).map nv = ρ.map nv ++ [nv kk] := by rw [List.map_append]; rfl
    rw [em] at hpa
    have il := (List.getElem?_eq_some_iff.mp hk).1
    have qm : qn ∈ pre t := sub_mem hs
    have kml := many_le (kids qn)
    have ksl := sub_len qm
    refine ⟨1, rfl, _, rfl, cutA_ok S hpa fun c1 G1 H1 s1 hc1 S1 => ?_⟩
    rw [cutV_last] at hc1
    refine ⟨G1, v, c1, ρ, t, qn, rfl, S1.1, dp_same s1 hv, hc1, hs, fun w1 hw1 => ?_⟩
    obtain ⟨a0, kv, kus, rfl, ha0, hkv, hkus⟩ := node_at hw1
    have kl := dpa_len hkus
    rw [List.length_map] at kl
    have hku : kus[kk]? = some (kus[kk]'(by omega)) := List.getElem?_eq_getElem (by omega)
    obtain ⟨d', hd', hdd⟩ := dpa_get hkus hku
    obtain ⟨c2, hc2, rfl⟩ := map_get hd'
    rw [hk] at hc2
    cases hc2
    have el : (((ρ.map nv ++ [nv kk]).length : Nat) : Int) - 1 = ((ρ.length : Nat) : Int) := by rw [List.length_append, List.length_map, List.length_singleton]; omega
    have hat : (ρ.map nv ++ [nv kk])[ρ.length]? = some (.int (kk : Nat)) := by
      rw [List.getElem?_append_right (by rw [List.length_map]; exact Nat.le_refl _), List.length_map, Nat.sub_self]
      rfl
    refine ⟨_, .inr (S1.t (same_t s1 hpa)), _, _, .inr (S1.t (same_t s1 hpa)), by rw [el]; exact atI_nat hat, ?_⟩
    refine ⟨_, _, .inr (S1.t ha0), atI_nat (j := 0) rfl, _, _, .inr (S1.t ha0), atI_nat (j := 2) rfl, _, _, .inr (S1.t hkv), atI_nat hku, sz, fun p2 np2 => ?_⟩
    obtain ⟨G2, s2, S2, h2⟩ := Sep.mk (o := .tup [.str "put", .str (mrk qn), .int (kk : Nat), kus[kk]'(by omega)]) S1 np2
    have s02 := s1.trans s2
    refine ⟨1, rfl, _, rfl, cutA_ok S2 (same_t s02 hpa) fun c3 G3 H3 s3 hc3 S3 => ?_⟩
    rw [cutV_last] at hc3
    have s13 := s2.trans s3
    refine ⟨_, _, .inr (S3.t (same_t s13 ha0)), atI_nat (j := 2) rfl, _, rfl, cutA_ok S3 (same_t s13 hkv) fun c4 G4 H4 s4 hc4 S4 => ?_⟩
    rw [cutV_to _ _ (by omega)] at hc4
    have s14 := s13.trans s4
    refine ⟨_, _, .inr (S4.t (same_t s14 ha0)), atI_nat (j := 2) rfl, _, rfl, ?_⟩
    unfold tNoPart
    refine cutA_ok S4 (same_t s14 hkv) fun c5 G5 H5 s5 hc5 S5 => ?_
    have e3 : ((kk : Nat) : Int) + 1 = ((kk + 1 : Nat) : Int) := by omega
    rw [e3, cutV_from _ _ (by omega)] at hc5
    refine cat_ok S5 (same_t s5 hc4) hc5 (small (by rw [List.length_take, List.length_drop]; omega)) fun c6 G6 H6 s6 hc6 S6 => ?_
    rw [take_drop_erase] at hc6
    have s16 := s14.trans (s5.trans s6)
    have hus : DpAll K G6 (kus.eraseIdx kk) (((kids qn).eraseIdx kk).map toD) := by
      rw [← map_erase]
      exact dpa_erase kk (dpa_same s16 hkus)
    refine ⟨G6, M, v, c3, c6, _, ρ, t, qn, (kids qn).eraseIdx kk, rfl, S6, dp_same (s1.trans s16) hv, same_t (s4.trans (s5.trans s6)) hc3, hs, hc6, hus, pl, fun x G7 H7 s7 hx S7 => ⟨sz, fun p9 np9 => ?_⟩⟩
    obtain ⟨G9, s9, S9, h9⟩ := Sep.mk (o := .tup [x, .ref p2]) S7 np9
    have s29 := s3.trans (s4.trans (s5.trans (s6.trans (s7.trans s9))))
    exact q p9 G9 _ (s02.trans s29) ⟨x, .ref p2, h9, dp_same s9 hx, .tup (SqT.of (s29 _ _ h2)) (.cons (.str _) (.cons (.str _) (.cons (.int _) (.cons (dp_same (s2.trans s29) hdd) .nil))))⟩ S9
def spMov (K : PySem.W.Frag) : Sp := fun vs H Q _ => ∃ (G : Hp) (M : List (Addr × HO)) (v u : V) (pa : Addr) (ρ : List Nat) (k i : Nat) (m : Str) (t q c : Tr), vs = [v, .ref pa, u] ∧ Sep G M H ∧ Dp K G v (toD t) ∧ SqT K G pa ((ρ ++ [k]).map nv) ∧ sub t ρ = some q ∧ (kids q)[k]? = some c ∧ Dp K G u (ptD (.move m i)) ∧ i < (kids q).length ∧ (pre t).length ≤ 1000 ∧
  ∀ (r : Addr) (G' H' : Hp), Same G G' → Res K G' r (setAt t ρ (.node (mrk q) (lbl q) (insT ((kids q).eraseIdx k) i c))) (.move m k) → Sep G' M H' → Q (.ref r) H'
theorem ok_with_move (T : Top K mg w) {k : Nat} (G_node_on : FnOk P w K mg base CX0 k T.a_node_on T.d_node_on ["root", "path"] (spNodeOn K)) (G_with_children : FnOk P w K mg base CX0 k T.a_with_children T.d_with_children ["root", "path", "children"] (spWithC K)) (G_check_at : FnOk P w K mg base CX0 k T.a_check_at T.d_check_at ["at", "count"] spAt) :
    FnOk P w K mg base CX0 (k + 1) T.a_with_move T.d_with_move ["root", "path", "patch"] (spMov K) := by
  refine T.F_with_move.ok sc_with_move (fun vs H Q E h => ?_) (fun cdv A outer s H vs Q E hr h => ?_)
  · obtain ⟨G, M, v, u, pa, ρ, k, i, m, t, q, c, rfl, _⟩ := h
    rfl
  · obtain ⟨G, M, v, u, pa, ρ, kk, i, m, t, qn, cn, rfl, S, hv, hpa, hs, hk, hu, hi, pl, q⟩ := h
    refine ⟨_, (pss_cons (ps_set (i := 3) sc_with_move.nd rfl (.inl rfl) (pe_ix (ix_k K) (pe_call G_node_on (hr.mono (by omega)) (by rfl) T.g_node_on T.F_node_on.kp T.b_node_on .nil pass0 (pa_cons (xv 0) (pa_cons (pe_slice (sl_tupAK K) (xv 1) po_none (po_some (pe_un un_neg pe_int))) pa_nil))) pe_int (fun _ _ => rfl)))
      (pss_cons (ps_set (i := 4) sc_with_move.nd rfl (.inl rfl) (pe_ix (ix_k K) (xv 1) (pe_op op_subY (pe_callB (cr_lenK K) (by rfl) T.m_len (by decide +kernel) (pa_cons (xv 1) pa_nil)) pe_int) (fun _ _ => rfl)))
      (pss_cons (ps_set (i := 5) sc_with_move.nd rfl (.inl rfl) (pe_op (op_catAK K) (pe_slice (sl_tupAK K) (xv 3) po_none (po_some (xv 4))) (pe_slice (sl_tupAK K) (xv 3) (po_some (pe_op op_addY (xv 4) pe_int)) po_none)))
      (pss_cons (ps_set (i := 6) sc_with_move.nd rfl (.inl rfl) (pe_ix (ix_k K) (xv 2) pe_int (fun _ _ => rfl)))
      (pss_cons (ps_expr (pe_call G_check_at (hr.mono (by omega)) (by rfl) T.g_check_at T.F_check_at.kp T.b_check_at .nil pass0 (pa_cons (xv 6) (pa_cons (pe_callB (cr_lenK K) (by rfl) T.m_len (by decide +kernel) (pa_cons (xv 5) pa_nil)) pa_nil))))
      (pss_one (ps_ret (pe_tup (pa_cons (pe_call G_with_children (hr.mono (by omega)) (by rfl) T.g_with_children T.F_with_children.kp T.b_with_children .nil pass0 (pa_cons (xv 0) (pa_cons (pe_slice (sl_tupAK K) (xv 1) po_none (po_some (pe_un un_neg pe_int))) (pa_cons (pe_op (op_catAK K) (pe_op (op_catAK K) (pe_slice (sl_tupAK K) (xv 5) po_none (po_some (xv 6))) (pe_tup (pa_cons (pe_ix (ix_k K) (xv 3) (xv 4) (fun _ _ => rfl)) pa_nil))) (pe_slice (sl_tupAK K) (xv 5) (po_some (xv 6)) po_none)) pa_nil)))) (pa_cons (pe_tup (pa_cons pe_str (pa_cons (pe_ix (ix_k K) (xv 2) pe_int (fun _ _ => rfl)) (pa_cons (xv 4) pa_nil)))) pa_nil)))))))))), ?_⟩
    have em : (ρ ++ [kk]).map nv = ρ.map nv ++ [nv kk] := by rw [List.map_append]; rfl
    rw [em] at hpa
    have il := (List.getElem?_eq_some_iff.mp hk).1
    have qm : qn ∈ pre t := sub_mem hs
    have kml := many_le (kids qn)
    have ksl := sub_len qm
    obtain ⟨b, ws, rfl, hb, hws⟩ := pt_at hu
    obtain ⟨x1, r1, rfl, h3, h4⟩ := dpa_cons hws
    obtain rfl := dp_int h3
    refine ⟨1, rfl, _, rfl, cutA_ok S hpa fun c1 G1 H1 s1 hc1 S1 => ?_⟩
    rw [cutV_last] at hc1
    refine ⟨G1, v, c1, ρ, t, qn, rfl, S1.1, dp_same s1 hv, hc1, hs, fun w1 hw1 => ?_⟩
    obtain ⟨a0, kv, kus, rfl, ha0, hkv, hkus⟩ := node_at hw1
    have kl := dpa_len hkus
    rw [List.length_map] at kl
    have hku : kus[kk]? = some (kus[kk]'(by omega)) := List.getElem?_eq_getElem (by omega)
    obtain ⟨d', hd', hdd⟩ := dpa_get hkus hku
    obtain ⟨c2, hc2, rfl⟩ := map_get hd'
    rw [hk] at hc2
    cases hc2
    have el : (((ρ.map nv ++ [nv kk]).length : Nat) : Int) - 1 = ((ρ.length : Nat) : Int) := by rw [List.length_append, List.length_map, List.length_singleton]; omega
    have hat : (ρ.map nv ++ [nv kk])[ρ.length]? = some (.int (kk : Nat)) := by
      rw [List.getElem?_append_right (by rw [List.length_map]; exact Nat.le_refl _), List.length_map, Nat.sub_self]
      rfl
    refine ⟨_, _, .inr (S1.t ha0), atI_nat (j := 2) rfl, _, .inr (S1.t (same_t s1 hpa)), _, _, .inr (S1.t (same_t s1 hpa)), by rw [el]; exact atI_nat hat, ?_⟩
    refine ⟨_, rfl, cutA_ok S1 hkv fun c4 G4 H4 s4 hc4 S4 => ?_⟩
    rw [cutV_to _ _ (by omega)] at hc4
    refine ⟨_, rfl, ?_⟩
    unfold tNoPart
    refine cutA_ok S4 (same_t s4 hkv) fun c5 G5 H5 s5 hc5 S5 => ?_
    have e3 : ((kk : Nat) : Int) + 1 = ((kk + 1 : Nat) : Int) := by omega
    rw [e3, cutV_from _ _ (by omega)] at hc5
    refine cat_ok S5 (same_t s5 hc4) hc5 (small (by rw [List.length_take, List.length_drop]; omega)) fun c6 G6 H6 s6 hc6 S6 => ?_
    rw [take_drop_erase] at hc6
    have s16 := s4.trans (s5.trans s6)
    have s06 := s1.trans s16
    have ell : (kus.eraseIdx kk).length = (kids qn).length - 1 := by rw [List.length_eraseIdx_of_lt (by omega)]; omega
    refine ⟨_, _, .inr (S6.t (same_t s06 hb)), atI_nat (j := 2) rfl, _, .inr (S6.t hc6), i, (kus.eraseIdx kk).length, rfl, by omega, ?_⟩
    refine ⟨1, rfl, _, rfl, cutA_ok S6 (same_t s06 hpa) fun c7 G7 H7 s7 hc7 S7 => ?_⟩
    rw [cutV_last] at hc7
    refine ⟨_, rfl, cutA_ok S7 (same_t s7 hc6) fun c8 G8 H8 s8 hc8 S8 => ?_⟩
    rw [cutV_to _ _ (by omega)] at hc8
    have s18 := s16.trans (s7.trans s8)
    refine ⟨_, _, .inr (S8.t (same_t s18 hkv)), atI_nat hku, sz, fun p9 np9 => ?_⟩
    obtain ⟨G9, s9, S9, h9⟩ := Sep.mk (o := .tup [kus[kk]'(by omega)]) S8 np9
    refine cat_ok S9 (same_t s9 hc8) (SqT.of h9) (small (by rw [List.length_take]; simp only [List.length_singleton]; omega)) fun ca Ga Ha sa hca Sa => ⟨_, rfl, ?_⟩
    have s6a := s7.trans (s8.trans (s9.trans sa))
    try unfold tNoPart
    refine cutA_ok Sa (same_t s6a hc6) fun cb Gb Hb sb hcb Sb => ?_
    rw [cutV_from _ _ (by omega)] at hcb
    refine cat_ok Sb (same_t sb hca) hcb (small (by rw [List.length_append, List.length_take, List.length_drop]; simp only [List.length_singleton]; omega)) fun cc Gc Hc sc hcc Sc => ?_
    have s1c := s16.trans (s6a.trans (sb.trans sc))
    have hus : DpAll K Gc ((kus.eraseIdx kk).take i ++ [kus[kk]'(by omega)] ++ (kus.eraseIdx kk).drop i) ((insT ((kids qn).eraseIdx kk) i cn).map toD) := by
      refine dpa_ins ?_ (dp_same s1c hdd) i
      rw [← map_erase]
      exact dpa_erase kk (dpa_same s1c hkus)
    have s7c := s8.trans (s9.trans (sa.trans (sb.trans sc)))
    refine ⟨Gc, M, v, c7, cc, _, ρ, t, qn, insT ((kids qn).eraseIdx kk) i cn, rfl, Sc, dp_same (s1.trans s1c) hv, same_t s7c hc7, hs, hcc, hus, pl, fun x Gd Hd sd hx Sd => ?_⟩
    have s0d := s1.trans (s1c.trans sd)
    refine ⟨_, _, .inr (Sd.t (same_t s0d hb)), atI_nat (j := 1) rfl, sz, fun pe npe => ⟨sz, fun pf npf => ?_⟩⟩
    obtain ⟨Ge, se, Se, he⟩ := Sep.mk (o := .tup [.str "move", .str m, .int (kk : Nat)]) Sd npe
    obtain ⟨Gf, sf, Sf, hf⟩ := Sep.mk (o := .tup [x, .ref pe]) Se npf
    exact q pf Gf _ (s0d.trans (se.trans sf)) ⟨x, .ref pe, hf, dp_same (se.trans sf) hx, .tup (SqT.of (sf _ _ he)) (.cons (.str _) (.cons (.str _) (.cons (.int _) .nil)))⟩ Sf

end
end K11
set_option Elab.async false
set_option linter.all false
set_option maxRecDepth 100000
set_option maxHeartbeats 4000000
namespace K11
open PySem PySem.Spec PyProof.Rows L2 XL
/-! ### one path alone leads to a mark -/
theorem nd_two {ts : List Tr} {j k : Nat} {c d : Tr} {m : Str} (nd : ((pres ts).map mrk).Nodup) (hj : ts[j]? = some c) (hk : ts[k]? = some d) (hc : m ∈ (pre c).map mrk) (hd : m ∈ (pre d).map mrk) : j = k := by
  obtain ⟨a, b, e, al, ep, _⟩ := pres_at hj
  rw [ep, List.map_append, List.map_append, List.nodup_append] at nd
  have nb := List.nodup_append.mp nd.2.1
  rw [e] at hk
  by_cases h1 : k < a.length
  · rw [List.getElem?_append_left h1] at hk
    have : m ∈ (pres a).map mrk := by
      obtain ⟨x, hx, rfl⟩ := List.mem_map.mp hd
      exact List.mem_map_of_mem (mem_pres.mpr ⟨d, List.mem_of_getElem? hk, hx⟩)
    exact absurd rfl (nd.2.2 m this m (List.mem_append_left _ hc))
  · rw [List.getElem?_append_right (by omega)] at hk
    by_cases h2 : k - a.length = 0
    · omega
    · obtain ⟨n, en⟩ : ∃ n, k - a.length = n + 1 := ⟨k - a.length - 1, by omega⟩
      rw [en, List.getElem?_cons_succ] at hk
      have : m ∈ (pres b).map mrk := by
        obtain ⟨x, hx, rfl⟩ := List.mem_map.mp hd
        exact List.mem_map_of_mem (mem_pres.mpr ⟨d, List.mem_of_getElem? hk, hx⟩)
      exact absurd rfl (nb.2.2 m hc m this)
theorem path_uniq : ∀ {π π' : List Nat} {t c c' : Tr}, ((pre t).map mrk).Nodup → sub t π = some c → sub t π' = some c' → mrk c = mrk c' → π = π'
  | [], [], _, _, _, _, _, _, _ => rfl
  | [], k :: π', t, c, c', nd, h, h', e => by
    cases h
    obtain ⟨d, hd, h'⟩ := sub_ne h'
    rw [pre_eq, List.map_cons, List.nodup_cons] at nd
    refine absurd ?_ nd.1
    rw [e]
    exact List.mem_map_of_mem (mem_pres.mpr ⟨d, List.mem_of_getElem? hd, sub_mem h'⟩)
  | k :: π, [], t, c, c', nd, h, h', e => by
    cases h'
    obtain ⟨d, hd, h⟩ := sub_ne h
    rw [pre_eq, List.map_cons, List.nodup_cons] at nd
    refine absurd ?_ nd.1
    rw [← e]
    exact List.mem_map_of_mem (mem_pres.mpr ⟨d, List.mem_of_getElem? hd, sub_mem h⟩)
  | k :: π, k' :: π', t, c, c', nd, h, h', e => by
    obtain ⟨d, hd, h⟩ := sub_ne h
    obtain ⟨d', hd', h'⟩ := sub_ne h'
    have nd2 := nd
    rw [pre_eq, List.map_cons, List.nodup_cons] at nd2
    have ek : k = k' := nd_two nd2.2 hd hd' (List.mem_map_of_mem (sub_mem h)) (by rw [e]; exact List.mem_map_of_mem (sub_mem h'))
    subst ek
    rw [hd] at hd'
    cases hd'
    rw [path_uniq (nd_kid nd hd) h h' e]
/-! ### patches that fit, in a row -/
def Fits (p : Pt) (t : Tr) : Prop := match p with
  | .drop m => m ∈ (pre t).map mrk ∧ m ≠ mrk t
  | .put m i s => ∃ q ∈ pre t, mrk q = m ∧ i ≤ (kids q).length ∧ ((pre t).map mrk ++ (pre s).map mrk).Nodup ∧ (pre t).length + (pre s).length ≤ 400
  | .move m i => ∃ q ∈ pre t, ∃ c ∈ kids q, mrk c = m ∧ i < (kids q).length
  | .say m _ => m ∈ (pre t).map mrk
inductive Bk (t : Tr) : Pt → Pt → Prop where
  | drop {π : List Nat} {q c : Tr} {k : Nat} (h1 : sub t π = some q) (h2 : (kids q)[k]? = some c) : Bk t (.drop (mrk c)) (.put (mrk q) k c)
  | put (m : Str) (i : Nat) (s : Tr) : Bk t (.put m i s) (.drop (mrk s))
  | move {π : List Nat} {q c : Tr} {k : Nat} (i : Nat) (h1 : sub t π = some q) (h2 : (kids q)[k]? = some c) : Bk t (.move (mrk c) i) (.move (mrk c) k)
  | say {π : List Nat} {q : Tr} (l : Str) (h1 : sub t π = some q) : Bk t (.say (mrk q) l) (.say (mrk q) (lbl q))
def runs : List Pt → Tr → Tr
  | [], t => t
  | p :: r, t => runs r (aft p t)
inductive BkL : Tr → List Pt → List Pt → Prop where
  | nil (t : Tr) : BkL t [] []
  | cons {t : Tr} {p b : Pt} {r bs : List Pt} (h : Bk t p b) (h2 : BkL (aft p t) r bs) : BkL t (p :: r) (b :: bs)
theorem runs_app : ∀ (xs ys : List Pt) (t : Tr), runs (xs ++ ys) t = runs ys (runs xs t)
  | [], _, _ => rfl
  | p :: r, ys, t => runs_app r ys (aft p t)
theorem BkL.snoc {xs : List Pt} {p b : Pt} : ∀ {bs : List Pt} {t : Tr}, BkL t xs bs → Bk (runs xs t) p b → BkL t (xs ++ [p]) (bs ++ [b]) := by
  induction xs with
  | nil =>
    intro bs t h hb
    cases h
    exact .cons hb (.nil _)
  | cons x r ih =>
    intro bs t h hb
    cases h with
    | cons h1 h2 => exact .cons h1 (ih h2 hb)

section
variable {P : Program} {w : World} {K : PySem.W.Frag} {mg : Str → Option Value} {base : Heap}
/-! ### a row of patches -/
def spRA (K : PySem.W.Frag) : Sp := fun vs H Q _ => ∃ (G : Hp) (M : List (Addr × HO)) (v u : V) (t : Tr) (p : Pt), vs = [v, u] ∧ Sep G M H ∧ Dp K G v (toD t) ∧ Dp K G u (ptD p) ∧ ((pre t).map mrk).Nodup ∧ (pre t).length ≤ 1000 ∧ Fits p t ∧
  ∀ (r : Addr) (b : Pt) (G' H' : Hp), Same G G' → Res K G' r (aft p t) b → Bk t p b → Sep G' M H' → Q (.ref r) H'
theorem fits_in {p : Pt} {t : Tr} (h : Fits p t) : pmk p ∈ (pre t).map mrk := by
  cases p with
  | drop m => exact h.1
  | put m i s =>
    obtain ⟨q, h1, h2, _⟩ := h
    exact h2 ▸ List.mem_map_of_mem h1
  | move m i =>
    obtain ⟨q, h1, c, h2, h3, _⟩ := h
    refine h3 ▸ List.mem_map_of_mem (pre_trans t h1 (kid_pre h2))
  | say m l => exact h
theorem ok_root_after (T : Top K mg w) {k : Nat} (G_check_patch : FnOk P w K mg base CX0 k T.a_check_patch T.d_check_patch ["patch"] (spChk K)) (G_path_to : FnOk P w K mg base CX0 k T.a_path_to T.d_path_to ["root", "mark"] (spPath K))
    (G_with_put : FnOk P w K mg base CX0 k T.a_with_put T.d_with_put ["root", "path", "patch"] (spPut K)) (G_with_say : FnOk P w K mg base CX0 k T.a_with_say T.d_with_say ["root", "path", "patch"] (spSay K)) (G_with_drop : FnOk P w K mg base CX0 k T.a_with_drop T.d_with_drop ["root", "path"] (spDrp K)) (G_with_move : FnOk P w K mg base CX0 k T.a_with_move T.d_with_move ["root", "path", "patch"] (spMov K)) :
    FnOk P w K mg base CX0 (k + 1) T.a_root_after T.d_root_after ["root", "patch"] (spRA K) := by
  refine T.F_root_after.ok sc_root_after (fun vs H Q E h => ?_) (fun cdv A outer s H vs Q E hr h => ?_)
  · obtain ⟨G, M, v, u, t, p, rfl, _⟩ := h
    rfl
  · obtain ⟨G, M, v, u, t, p, rfl, S, hv, hu, nd, pl, ft, q⟩ := h
    refine ⟨_, (pss_cons (ps_expr (pe_call G_check_patch (hr.mono (by omega)) (by rfl) T.g_check_patch T.F_check_patch.kp T.b_check_patch .nil pass0 (pa_cons (xv 1) pa_nil)))
      (pss_cons (ps_set (i := 2) sc_root_after.nd rfl (.inl rfl) (pe_call G_path_to (hr.mono (by omega)) (by rfl) T.g_path_to T.F_path_to.kp T.b_path_to .nil pass0 (pa_cons (xv 0) (pa_cons (pe_ix (ix_k K) (xv 1) pe_int (fun _ _ => rfl)) pa_nil))))
      (pss_cons (xs_if (xt_cmp op_isN (xv 2) pe_non (nomark _))
      (pss_one ps_never)
      pss_nil)
      (pss_cons (xs_if (xt_cmp (op_eqLK K hr.u190) (pe_ix (ix_k K) (xv 1) pe_int (fun _ _ => rfl)) pe_str (nomark _))
      (pss_one (ps_ret (pe_call G_with_put (hr.mono (by omega)) (by rfl) T.g_with_put T.F_with_put.kp T.b_with_put .nil pass0 (pa_cons (xv 0) (pa_cons (xv 2) (pa_cons (xv 1) pa_nil))))))
      pss_nil)
      (pss_cons (xs_if (xt_cmp (op_eqLK K hr.u190) (pe_ix (ix_k K) (xv 1) pe_int (fun _ _ => rfl)) pe_str (nomark _))
      (pss_one (ps_ret (pe_call G_with_say (hr.mono (by omega)) (by rfl) T.g_with_say T.F_with_say.kp T.b_with_say .nil pass0 (pa_cons (xv 0) (pa_cons (xv 2) (pa_cons (xv 1) pa_nil))))))
      pss_nil)
      (pss_cons (xs_if (xt_cmp (op_eqLK K hr.u190) (pe_callB (cr_lenK K) (by rfl) T.m_len (by decide +kernel) (pa_cons (xv 2) pa_nil)) pe_int (nomark _))
      (pss_one ps_never)
      pss_nil)
      (pss_cons (xs_if (xt_cmp (op_eqLK K hr.u190) (pe_ix (ix_k K) (xv 1) pe_int (fun _ _ => rfl)) pe_str (nomark _))
      (pss_one (ps_ret (pe_call G_with_drop (hr.mono (by omega)) (by rfl) T.g_with_drop T.F_with_drop.kp T.b_with_drop .nil pass0 (pa_cons (xv 0) (pa_cons (xv 2) pa_nil)))))
      pss_nil)
      (pss_one (ps_ret (pe_call G_with_move (hr.mono (by omega)) (by rfl) T.g_with_move T.F_with_move.kp T.b_with_move .nil pass0 (pa_cons (xv 0) (pa_cons (xv 2) (pa_cons (xv 1) pa_nil))))))))))))), ?_⟩
    obtain ⟨b, ws, rfl, hb, hws⟩ := id (pt_at hu)
    refine ⟨_, p, rfl, dp_same S.1 hu, ?_⟩
    refine ⟨_, _, .inr (S.t hb), atI_nat (j := 1) rfl, G, M, v, pmk p, t, rfl, S, hv, pl, fits_in ft, fun pa π c G1 H1 s1 hpa hsub em S1 => ?_⟩
    refine ⟨rfl, fun e => absurd e (by simp), fun _ => ?_⟩
    have hb1 := same_t s1 hb
    have hv1 := dp_same s1 hv
    have hu1 := dp_same s1 hu
    refine ⟨_, _, .inr (S1.t hb1), atI_nat (j := 0) rfl, fun e1 => ?_, fun e1 => ⟨_, _, .inr (S1.t hb1), atI_nat (j := 0) rfl, fun e2 => ?_, fun e2 => ?_⟩⟩
    · have w1 : wd p = "put" := of_decide_eq_true e1
      cases p with
      | put m i s =>
        obtain ⟨q1, h1, h2, h3, h4, h5⟩ := ft
        obtain rfl : c = q1 := mrk_inj nd (sub_mem hsub) h1 (em.trans h2.symm)
        refine ⟨G1, M, v, .ref b, pa, π, t, c, s, m, i, rfl, S1, hv1, hpa, hsub, hu1, h3, h4, h5, fun r G2 H2 s2 hres S2 => ?_⟩
        have ea : aft (.put m i s) t = setAt t π (.node (mrk c) (lbl c) (insT (kids c) i s)) := by
          have := aft_node (p := .put m i s) (.inl ⟨_, _, _, rfl⟩) nd hsub h2
          rw [show lbP (.put m i s) (mrk c) (lbl c) = lbl c from rfl, show ksP (.put m i s) (mrk c) (kids c) = insT (kids c) i s from if_pos h2] at this
          exact this
        rw [← ea] at hres
        exact q r _ G2 H2 (s1.trans s2) hres (.put m i s) S2
      | drop m => exact absurd w1 (show ("drop" : Str) ≠ "put" by decide +kernel)
      | move m i => exact absurd w1 (show ("move" : Str) ≠ "put" by decide +kernel)
      | say m l => exact absurd w1 (show ("say" : Str) ≠ "put" by decide +kernel)
    · have w1 : wd p = "say" := of_decide_eq_true e2
      cases p with
      | say m l =>
        refine ⟨G1, M, v, .ref b, pa, π, t, c, m, l, rfl, S1, hv1, hpa, hsub, hu1, pl, fun r G2 H2 s2 hres S2 => ?_⟩
        have em2 : mrk c = m := em
        subst em2
        have ea : aft (.say (mrk c) l) t = setAt t π (.node (mrk c) l (kids c)) := by
          have := aft_node (p := .say (mrk c) l) (.inr ⟨_, _, rfl⟩) nd hsub rfl
          rw [show lbP (.say (mrk c) l) (mrk c) (lbl c) = l from if_pos rfl, show ksP (.say (mrk c) l) (mrk c) (kids c) = kids c from rfl] at this
          exact this
        rw [← ea] at hres
        exact q r _ G2 H2 (s1.trans s2) hres (.say l hsub) S2
      | drop m => exact absurd w1 (show ("drop" : Str) ≠ "say" by decide +kernel)
      | move m i => exact absurd w1 (show ("move" : Str) ≠ "say" by decide +kernel)
      | put m i s => exact absurd w1 (show ("put" : Str) ≠ "say" by decide +kernel)
    · have ml : (π.map nv).length = π.length := List.length_map _
      refine ⟨_, .inr (S1.t hpa), ?_⟩
      rw [ml]
      rcases nil_or_snoc π with eπ | ⟨ρ, kk, eπ⟩
      · exfalso
        rw [eπ] at hsub
        cases hsub
        cases p with
        | drop m => exact ft.2 em.symm
        | move m i =>
          obtain ⟨q1, h1, d, h2, h3, _⟩ := ft
          have hd : d ∈ pre q1 := kid_pre h2
          have hdt := pre_trans t h1 hd
          obtain rfl : t = d := mrk_inj nd (self_pre t) hdt (em.trans h3.symm)
          have l1 := hgt_kid h2
          have l2 := pre_hgt t h1
          omega
        | put m i s => exact of_decide_eq_false e1 rfl
        | say m l => exact of_decide_eq_false e2 rfl
      · subst eπ
        obtain ⟨q0, hq0, hk⟩ := sub_unsnoc hsub
        refine ⟨fun e => ?_, fun _ => ⟨_, _, .inr (S1.t hb1), atI_nat (j := 0) rfl, fun e3 => ?_, fun e3 => ?_⟩⟩
        · have := of_decide_eq_true e
          rw [List.length_append, List.length_singleton] at this
          omega
        · have w1 : wd p = "drop" := of_decide_eq_true e3
          cases p with
          | drop m =>
            have em2 : mrk c = m := em
            subst em2
            refine ⟨G1, M, v, pa, ρ, kk, t, q0, c, rfl, S1, hv1, hpa, hq0, hk, pl, fun r G2 H2 s2 hres S2 => ?_⟩
            have ea : aft (.drop (mrk c)) t = setAt t ρ (.node (mrk q0) (lbl q0) ((kids q0).eraseIdx kk)) := aft_child (p := .drop (mrk c)) (.inl ⟨_, rfl⟩) nd hq0 hk rfl
            rw [← ea] at hres
            exact q r _ G2 H2 (s1.trans s2) hres (.drop hq0 hk) S2
          | put m i s => exact absurd w1 (show ("put" : Str) ≠ "drop" by decide +kernel)
          | move m i => exact absurd w1 (show ("move" : Str) ≠ "drop" by decide +kernel)
          | say m l => exact absurd w1 (show ("say" : Str) ≠ "drop" by decide +kernel)
        · cases p with
          | move m i =>
            have em2 : mrk c = m := em
            subst em2
            obtain ⟨q1, h1, d, h2, h3, h4⟩ := ft
            obtain ⟨σ1, hσ⟩ := pre_sub t h1
            obtain ⟨j, hj⟩ := List.getElem?_of_mem h2
            have hd := sub_snoc hσ hj
            have eu := path_uniq nd hsub hd h3.symm
            obtain ⟨e5, _⟩ := List.append_inj' eu rfl
            rw [e5, hσ] at hq0
            cases hq0
            rw [← e5] at hσ
            refine ⟨G1, M, v, .ref b, pa, ρ, kk, i, mrk c, t, q0, c, rfl, S1, hv1, hpa, hσ, hk, hu1, h4, pl, fun r G2 H2 s2 hres S2 => ?_⟩
            have ea : aft (.move (mrk c) i) t = setAt t ρ (.node (mrk q0) (lbl q0) (insT ((kids q0).eraseIdx kk) i c)) := aft_child (p := .move (mrk c) i) (.inr ⟨_, _, rfl⟩) nd hσ hk rfl
            rw [← ea] at hres
            exact q r _ G2 H2 (s1.trans s2) hres (.move i hσ hk) S2
          | drop m => exact absurd rfl (of_decide_eq_false e3)
          | put m i s => exact absurd rfl (of_decide_eq_false e1)
          | say m l => exact absurd rfl (of_decide_eq_false e2)
/-- a good page -/
structure Gt (t : Tr) : Prop where
  nd : ((pre t).map mrk).Nodup
  ln : (pre t).length ≤ 400
  ok : TrOk t
def Chn : List Pt → Tr → Prop
  | [], t => Gt t
  | p :: r, t => Gt t ∧ Fits p t ∧ Chn r (aft p t)
theorem Chn.gt {ps : List Pt} {t : Tr} (h : Chn ps t) : Gt t := by
  cases ps with
  | nil => exact h
  | cons p r => exact h.1
theorem Chn.at {p : Pt} : ∀ {xs ys : List Pt} {t : Tr}, Chn (xs ++ p :: ys) t → Gt (runs xs t) ∧ Fits p (runs xs t) ∧ Chn ys (runs (xs ++ [p]) t)
  | [], ys, t, h => h
  | x :: xs, ys, t, h => Chn.at (xs := xs) (ys := ys) h.2.2
theorem Chn.fin : ∀ {ps : List Pt} {t : Tr}, Chn ps t → Gt (runs ps t)
  | [], _, h => h
  | p :: r, t, h => Chn.fin (ps := r) (t := aft p t) h.2.2
structure PtcAt (K : PySem.W.Frag) (C CP : Addr) (G : Hp) (x : Addr) (t : Tr) (ps : List Pt) : Prop where
  ex : ∃ (dx pg pe R U : Addr) (us bs : List V) (bk : List Pt), G x = some (.ins C dx [("first_page", .ref pg), ("last_page", .ref pe), ("rows", .ref R), ("undone", .ref U)]) ∧ PgAt K CP G pg t ∧ PgAt K CP G pe (runs ps t) ∧ G R = some (.lst us) ∧ DpAll K G us (ps.map ptD) ∧
    G U = some (.lst bs) ∧ DpAll K G bs (bk.reverse.map ptD) ∧ BkL t ps bk
theorem PtcAt.same {K : PySem.W.Frag} {C CP : Addr} {G G' : Hp} {x : Addr} {t : Tr} {ps : List Pt} (e : Same G G') (h : PtcAt K C CP G x t ps) : PtcAt K C CP G' x t ps := by
  obtain ⟨dx, pg, pe, R, U, us, bs, bk, h1, h2, h3, h4, h5, h6, h7, h8⟩ := h.ex
  exact ⟨dx, pg, pe, R, U, us, bs, bk, e _ _ h1, h2.same e, h3.same e, e _ _ h4, dpa_same e h5, e _ _ h6, dpa_same e h7, h8⟩
def spPtc (K : PySem.W.Frag) (C CP : Addr) : Sp := fun vs H Q _ => ∃ (G : Hp) (M : List (Addr × HO)) (x dx pg R : Addr) (us : List V) (t : Tr) (ps : List Pt), vs = [.ref x, .ref pg, .ref R] ∧ Sep G ((x, .ins C dx []) :: M) H ∧ PgAt K CP G pg t ∧ (∀ G' H', Same G G' → Sep G' M H' → H' R = some (.lst us)) ∧ DpAll K G us (ps.map ptD) ∧ Chn ps t ∧ ps.length ≤ 1000 ∧
  ∀ (G' H' : Hp), Same G G' → PtcAt K C CP G' x t ps → Sep G' M H' → Q .non H'
theorem ok_Patches_init (T : Top K mg w) {k : Nat} (G_root_after : FnOk P w K mg base CX0 k T.a_root_after T.d_root_after ["root", "patch"] (spRA K)) (G_Page_top : FnOk P w K mg base CX0 k T.a_Page_top T.d_Page_top ["self"] (spTop K T.C_Page))
    (G_Page_init : FnOk P w K mg base (L2.CX P w) k T.a_Page_init T.d_Page_init ["self", "root"] (spPage K T.C_Page T.C_TwiceMarked T.C_TooMany)) : FnOk P w K mg base CX0 (k + 2) T.a_Patches_init T.d_Patches_init ["self", "page", "rows"] (spPtc K T.C_Patches T.C_Page) := by
  refine T.F_Patches_init.ok sc_Patches_init (fun vs H Q E h => ?_) (fun cdv A outer s H vs Q E hr h => ?_)
  · obtain ⟨G, M, x, dx, pg, R, us, t, ps, rfl, _⟩ := h
    rfl
  · obtain ⟨G, M, x, dx, pg, R, us, t, ps, rfl, S, hp, hR, hus, ch, pn, q⟩ := h
    refine ⟨_, (pss_cons (ps_set (i := 3) sc_Patches_init.nd rfl (.inl rfl) (pe_prop (xv 1) T.cl_Page T.pr_Page_top G_Page_top (hr.mono (by omega)) T.b_Page_top .nil pass0 rfl))
      (pss_cons (ps_set (i := 4) sc_Patches_init.nd rfl (.inl rfl) (pe_lst pa_nil))
      (pss_cons (ps_for PassesOwn.never rfl (pi_listK K (xv 2)) (pg_name (i := 5) sc_Patches_init.nd rfl (.inl rfl))
      (pss_cons (ps_asg (pe_call G_root_after (hr.mono (by omega)) (by rfl) T.g_root_after T.F_root_after.kp T.b_root_after .nil pass0 (pa_cons (xv 3) (pa_cons (xv 5) pa_nil))) (pg_tupK K 2 (pgs_cons (pg_name (i := 3) sc_Patches_init.nd rfl (.inl rfl)) (pgs_cons (pg_name (i := 6) sc_Patches_init.nd rfl (.inl rfl)) pgs_nil))))
      (pss_one (ps_expr (pe_bmK K PySem.F.plainAttrs_list PySem.F.slot_list_append PySem.F.type_list_append mt_append (xv 4) (pa_cons (xv 6) pa_nil))))))
      (pss_cons (ps_fld (xv 0) (xv 1) rfl)
      (pss_cons (ps_fld (xv 0) (pe_make T.mk_Page G_Page_init (hr.mono (by omega)) (by rfl) T.g_Page T.b_Page_init .nil passL (pa_cons (xv 3) pa_nil)) rfl)
      (pss_cons (ps_fld (xv 0) (pe_callTy (call_listK K) (by rfl) T.m_list (by decide +kernel) (pa_cons (xv 2) pa_nil)) rfl)
      (pss_one (ps_fld (xv 0) (pe_revK K (xv 4) (pe_str (pe_un un_neg pe_int) fun _ _ _ h => ⟨1, rfl, h⟩)) rfl)))))))), ?_⟩
    obtain ⟨pd, N, A', O, v0, us0, kn, g1, _⟩ := id hp.ex
    refine ⟨pg, pd, _, rfl, S.st g1, G, pg, t, rfl, S.1, hp, fun v hv => ⟨sz, fun U nU => ?_⟩⟩
    have S1 := S.new (o := .lst []) nU
    have ul := dpa_len hus
    rw [List.length_map] at ul
    have hRd : ∀ {G' H' : Hp} {N : List (Addr × HO)}, Same G G' → Sep G' (N ++ M) H' → H' R = some (.lst us) := fun s' S' => hR _ _ s' (S'.sub (List.sublist_append_right _ _))
    refine ⟨R, rfl, ⟨us, SqL.of (hRd (N := [_, _]) (Same.refl _) S1)⟩, for_list (xs := us) (fun i σ H' => ∃ (y5 y6 : Option V) (v' : V) (bs : List V) (bk : List Pt) (G' : Hp), σ = [some (.ref x), some (.ref pg), some (.ref R), some v', some (.ref U), y5, y6] ∧ Same G G' ∧ Dp K G' v' (toD (runs (ps.take i) t)) ∧ BkL t (ps.take i) bk ∧ bk.length = i ∧ DpAll K G' bs (bk.map ptD) ∧ Sep G' ((U, .lst bs) :: (x, .ins T.C_Patches dx []) :: M) H')
      ⟨_, _, v, [], [], G, rfl, Same.refl _, hv, .nil _, rfl, .nil, S1⟩ (fun i σ H' _ h => ?_) (fun i u σ H' hu h => ?_) (fun σ H' h => ?_)⟩
    · obtain ⟨_, _, _, _, _, _, _, s', _, _, _, _, S'⟩ := h
      exact SqL.of (hRd (N := [_, _]) s' S')
    · obtain ⟨y5, y6, v', bs, bk, G2, rfl, s2, hv', hbk, bl, hbs, S2⟩ := h
      obtain ⟨d, hd, hud⟩ := dpa_get hus hu
      rw [List.getElem?_map] at hd
      obtain ⟨p, hpp, rfl⟩ := Option.map_eq_some_iff.mp hd
      have e1 := (take_pre hpp).1
      rw [e1] at ch
      obtain ⟨gt, ft, _⟩ := ch.at
      have il := (List.getElem?_eq_some_iff.mp hpp).1
      have gl := gt.ln
      have bsl := dpa_len hbs
      rw [List.length_map] at bsl
      refine ⟨G2, _, v', u, runs (ps.take i) t, p, rfl, S2, hv', dp_same s2 hud, gt.nd, by omega, ft, fun r b G3 H3 s3 ⟨x1, x2, hr3, hx1, hx2⟩ hb S3 => ?_⟩
      refine ⟨r, _, rfl, SqT.of (S3.st hr3), rfl, _, _, rfl, _, _, rfl, rfl, ?_⟩
      refine ⟨.inl ⟨rfl, _, SqL.of S3.hd⟩, U, bs, x2, rfl, rfl, S3.hd, smallL (by omega), ?_⟩
      refine ⟨_, _, x1, bs ++ [x2], bk ++ [b], G3, rfl, s2.trans s3, ?_, ?_, by rw [List.length_append, bl]; rfl, ?_, S3.set⟩
      · rw [take_snoc hpp, runs_app]
        exact hx1
      · rw [take_snoc hpp]
        exact hbk.snoc hb
      · rw [List.map_append]
        exact dpa_app (dpa_same s3 hbs) (dpa_one hx2)
    · obtain ⟨y5, y6, v', bs, bk, G2, rfl, s2, hv', hbk, bl, hbs, S2⟩ := h
      rw [ul, List.take_length] at hv' hbk
      have ge := ch.fin
      have no : ∀ {t : Tr} {m : Str} {A : Prop}, ((pre t).map mrk).Nodup → tw [] ((pre t).map mrk) = some m → A := fun nd e => by
        rw [tw_nd.mpr nd] at e
        exact nomatch e
      have gl := ge.ln
      have S3 := S2.sw
      refine ⟨x, T.C_Patches, dx, [], rfl, S3.hd, T.cl_Patches, T.na_Patches_first_page, by decide, ?_⟩
      rw [putF_nil]
      have X1 := S3.set (o' := .ins T.C_Patches dx [("first_page", .ref pg)])
      refine fun y dy ny ndy ne => ⟨G2, _, y, dy, v', runs ps t, rfl, X1.new2 ny ndy ne, hv', by omega, fun p hp => (ge.ok.tx p hp).1, fun _ _ G4 H4 s4 pe S4 => ⟨rfl, ?_⟩, fun m e => no ge.nd e, fun _ l => by omega⟩
      have X2 := S4.drop
      refine ⟨x, T.C_Patches, dx, _, rfl, X2.hd, T.cl_Patches, T.na_Patches_last_page, by simp, ?_⟩
      rw [putF_ne, putF_nil]
      have X3 := X2.set (o' := .ins T.C_Patches dx [("first_page", .ref pg), ("last_page", .ref y)])
      have s04 := s2.trans s4
      refine ⟨R, _, rfl, .inl (SqL.of (hRd (N := [_, _]) s04 X3)), fun p5 np5 => ?_⟩
      obtain ⟨G5, s5, S5, h5⟩ := Sep.mk (o := .lst us) X3 np5
      refine ⟨x, T.C_Patches, dx, _, rfl, S5.hd, T.cl_Patches, T.na_Patches_rows, by simp, ?_⟩
      rw [putF_ne, putF_ne, putF_nil]
      have X4 := S5.set (o' := .ins T.C_Patches dx [("first_page", .ref pg), ("last_page", .ref y), ("rows", .ref p5)])
      refine ⟨U, bs, rfl, SqL.of X4.sw.hd, fun p6 np6 => ?_⟩
      obtain ⟨G6, s6, S6, h6⟩ := Sep.mk (o := .lst bs.reverse) X4 np6
      refine ⟨x, T.C_Patches, dx, _, rfl, S6.hd, T.cl_Patches, T.na_Patches_undone, by simp, ?_⟩
      rw [putF_ne, putF_ne, putF_ne, putF_nil]
      have X5 := S6.set (o' := .ins T.C_Patches dx [("first_page", .ref pg), ("last_page", .ref y), ("rows", .ref p5), ("undone", .ref p6)])
      obtain ⟨G7, s7, S7, h7⟩ := Sep.keep X5
      have s47 := s5.trans (s6.trans s7)
      have s07 := s04.trans s47
      refine q G7 _ s07 ⟨dx, pg, y, p5, p6, us, bs.reverse, bk, h7, hp.same s07, pe.same s47, s7 _ _ (s6 _ _ h5), dpa_same s07 hus, s7 _ _ h6, ?_, hbk⟩ S7.drop
      rw [List.map_reverse]
      exact dpa_rev (dpa_same (s4.trans s47) hbs)
def spPtPg (K : PySem.W.Frag) (C CP : Addr) (last : Bool) : Sp := fun vs H Q _ => ∃ (G : Hp) (x : Addr) (t : Tr) (ps : List Pt), vs = [.ref x] ∧ Same G H ∧ PtcAt K C CP G x t ps ∧ ∀ pg, PgAt K CP G pg (if last then runs ps t else t) → Q (.ref pg) H
theorem ok_Patches_page (T : Top K mg w) {k : Nat} : FnOk P w K mg base CX0 (k + 1) T.a_Patches_page T.d_Patches_page ["self"] (spPtPg K T.C_Patches T.C_Page false) := by
  refine T.F_Patches_page.ok sc_Patches_page (fun vs H Q E h => ?_) (fun cdv A outer s H vs Q E hr h => ?_)
  · obtain ⟨G, x, t, ps, rfl, _⟩ := h
    rfl
  · obtain ⟨G, x, t, ps, rfl, S, pt, q⟩ := h
    obtain ⟨dx, pg, pe, R, U, us, bs, bk, h1, h2, h3, _⟩ := pt.ex
    refine ⟨_, (pss_one (ps_ret (pe_fldK K (xv 0)))), ?_⟩
    exact ⟨x, T.C_Patches, dx, _, _, rfl, S _ _ h1, T.cl_Patches, T.na_Patches_first_page, lk_eq, q pg h2⟩
theorem ok_Patches_end (T : Top K mg w) {k : Nat} : FnOk P w K mg base CX0 (k + 1) T.a_Patches_end T.d_Patches_end ["self"] (spPtPg K T.C_Patches T.C_Page true) := by
  refine T.F_Patches_end.ok sc_Patches_end (fun vs H Q E h => ?_) (fun cdv A outer s H vs Q E hr h => ?_)
  · obtain ⟨G, x, t, ps, rfl, _⟩ := h
    rfl
  · obtain ⟨G, x, t, ps, rfl, S, pt, q⟩ := h
    obtain ⟨dx, pg, pe, R, U, us, bs, bk, h1, h2, h3, _⟩ := pt.ex
    refine ⟨_, (pss_one (ps_ret (pe_fldK K (xv 0)))), ?_⟩
    exact ⟨x, T.C_Patches, dx, _, _, rfl, S _ _ h1, T.cl_Patches, T.na_Patches_last_page, (by rw [lk_ne, lk_eq]), q pe h3⟩
def spPtIt (K : PySem.W.Frag) (C CP : Addr) (n : Nat) : Sp := fun vs H Q _ => ∃ (G : Hp) (x : Addr) (t : Tr) (ps : List Pt), vs = [.ref x] ∧ Same G H ∧ PtcAt K C CP G x t ps ∧ ∀ it l us, H it = none → n ≤ it → G l = some (.lst us) → DpAll K G us (ps.map ptD) → Q (.ref it) (upd H it (ItO l it 0))
theorem ok_Patches_iter (T : Top K mg w) {k : Nat} : FnY P w K mg base CX0 (k + 1) T.a_Patches_iter T.d_Patches_iter ["self"] (spPtIt K T.C_Patches T.C_Page) := by
  refine okY T.F_Patches_iter sc_Patches_iter (fun n vs H Q E h => ?_) (fun cdv A outer s H vs Q E hr h => ?_)
  · obtain ⟨G, x, t, ps, rfl, _⟩ := h
    rfl
  · obtain ⟨G, x, t, ps, rfl, S, pt, q⟩ := h
    obtain ⟨dx, pg, pe, R, U, us, bs, bk, h1, h2, h3, h4, h5, _⟩ := pt.ex
    refine ⟨_, (pss_one (ps_ret (pe_callB ItX.call_iterN (by rfl) T.m_iter (by decide +kernel) (pa_cons (pe_fldK K (xv 0)) pa_nil)))), ?_⟩
    exact ⟨x, T.C_Patches, dx, _, _, rfl, S _ _ h1, T.cl_Patches, T.na_Patches_rows, (by rw [lk_ne, lk_ne, lk_eq]), R, _, rfl, SqL.of (S _ _ h4), fun it nit hn => q it R us nit hn h4 h5⟩

end
end K11
set_option Elab.async false
set_option linter.all false
set_option maxRecDepth 100000
set_option maxHeartbeats 4000000
namespace K11
open PySem PySem.Spec PyProof.Rows L2 XL
section
variable {P : Program} {w : World} {K : PySem.W.Frag} {mg : Str → Option Value} {base : Heap}
/-! ### _law_due of a patch that fits -/
def spDueOk (K : PySem.W.Frag) : Sp := fun vs H Q _ => ∃ (G : Hp) (M : List (Addr × HO)) (v u : V) (t : Tr) (p : Pt), vs = [v, u] ∧ Sep G M H ∧ Dp K G v (toD t) ∧ Dp K G u (ptD p) ∧ Gt t ∧ Fits p t ∧
  ∀ (r : Addr) (G' H' : Hp), Same G G' → G' r = some (.tup [.str "ok", .str ""]) → Sep G' M H' → Q (.ref r) H'
def oD : Option Str → PyData
  | none => .none
  | some m => .str m
def rwD (r : Rw) : PyData := .tuple [toD r.1, oD r.2.1, .int (r.2.2.1 : Nat), .int (r.2.2.2 : Nat)]
theorem o_dp {K : PySem.W.Frag} {G : Hp} (o : Option Str) : Dp K G (oV o) (oD o) := by
  cases o with
  | none => exact .non
  | some m => exact .str _
theorem rw_dp {K : PySem.W.Frag} {G : Hp} {v : V} {r : Rw} (h : RwAt K G v r) : Dp K G v (rwD r) := by
  obtain ⟨a, v1, rfl, h1, h2⟩ := h
  exact .tup (SqT.of h1) (.cons h2 (.cons (o_dp _) (.cons (.int _) (.cons (.int _) .nil))))
theorem rws_dp {K : PySem.W.Frag} {G : Hp} : ∀ {vs : List V} {rs : List Rw}, Paired (RwAt K G) vs rs → DpAll K G vs (rs.map rwD)
  | _, _, .nil => .nil
  | _, _, .cons h t => .cons (rw_dp h) (rws_dp t)
theorem rw_lay {t : Tr} (ok : TrOk t) {r : Rw} (h : r ∈ tb none 0 1 t) : (rwD r).canLay0 = true ∧ (rwD r).depth ≤ 125 := by
  have hr : r.1 ∈ pre t := by
    rw [← tb_pre none 0 1 t]
    exact List.mem_map_of_mem h
  have l1 := ok_lay (ok.sub hr)
  have d1 := ok_dep (ok.sub hr)
  have lo : (oD r.2.1).canLay0 = true ∧ (oD r.2.1).depth ≤ 120 := by
    rcases tb_at none 0 1 t r h with ⟨_, e, _⟩ | ⟨p, hp, _, e⟩
    · rw [e]
      exact ⟨rfl, by simp [oD, PyData.depth]⟩
    · rw [e]
      exact ⟨tx_lay (ok.tx p hp).1, by simp [oD, PyData.depth]⟩
  unfold rwD
  refine ⟨?_, ?_⟩
  · simp only [PyData.canLay0, PyData.canLayAll0, l1, lo.1, Bool.and_self]
  · simp only [PyData.depth, PyData.depthAll]
    have := lo.2
    omega
theorem kids_le {t q : Tr} (nd : ((pre t).map mrk).Nodup) (hq : q ∈ pre t) : (kids q).length ≤ ((tb none 0 1 t).filter fun r => decide (r.2.1 = some (mrk q))).length := by
  have h : ∀ x ∈ (kids q).map mrk, x ∈ ((tb none 0 1 t).filter fun r => decide (r.2.1 = some (mrk q))).map fun r => mrk r.1 := fun x hx => by
    obtain ⟨c, hc, rfl⟩ := List.mem_map.mp hx
    have ct : c ∈ pre t := pre_trans t hq (kid_pre hc)
    rw [← tb_pre none 0 1 t] at ct
    obtain ⟨r, hr, rfl⟩ := List.mem_map.mp ct
    rcases tb_at none 0 1 t r hr with ⟨e, _⟩ | ⟨p, hp, hk, e⟩
    · exfalso
      have l1 := hgt_kid hc
      have l2 := pre_hgt t hq
      rw [e] at l1
      omega
    · obtain ⟨σ, hσ⟩ := pre_sub t hp
      obtain ⟨τ, hτ⟩ := pre_sub t hq
      obtain ⟨j, hj⟩ := List.getElem?_of_mem hc
      obtain ⟨e5, _⟩ := List.append_inj' (path_uniq nd (sub_snoc hσ hk) (sub_snoc hτ hj) rfl) rfl
      rw [e5, hτ] at hσ
      cases hσ
      exact List.mem_map.mpr ⟨r, List.mem_filter.mpr ⟨hr, by rw [e]; exact decide_eq_true rfl⟩, rfl⟩
  have := nd_sub (kids_nd nd hq) h
  rw [List.length_map, List.length_map] at this
  exact this
def nP : Pt → Nat
  | .drop _ => 2
  | .put _ _ _ => 4
  | .move _ _ => 3
  | .say _ _ => 3
theorem rsD_len (p : Pt) : (rsD p).length + 2 = nP p := by cases p <;> rfl
theorem ok_due (T : Top K mg w) {k : Nat} (G_table : FnOk P w K mg base CX0 k T.a_table T.d_table ["_law_root"] (spTab K)) (G_marked : FnOk P w K mg base CX0 k T.a_marked T.d_marked ["_law_root"] (spMarked K)) :
    FnOk P w K mg base CX0 (k + 1) T.a_due T.d_due ["_law_root", "_law_patch"] (spDueOk K) := by
  refine T.F_due.ok sc_due (fun vs H Q E h => ?_) (fun cdv A outer s H vs Q E hr h => ?_)
  · obtain ⟨G, M, v, u, t, p, rfl, _⟩ := h
    rfl
  · obtain ⟨G, M, v, u, t, p, rfl, S, hv, hu, gt, ft, q⟩ := h
    refine ⟨_, (pss_cons (xs_if (PW.pt (xw_or (xt_cmp (op_eqLK K hr.u190) (pe_callB (cr_lenK K) (by rfl) T.m_len (by decide +kernel) (pa_cons (xv 1) pa_nil)) pe_int (nomark _)) (pw_or1 (xt_cmp (notin_seqK K) (pe_ix (ix_k K) (xv 1) pe_int (fun _ _ => rfl)) (pe_lst (pa_cons pe_str (pa_cons pe_str (pa_cons pe_str (pa_cons pe_str pa_nil))))) (by rfl)))))
      (pss_one (ps_ret (pe_tup (pa_cons pe_str (pa_cons (xv 1) pa_nil)))))
      pss_nil)
      (pss_cons (xs_if (xt_cmp (op_neLK K hr.u190) (pe_callB (cr_lenK K) (by rfl) T.m_len (by decide +kernel) (pa_cons (xv 1) pa_nil)) (pe_dget (hu_of hr) (pe_disp (pps_cons pe_str pe_int (pps_cons pe_str pe_int (pps_cons pe_str pe_int (pps_cons pe_str pe_int pps_nil)))) (by rfl) (by rfl) (fun z => by cases z) (by decide)) (pe_ix (ix_k K) (xv 1) pe_int (fun _ _ => rfl)) (fun _ _ => rfl)) (nomark _))
      (pss_one (ps_ret (pe_tup (pa_cons pe_str (pa_cons (xv 1) pa_nil)))))
      pss_nil)
      (pss_cons (ps_set (i := 2) sc_due.nd rfl (.inl rfl) (pe_call G_table (hr.mono (by omega)) (by rfl) T.g_table T.F_table.kp T.b_table .nil pass0 (pa_cons (xv 0) pa_nil)))
      (pss_cons (ps_setLc (i := 3) (own := [("_law_row", 11)]) (by rfl) sc_due.nd rfl rfl (sw_true rfl rfl rfl (by decide +kernel)) (pi_listK K (xv 2)) (blkOk_by (N := ["_law_root", "_law_patch", "_law_rows", "_law_found", "_law_node_here", "_law_above", "_law_at", "_law_level", "_law_most", "_law_known", "_law_mark", "_law_row"]) (sc := defScope s_due) (by decide +kernel)) (fun _ _ _ _ _ => (pg_name (i := 11) sc_due.nd rfl (.inl rfl))) (fun _ _ _ _ _ => (pts_one (xt_cmp (op_eqLK K hr.u190) (pe_ix (ix_k K) (pe_ix (ix_k K) (xv 11) pe_int (fun _ _ => rfl)) pe_int (fun _ _ => rfl)) (pe_ix (ix_k K) (xv 1) pe_int (fun _ _ => rfl)) (nomark _)))) (fun _ _ _ _ _ => (xv 11)))
      (pss_cons (xs_if (xt_cmp (op_eqLK K hr.u190) (xv 3) (pe_lst pa_nil) (nomark _))
      (pss_one (ps_ret (pe_tup (pa_cons pe_str (pa_cons (pe_ix (ix_k K) (xv 1) pe_int (fun _ _ => rfl)) pa_nil)))))
      pss_nil)
      (pss_cons (ps_asg (pe_ix (ix_k K) (xv 3) pe_int (fun _ _ => rfl)) (pg_tupK K 4 (pgs_cons (pg_name (i := 4) sc_due.nd rfl (.inl rfl)) (pgs_cons (pg_name (i := 5) sc_due.nd rfl (.inr rfl)) (pgs_cons (pg_name (i := 6) sc_due.nd rfl (.inl rfl)) (pgs_cons (pg_name (i := 7) sc_due.nd rfl (.inl rfl)) pgs_nil))))))
      (xss_cut (xs_if (PW.pt (xw_and (xt_cmp op_isN (xv 5) pe_non (nomark _)) (pw_and1 (xt_cmp (in_seqK K) (pe_ix (ix_k K) (xv 1) pe_int (fun _ _ => rfl)) (pe_lst (pa_cons pe_str (pa_cons pe_str pa_nil))) (by rfl)))))
      (pss_one (ps_ret (pe_tup (pa_cons pe_str (pa_cons (pe_ix (ix_k K) (xv 1) pe_int (fun _ _ => rfl)) pa_nil)))))
      pss_nil)
      (pss_cons (xs_if (PW.pt (xw_or (xt_cmp (op_eqLK K hr.u190) (pe_ix (ix_k K) (xv 1) pe_int (fun _ _ => rfl)) pe_str (nomark _)) (pw_or1 (xt_cmp (op_eqLK K hr.u190) (pe_ix (ix_k K) (xv 1) pe_int (fun _ _ => rfl)) pe_str (nomark _)))))
      (pss_one (ps_ret (pe_tup (pa_cons pe_str (pa_cons pe_str pa_nil)))))
      pss_nil)
      (pss_cons (ps_set (i := 8) sc_due.nd rfl (.inl rfl) (pe_callB (cr_lenK K) (by rfl) T.m_len (by decide +kernel) (pa_cons (pe_ix (ix_k K) (xv 4) pe_int (fun _ _ => rfl)) pa_nil)))
      (pss_cons (xs_if (xt_cmp (op_eqLK K hr.u190) (pe_ix (ix_k K) (xv 1) pe_int (fun _ _ => rfl)) pe_str (nomark _))
      (pss_one (ps_set (i := 8) sc_due.nd rfl (.inl rfl) (pe_op op_subY (pe_callB (cr_lenK K) (by rfl) T.m_len (by decide +kernel) (pa_cons (pe_lc (own := [("_law_row", 11)]) (by rfl) sc_due.nd (pi_listK K (xv 2)) (blkOk_by (N := ["_law_root", "_law_patch", "_law_rows", "_law_found", "_law_node_here", "_law_above", "_law_at", "_law_level", "_law_most", "_law_known", "_law_mark", "_law_row"]) (sc := defScope s_due) (by decide +kernel)) (fun _ _ _ _ _ => (pg_name (i := 11) sc_due.nd rfl (.inl rfl))) (fun _ _ _ _ _ => (pts_one (xt_cmp (op_eqLK K hr.u190) (pe_ix (ix_k K) (xv 11) pe_int (fun _ _ => rfl)) (xv 5) (nomark _)))) (fun _ _ _ _ _ => (xv 11))) pa_nil)) pe_int)))
      pss_nil)
      (pss_cons (xs_if (PW.pt (xw_or (xt_cmp op_ltY (pe_ix (ix_k K) (xv 1) pe_int (fun _ _ => rfl)) pe_int (nomark _)) (pw_or1 (xt_cmp op_gtY (pe_ix (ix_k K) (xv 1) pe_int (fun _ _ => rfl)) (xv 8) (nomark _)))))
      (pss_one (ps_ret (pe_tup (pa_cons pe_str (pa_cons (pe_ix (ix_k K) (xv 1) pe_int (fun _ _ => rfl)) pa_nil)))))
      pss_nil)
      (pss_cons (xs_if (xt_cmp (op_eqLK K hr.u190) (pe_ix (ix_k K) (xv 1) pe_int (fun _ _ => rfl)) pe_str (nomark _))
      (pss_one (ps_ret (pe_tup (pa_cons pe_str (pa_cons pe_str pa_nil)))))
      pss_nil)
      (pss_cons (ps_setLc (i := 9) (own := [("_law_row", 11)]) (by rfl) sc_due.nd rfl rfl (sw_true rfl rfl rfl (by decide +kernel)) (pi_listK K (xv 2)) (blkOk_by (N := ["_law_root", "_law_patch", "_law_rows", "_law_found", "_law_node_here", "_law_above", "_law_at", "_law_level", "_law_most", "_law_known", "_law_mark", "_law_row"]) (sc := defScope s_due) (by decide +kernel)) (fun _ _ _ _ _ => (pg_name (i := 11) sc_due.nd rfl (.inl rfl))) (fun _ _ _ _ _ => pts_nil) (fun _ _ _ _ _ => (pe_ix (ix_k K) (pe_ix (ix_k K) (xv 11) pe_int (fun _ _ => rfl)) pe_int (fun _ _ => rfl))))
      (pss_cons (ps_for PassesOwn.never rfl (pi_listK K (pe_call G_marked (hr.mono (by omega)) (by rfl) T.g_marked T.F_marked.kp T.b_marked .nil pass0 (pa_cons (pe_ix (ix_k K) (xv 1) pe_int (fun _ _ => rfl)) pa_nil))) (pg_name (i := 10) sc_due.nd rfl (.inl rfl))
      (pss_cons (xs_if (xt_cmp (in_seqK K) (xv 10) (xv 9) (by rfl))
      (pss_one (ps_ret (pe_tup (pa_cons pe_str (pa_cons (xv 10) pa_nil)))))
      pss_nil)
      (pss_one (ps_expr (pe_bmK K PySem.F.plainAttrs_list PySem.F.slot_list_append PySem.F.type_list_append mt_append (xv 9) (pa_cons (xv 10) pa_nil))))))
      (pss_cons (xs_if (xt_cmp op_gtY (pe_callB (cr_lenK K) (by rfl) T.m_len (by decide +kernel) (pa_cons (xv 9) pa_nil)) pe_int (nomark _))
      (pss_one (ps_ret (pe_tup (pa_cons pe_str (pa_cons (pe_callB (cr_lenK K) (by rfl) T.m_len (by decide +kernel) (pa_cons (xv 9) pa_nil)) pa_nil)))))
      pss_nil)
      (pss_one (ps_ret (pe_tup (pa_cons pe_str (pa_cons pe_str pa_nil)))))))))))))))))))), ?_⟩
    obtain ⟨b, ws, rfl, hb, hws⟩ := id (pt_at hu)
    have hb2 := S.t hb
    refine ⟨_, .inr hb2, ff, fun _ => ?_⟩
    refine ⟨_, _, .inr hb2, atI_nat (j := 0) rfl, sz, fun L nL => ?_⟩
    obtain ⟨G1, s1, S1, hL⟩ := Sep.mk (o := .lst [.str "drop", .str "put", .str "move", .str "say"]) S nL
    refine ⟨L, _, rfl, .inl (SqL.of (S1.st hL)), rfl, by decide, ?_⟩
    have win : inV (.str (wd p)) [V.str "drop", .str "put", .str "move", .str "say"] = true := by
      cases p with
      | drop m => show inV (.str "drop") [V.str "drop", .str "put", .str "move", .str "say"] = true; decide +kernel
      | put m i t => show inV (.str "put") [V.str "drop", .str "put", .str "move", .str "say"] = true; decide +kernel
      | move m i => show inV (.str "move") [V.str "drop", .str "put", .str "move", .str "say"] = true; decide +kernel
      | say m l => show inV (.str "say") [V.str "drop", .str "put", .str "move", .str "say"] = true; decide +kernel
    rw [win]
    refine ⟨ff, fun _ => ?_⟩
    have hb1 := same_t s1 hb
    refine ⟨_, .inr (S1.t hb1), fun D nD => ?_⟩
    have X1 := S1.new (o := .dK []) nD
    refine ⟨X1.hd, [(Sum.inr "drop", .int 2), (Sum.inr "put", .int 4), (Sum.inr "move", .int 3), (Sum.inr "say", .int 3)], rfl, by decide, ?_⟩
    obtain ⟨G2, s2, S2, hD⟩ := Sep.keep (X1.set (o' := .dK (mergeK [] [(Sum.inr "drop", .int 2), (Sum.inr "put", .int 4), (Sum.inr "move", .int 3), (Sum.inr "say", .int 3)])))
    have hb2 := same_t s2 hb1
    have ev : valV (mergeK [] [((Sum.inr "drop" : Key), V.int 2), (Sum.inr "put", .int 4), (Sum.inr "move", .int 3), (Sum.inr "say", .int 3)]) (Sum.inr (wd p)) = some (.int (nP p : Nat)) := by cases p <;> rfl
    have dg := DGet.k (k := Sum.inr (wd p)) (S2.st hD)
    rw [ev] at dg
    have wl := dpa_len hws
    have rl := rsD_len p
    refine ⟨_, _, .inr (S2.t hb2), atI_nat (j := 0) rfl, D, _, rfl, dg, fun e2 => ?_, fun _ => ?_⟩
    · rw [decide_eq_true (by rw [List.length_cons, List.length_cons]; omega)] at e2
      exact nomatch e2
    have gl := gt.ln
    refine ⟨G2, M, v, t, rfl, S2, dp_same (s1.trans s2) hv, by omega, fun l us G3 H3 s3 hl hus S3 => ?_⟩
    have hb3 := same_t s3 hb2
    refine ⟨l, rfl, ⟨_, SqL.of (S3.st hl)⟩, fun F nF => lc_list (xs := us) (fun i H' => ∃ (vs : List V) (rs : List Rw), vs.length ≤ i ∧ Paired (RwAt K G3) vs rs ∧ (∀ r ∈ rs, r ∈ tb none 0 1 t ∧ mrk r.1 = pmk p) ∧ ((∃ c ∈ (pre t).take i, mrk c = pmk p) → rs ≠ []) ∧ Sep G3 ((F, .lst vs) :: M) H') ⟨[], [], Nat.le_refl _, .nil, (fun c h => nomatch h), (fun ⟨c, h, _⟩ => by simp at h), S3.new nF⟩ (fun i H' _ pv => ?_) (fun i y H' hy pv => ?_) (fun H' pv => ?_)⟩
    · obtain ⟨_, _, _, _, _, _, S'⟩ := pv
      exact SqL.of (S'.st hl)
    · obtain ⟨vs, rs, vl, hvs, hrs, hne, S4⟩ := pv
      obtain ⟨r, hr', a, v1, rfl, ha, hv1⟩ := prd_get hus hy
      have hc : (pre t)[i]? = some r.1 := by
        rw [← tb_pre none 0 1 t, List.getElem?_map, hr']
        rfl
      obtain ⟨a0, kv, kus, rfl, ha0, hkv, hkus⟩ := id (node_at hv1)
      have il := (List.getElem?_eq_some_iff.mp hc).1
      refine ⟨rfl, _, _, .inr (SqT.of (S4.st ha)), atI_nat (j := 0) rfl, _, _, .inr (S4.t ha0), atI_nat (j := 0) rfl, _, _, .inr (S4.t hb3), atI_nat (j := 1) rfl, tst (fun e => ?_) (fun e => ?_)⟩
      · refine ⟨vs, S4.hd, smallL (by omega), vs ++ [.ref a], rs ++ [r], by rw [List.length_append]; exact Nat.succ_le_succ vl, prd_app hvs (.cons ⟨a, _, rfl, ha, hv1⟩ .nil), fun c hc2 => ?_, fun _ => by simp, S4.set⟩
        rcases List.mem_append.mp hc2 with h | h
        · exact hrs c h
        · rw [List.mem_singleton.mp h]
          exact ⟨List.mem_of_getElem? hr', of_decide_eq_true e⟩
      · refine ⟨vs, rs, by omega, hvs, hrs, fun ⟨c, h1, h2⟩ => hne ⟨c, ?_, h2⟩, S4⟩
        rw [take_snoc hc] at h1
        rcases List.mem_append.mp h1 with h | h
        · exact h
        · rw [List.mem_singleton.mp h] at h2
          exact absurd h2 (of_decide_eq_false e)
    obtain ⟨vs, rs, vl, hvs, hrs, hne, S4⟩ := pv
    have ul := prd_len hus
    rw [tb_len] at ul
    obtain ⟨c0, hc0, e0⟩ := List.mem_map.mp (fits_in ft)
    have n0 := hne ⟨c0, by rw [List.take_of_length_le (by omega)]; exact hc0, e0⟩
    obtain ⟨r, rr, rfl⟩ := List.exists_cons_of_ne_nil n0
    have hds := rws_dp hvs
    refine ⟨sz, fun N nN => ?_⟩
    obtain ⟨G5, s5, S5, hN⟩ := Sep.mk (o := .lst []) S4 nN
    have rlay : ∀ d ∈ (r :: rr).map rwD, d.canLay0 = true ∧ d.depth ≤ 125 := fun d hd => by
      obtain ⟨r', hr', e⟩ := List.mem_map.mp hd
      exact e ▸ rw_lay gt.ok (hrs r' hr').1
    refine ⟨.list ((r :: rr).map rwD), .list [], .lst (SqL.of S5.hd) (dpa_same (s5.trans S5.1) hds), .lst (SqL.of (S5.st hN)) .nil, by simp only [PyData.canLay0]; exact layAll fun d hd => (rlay d hd).1, rfl, ?_, ?_⟩
    · have := depthAll_le (n := 125) fun d hd => (rlay d hd).2
      simp only [PyData.depth]
      omega
    rw [show PyData.eqv (.list ((r :: rr).map rwD)) (.list []) = false by simp [PyData.eqv, PyData.eqvAll]]
    refine ⟨ff, fun _ => ?_⟩
    have hvs5 := rws_same s5 hvs
    cases hvs5 with
    | @cons x0 _ vs0 _ hx hvr =>
    obtain ⟨a, v1, rfl, ha, hv1⟩ := hx
    obtain ⟨a0, kv, kus, rfl, ha0, hkv, hkus⟩ := id (node_at hv1)
    obtain ⟨hr1, hr2⟩ := hrs r List.mem_cons_self
    have hb5 := same_t s5 hb3
    refine ⟨_, _, .inl (SqL.of S5.hd), atI_nat (j := 0) rfl, a, _, rfl, SqT.of (S5.st ha), rfl, _, _, rfl, _, _, rfl, _, _, rfl, _, _, rfl, rfl, ?_⟩
    have hup : (wd p = "drop" ∨ wd p = "move") → oV r.2.1 ≠ .non := fun hw => by
      rcases tb_at none 0 1 t r hr1 with ⟨et, eu, _⟩ | ⟨pq, hpq, hk, eu⟩
      · exfalso
        rw [et] at hr2
        cases p with
        | drop m => exact ft.2 hr2.symm
        | put m i s => exact hw.elim (fun h => absurd h (show ("put" : Str) ≠ "drop" by decide +kernel)) (fun h => absurd h (show ("put" : Str) ≠ "move" by decide +kernel))
        | say m l => exact hw.elim (fun h => absurd h (show ("say" : Str) ≠ "drop" by decide +kernel)) (fun h => absurd h (show ("say" : Str) ≠ "move" by decide +kernel))
        | move m i =>
          obtain ⟨q1, h1, d, h2, h3, _⟩ := ft
          have hd : d ∈ pre t := pre_trans t h1 (kid_pre h2)
          obtain rfl : t = d := mrk_inj gt.nd (self_pre t) hd (hr2.trans h3.symm)
          have l1 := hgt_kid h2
          have l2 := pre_hgt t h1
          omega
      · rw [eu]
        exact fun h => nomatch h
    refine ⟨fun σ H6 => ∃ (G6 : Hp), σ = [some v, some (.ref b), some (.ref l), some (.ref F), some (.ref a0), some (oV r.2.1), some (.int (r.2.2.1 : Nat)), some (.int (r.2.2.2 : Nat)), none, none, none, none] ∧ Same G5 G6 ∧ Sep G6 M H6, ?_, fun σ H6 hj => ?_⟩
    · have S5' := S5.drop
      refine ⟨rfl, fun e => ⟨_, _, .inr (S5'.t hb5), atI_nat (j := 0) rfl, sz, fun N2 nN2 => ?_⟩, fun _ => ⟨ff, fun _ => ⟨G5, rfl, Same.refl _, S5'⟩⟩⟩
      have e2 : oV r.2.1 = .non := of_decide_eq_true e
      obtain ⟨G6, s6, S6, hN2⟩ := Sep.mk (o := .lst [.str "drop", .str "move"]) S5' nN2
      refine ⟨N2, _, rfl, .inl (SqL.of (S6.st hN2)), rfl, by decide, ?_⟩
      have win2 : inV (.str (wd p)) [V.str "drop", .str "move"] = false := by
        cases p with
        | drop m => exact absurd e2 (hup (.inl rfl))
        | put m i t => show inV (.str "put") [V.str "drop", .str "move"] = false; decide +kernel
        | move m i => exact absurd e2 (hup (.inr rfl))
        | say m l => show inV (.str "say") [V.str "drop", .str "move"] = false; decide +kernel
      rw [win2]
      exact ⟨ff, fun _ => ⟨G6, rfl, s6, S6⟩⟩
    obtain ⟨G6, rfl, s6, S6⟩ := hj
    have hb6 := same_t s6 hb5
    have s06 : Same G G6 := s1.trans (s2.trans (s3.trans (s5.trans s6)))
    refine ⟨_, _, .inr (S6.t hb6), atI_nat (j := 0) rfl, fun e1 => ?_, fun e1 => ?_⟩
    · refine ⟨fun _ => ⟨sz, fun y ny => ?_⟩, tt⟩
      obtain ⟨G7, s7, S7, hy⟩ := Sep.mk (o := .tup [.str "ok", .str ""]) S6 ny
      exact q y G7 _ (s06.trans s7) hy S7
    refine ⟨_, _, .inr (S6.t hb6), atI_nat (j := 0) rfl, fun e2 => ⟨sz, fun y ny => ?_⟩, fun e2 => ?_⟩
    · obtain ⟨G7, s7, S7, hy⟩ := Sep.mk (o := .tup [.str "ok", .str ""]) S6 ny
      exact q y G7 _ (s06.trans s7) hy S7
    have ha06 := same_t s6 ha0
    have hkv6 := same_t s6 hkv
    refine ⟨_, _, .inr (S6.t ha06), atI_nat (j := 2) rfl, _, .inr (S6.t hkv6), ?_⟩
    cases p with
    | drop m => exact absurd rfl (of_decide_eq_false e1)
    | say m l => exact absurd rfl (of_decide_eq_false e2)
    | put m i s =>
      obtain ⟨qn, hqn, eqn, hi, ndn, lnn⟩ := ft
      obtain rfl : qn = r.1 := mrk_inj gt.nd hqn (by rw [← tb_pre none 0 1 t]; exact List.mem_map_of_mem hr1) (eqn.trans hr2.symm)
      obtain ⟨x1, r1, rfl, h3, h4⟩ := dpa_cons hws
      obtain ⟨x2, r2, rfl, h5, h6⟩ := dpa_cons h4
      cases h6
      cases dp_int h3
      have kl := dpa_len hkus
      rw [List.length_map] at kl
      refine ⟨_, _, .inr (S6.t hb6), atI_nat (j := 0) rfl, fun e3 => absurd (of_decide_eq_true e3) (show ("put" : Str) ≠ "move" by decide +kernel), fun _ => ?_⟩
      refine ⟨_, _, .inr (S6.t hb6), atI_nat (j := 2) rfl, fun e4 => ?_, fun _ => ⟨_, _, .inr (S6.t hb6), atI_nat (j := 2) rfl, fun e4 => ?_, fun _ => ?_⟩⟩
      · have := of_decide_eq_true e4
        omega
      · have := of_decide_eq_true e4
        omega
      refine ⟨_, _, .inr (S6.t hb6), atI_nat (j := 0) rfl, fun e3 => absurd (of_decide_eq_true e3) (show ("put" : Str) ≠ "move" by decide +kernel), fun _ => ?_⟩
      have s36 := s5.trans s6
      have hus6 := rws_same s36 hus
      have ms : (tb none 0 1 t).map (fun r => mrk r.1) = (pre t).map mrk := by rw [← tb_pre none 0 1 t, List.map_map]; rfl
      have pl : ((pre t).map mrk).length = (pre t).length := List.length_map _
      refine ⟨l, rfl, ⟨_, SqL.of (S6.st (s36 _ _ hl))⟩, fun W nW => lc_list (xs := us) (fun i H' => Sep G6 ((W, .lst ((((pre t).map mrk).take i).map V.str)) :: M) H') (S6.new nW) (fun i H' _ pv => SqL.of (pv.st (s36 _ _ hl))) (fun i y H' hy pv => ?_) (fun H' pv => ?_)⟩
      · obtain ⟨r2, hr', a2, v2, rfl, ha2, hv2⟩ := prd_get hus6 hy
        have hc : ((pre t).map mrk)[i]? = some (mrk r2.1) := by
          rw [← ms, List.getElem?_map, hr']
          rfl
        have il := (List.getElem?_eq_some_iff.mp hc).1
        obtain ⟨a3, kv3, kus3, rfl, ha3, _⟩ := id (node_at hv2)
        refine ⟨rfl, _, _, .inr (SqT.of (pv.st ha2)), atI_nat (j := 0) rfl, _, _, .inr (pv.t ha3), atI_nat (j := 0) rfl, _, pv.hd, by rw [List.length_map, List.length_take]; exact smallL (by omega), ?_⟩
        rw [take_snoc hc, List.map_append]
        exact pv.set
      rw [List.take_of_length_le (by rw [pl, ← tb_len none 0 1 t, ← prd_len hus6]; exact Nat.le_refl _)] at pv
      refine ⟨_, _, .inr (pv.t hb6), atI_nat (j := 3) rfl, G6, _, x2, s, rfl, pv, dp_same s06 h5, by omega, fun lm G8 H8 s8 hlm S8 => ?_⟩
      refine ⟨lm, rfl, ⟨_, SqL.of (S8.st hlm)⟩, for_list (xs := ((pre s).map mrk).map V.str) (fun i σ H' => ∃ (y10 : Option V), σ = [some v, some (.ref b), some (.ref l), some (.ref F), some (.ref a0), some (oV r.2.1), some (.int (r.2.2.1 : Nat)), some (.int (r.2.2.2 : Nat)), some (.int (kus.length : Nat)), some (.ref W), y10, none] ∧ Sep G8 ((W, .lst (((pre t).map mrk ++ ((pre s).map mrk).take i).map V.str)) :: M) H') ⟨_, rfl, by rw [List.take_zero, List.append_nil]; exact S8⟩ (fun i σ H' _ h => ?_) (fun i y σ H' hy h => ?_) (fun σ H' h => ?_)⟩
      · obtain ⟨_, _, S'⟩ := h
        exact SqL.of (S'.st hlm)
      · obtain ⟨y10, rfl, S9⟩ := h
        rw [List.getElem?_map] at hy
        obtain ⟨z, hz, rfl⟩ := Option.map_eq_some_iff.mp hy
        have il := (List.getElem?_eq_some_iff.mp hz).1
        rw [List.length_map] at il
        have ln : ((((pre t).map mrk ++ ((pre s).map mrk).take i).map V.str)).length ≤ 800 := by
          rw [List.length_map, List.length_append, List.length_take, List.length_map, List.length_map]
          omega
        have no : z ∉ (pre t).map mrk ++ ((pre s).map mrk).take i := fun hm => by
          have cut := take_snoc hz
          have n2 : ((pre t).map mrk ++ ((pre s).map mrk).take (i + 1)).Nodup := ndn.sublist (List.Sublist.append_left (List.take_sublist _ _) _)
          rw [cut, ← List.append_assoc] at n2
          exact (List.nodup_append.mp n2).2.2 z hm z (List.mem_singleton.mpr rfl) rfl
        refine ⟨W, _, rfl, .inl (SqL.of S9.hd), rfl, by rw [List.all_map]; exact List.all_eq_true.mpr fun _ _ => rfl, ?_⟩
        rw [inV_str, decide_eq_false no]
        refine ⟨ff, fun _ => ?_⟩
        refine ⟨.inl ⟨rfl, _, SqL.of S9.hd⟩, W, _, .str z, rfl, rfl, S9.hd, Nat.lt_of_le_of_lt ln (show 800 < sizeLine by decide), _, rfl, ?_⟩
        rw [take_snoc hz, ← List.append_assoc, List.map_append]
        exact S9.set
      obtain ⟨y10, rfl, S9⟩ := h
      rw [List.take_of_length_le (by rw [List.length_map, List.length_map, List.length_map]; exact Nat.le_refl _)] at S9
      refine ⟨_, .inl (SqL.of S9.hd), fun e5 => ?_, fun _ => ⟨sz, fun y ny => ?_⟩⟩
      · have := of_decide_eq_true e5
        rw [List.length_map, List.length_append, List.length_map, List.length_map] at this
        omega
      obtain ⟨G9, s9, S10, hy⟩ := Sep.mk (o := .tup [.str "ok", .str ""]) S9.drop ny
      exact q y G9 _ (s06.trans (s8.trans s9)) hy S10
    | move m i =>
      obtain ⟨q1, h1m, c1, hc1, em, hi⟩ := ft
      obtain ⟨x1, r1, rfl, h3, h4⟩ := dpa_cons hws
      cases h4
      cases dp_int h3
      obtain ⟨r0, u0, i0, l0⟩ := r
      have rt : r0 ∈ pre t := by
        rw [← tb_pre none 0 1 t]
        exact List.mem_map.mpr ⟨_, hr1, rfl⟩
      have hup2 : oV u0 ≠ .non := hup (.inr rfl)
      rcases tb_at none 0 1 t _ hr1 with ⟨_, eu, _⟩ | ⟨pq, hpq, hk, eu⟩
      · have eu : u0 = none := eu
        rw [eu] at hup2
        exact absurd rfl hup2
      have eu : u0 = some (mrk pq) := eu
      subst eu
      have hk : (kids pq)[i0]? = some r0 := hk
      have ep : pq = q1 := by
        obtain ⟨σ, hσ⟩ := pre_sub t hpq
        obtain ⟨τ, hτ⟩ := pre_sub t h1m
        obtain ⟨j, hj⟩ := List.getElem?_of_mem hc1
        obtain ⟨e5, _⟩ := List.append_inj' (path_uniq gt.nd (sub_snoc hσ hk) (sub_snoc hτ hj) (hr2.trans em.symm)) rfl
        rw [e5, hτ] at hσ
        exact (Option.some.inj hσ).symm
      subst ep
      have c1 := kids_le gt.nd hpq
      have s36 := s5.trans s6
      have hus6 := rws_same s36 hus
      refine ⟨_, _, .inr (S6.t hb6), atI_nat (j := 0) rfl, fun _ => ?_, fun e3 => absurd rfl (of_decide_eq_false e3)⟩
      refine ⟨l, rfl, ⟨_, SqL.of (S6.st (s36 _ _ hl))⟩, fun D nD => lc_list (xs := us) (fun i H' => ∃ (vs : List V), vs.length = (((tb none 0 1 t).take i).filter fun r => decide (r.2.1 = some (mrk pq))).length ∧ vs.length ≤ i ∧ Sep G6 ((D, .lst vs) :: M) H') ⟨[], rfl, Nat.le_refl _, S6.new nD⟩ (fun i H' _ pv => ?_) (fun i y H' hy pv => ⟨rfl, ?_⟩) (fun H' pv => ?_)⟩
      · obtain ⟨_, _, _, S'⟩ := pv
        exact SqL.of (S'.st (s36 _ _ hl))
      · obtain ⟨vs, vl, vi, S4⟩ := pv
        obtain ⟨⟨r5, u5, i5, l5⟩, hr5, a5, v5, rfl, ha5, hv5⟩ := prd_get hus6 hy
        have il := (List.getElem?_eq_some_iff.mp hy).1
        have ef : ((tb none 0 1 t).take (i + 1)).filter (fun r => decide (r.2.1 = some (mrk pq))) = ((tb none 0 1 t).take i).filter (fun r => decide (r.2.1 = some (mrk pq))) ++ (if u5 = some (mrk pq) then [(r5, u5, i5, l5)] else []) := by
          rw [take_snoc hr5, List.filter_append]
          congr 1
          by_cases h : u5 = some (mrk pq) <;> simp [h]
        have yes : u5 = some (mrk pq) → ∃ acc, H' D = some (.lst acc) ∧ acc.length < sizeLine ∧ ∃ (vs : List V), vs.length = (((tb none 0 1 t).take (i + 1)).filter fun r => decide (r.2.1 = some (mrk pq))).length ∧ vs.length ≤ i + 1 ∧ Sep G6 ((D, .lst vs) :: M) (upd H' D (.lst (acc ++ [.ref a5]))) := fun h =>
          ⟨vs, S4.hd, smallL (by omega), vs ++ [.ref a5], by rw [ef, if_pos h, List.length_append, List.length_append, vl]; rfl, by rw [List.length_append]; exact Nat.succ_le_succ vi, S4.set⟩
        have nope : u5 ≠ some (mrk pq) → ∃ (vs : List V), vs.length = (((tb none 0 1 t).take (i + 1)).filter fun r => decide (r.2.1 = some (mrk pq))).length ∧ vs.length ≤ i + 1 ∧ Sep G6 ((D, .lst vs) :: M) H' := fun h =>
          ⟨vs, by rw [ef, if_neg h, List.append_nil, vl], by omega, S4⟩
        refine ⟨_, _, .inr (SqT.of (S4.st ha5)), atI_nat (j := 1) rfl, ?_⟩
        cases u5 with
        | none => exact ⟨rfl, tst (fun e => absurd e (by simp [oV])) (fun _ => nope (fun e => nomatch e))⟩
        | some m5 =>
          refine tst (fun e => yes ?_) (fun e => nope fun e2 => ?_)
          · rw [show m5 = mrk pq from of_decide_eq_true e]
          · cases e2
            exact of_decide_eq_false e rfl
      obtain ⟨vs, vl, vi, S4⟩ := pv
      rw [ul, ← tb_len none 0 1 t, List.take_length] at vl
      refine ⟨_, .inl (SqL.of S4.hd), ?_⟩
      refine ⟨_, _, .inr (S4.t hb6), atI_nat (j := 2) rfl, fun e4 => ?_, fun _ => ⟨_, _, .inr (S4.t hb6), atI_nat (j := 2) rfl, fun e4 => ?_, fun _ => ?_⟩⟩
      · have := of_decide_eq_true e4
        omega
      · have := of_decide_eq_true e4
        omega
      refine ⟨_, _, .inr (S4.t hb6), atI_nat (j := 0) rfl, fun _ => ⟨sz, fun y ny => ?_⟩, fun e3 => absurd rfl (of_decide_eq_false e3)⟩
      obtain ⟨G7, s7, S7, hy⟩ := Sep.mk (o := .tup [.str "ok", .str ""]) S4.drop ny
      exact q y G7 _ (s06.trans s7) hy S7

end
end K11
set_option Elab.async false
set_option linter.all false
set_option maxRecDepth 100000
set_option maxHeartbeats 4000000
namespace K11
open PySem PySem.Spec PyProof.Rows L2 XL
/-! ### staying nodes, and the way between two pages -/
def fndT (ds : List Tr) (m : Str) : Option Tr := ds.find? fun d => decide (mrk d = m)
theorem fndT_some {ds : List Tr} {m : Str} {d : Tr} (h : fndT ds m = some d) : d ∈ ds ∧ mrk d = m := by
  unfold fndT at h
  have h2 := List.find?_some h
  exact ⟨List.mem_of_find?_eq_some h, of_decide_eq_true h2⟩
theorem fndT_none {ds : List Tr} {m : Str} (h : fndT ds m = none) : ∀ d ∈ ds, mrk d ≠ m := fun d hd e => by
  have := List.find?_eq_none.mp h d hd
  simp [e] at this
theorem fndT_in : ∀ {ds : List Tr} {d : Tr}, (ds.map mrk).Nodup → d ∈ ds → fndT ds (mrk d) = some d
  | [], _, _, h => nomatch h
  | x :: r, d, nd, h => by
    rw [List.map_cons, List.nodup_cons] at nd
    unfold fndT
    rw [List.find?_cons]
    rcases List.mem_cons.mp h with rfl | h
    · rw [decide_eq_true rfl]
    · rw [decide_eq_false (fun e => nd.1 (by rw [e]; exact List.mem_map_of_mem h))]
      exact fndT_in nd.2 h
theorem kids_ndM {t : Tr} (nd : ((pre t).map mrk).Nodup) : ((kids t).map mrk).Nodup := by
  rw [pre_eq, List.map_cons, List.nodup_cons] at nd
  have go : ∀ ks : List Tr, ((pres ks).map mrk).Nodup → (ks.map mrk).Nodup := by
    intro ks
    induction ks with
    | nil => intro _; exact List.nodup_nil
    | cons k r ih =>
      intro h
      simp only [pres, List.map_append] at h
      obtain ⟨h1, h2, h3⟩ := List.nodup_append.mp h
      rw [List.map_cons, List.nodup_cons]
      refine ⟨fun hm => ?_, ih h2⟩
      obtain ⟨x, hx, e⟩ := List.mem_map.mp hm
      exact h3 (mrk k) (List.mem_map_of_mem (self_pre k)) (mrk k) (by rw [← e]; exact List.mem_map_of_mem (mem_pres.mpr ⟨x, hx, self_pre x⟩)) rfl
  exact go _ nd.2
theorem kid_ndM {t c : Tr} (nd : ((pre t).map mrk).Nodup) (hc : c ∈ kids t) : ((pre c).map mrk).Nodup := by
  obtain ⟨k, hk⟩ := List.mem_iff_getElem?.mp hc
  exact nd_kid nd hk
mutual
def stl : Tr → Tr → List Str
  | .node m _ ks, q => m :: stls ks (kids q)
def stls : List Tr → List Tr → List Str
  | [], _ => []
  | c :: r, ds => (match fndT ds (mrk c) with
    | some d => stl c d
    | none => []) ++ stls r ds
end
mutual
def cut : Tr → Tr → Tr
  | .node m l ks, q => .node m l (cuts ks (kids q))
def cuts : List Tr → List Tr → List Tr
  | [], _ => []
  | c :: r, ds => (match fndT ds (mrk c) with
    | some d => [cut c d]
    | none => []) ++ cuts r ds
end
mutual
def drl : Tr → Tr → List Pt
  | .node _ _ ks, q => drls ks (kids q)
def drls : List Tr → List Tr → List Pt
  | [], _ => []
  | c :: r, ds => (match fndT ds (mrk c) with
    | some d => drl c d
    | none => [.drop (mrk c)]) ++ drls r ds
end
/-! the order of marks, led by moves -/
def mvO (kept : List Nat) (now wan : List Str) : Nat → List Str
  | 0 => now
  | k + 1 => if k ∈ kept then mvO kept now wan k else
    let o := (mvO kept now wan k).erase (wan.getD k "")
    let i := match k with
      | 0 => 0
      | j + 1 => o.idxOf (wan.getD j "") + 1
    o.take i ++ wan.getD k "" :: o.drop i
def mvI (kept : List Nat) (now wan : List Str) (k : Nat) : Nat := match k with
  | 0 => 0
  | j + 1 => ((mvO kept now wan k).erase (wan.getD k "")).idxOf (wan.getD j "") + 1
theorem mvO_kept {kept : List Nat} {now wan : List Str} {k : Nat} (h : k ∈ kept) : mvO kept now wan (k + 1) = mvO kept now wan k := by
  rw [mvO, if_pos h]
theorem mvO_move {kept : List Nat} {now wan : List Str} {k : Nat} (h : k ∉ kept) : mvO kept now wan (k + 1) = ((mvO kept now wan k).erase (wan.getD k "")).take (mvI kept now wan k) ++ wan.getD k "" :: ((mvO kept now wan k).erase (wan.getD k "")).drop (mvI kept now wan k) := by
  rw [mvO, if_neg h]
  cases k <;> rfl
def mvR (kept : List Nat) (now wan : List Str) : Nat → List Pt
  | 0 => []
  | k + 1 => mvR kept now wan k ++ (if k ∈ kept then [] else [.move (wan.getD k "") (mvI kept now wan k)])
/-! a longest run: the program's way -/
def bst (ns ls : List Nat) (k : Nat) : Nat → Nat × Option Nat
  | 0 => (1, none)
  | j + 1 => if ns.getD j 0 < ns.getD k 0 ∧ (bst ns ls k j).1 ≤ ls.getD j 0 then (ls.getD j 0 + 1, some j) else bst ns ls k j
structure RunT where
  ls : List Nat
  es : List (Option Nat)
  la : Option Nat
def tabs (ns : List Nat) : Nat → RunT
  | 0 => ⟨[], [], none⟩
  | k + 1 =>
    let x := tabs ns k
    let b := bst ns x.ls k k
    ⟨x.ls ++ [b.1], x.es ++ [b.2], match x.la with
      | none => some k
      | some a => if x.ls.getD a 0 < b.1 then some k else some a⟩
def bck (es : List (Option Nat)) : Nat → Option Nat → List Nat
  | 0, _ => []
  | _, none => []
  | f + 1, some k => k :: bck es f (es.getD k none)
def lrun (ns : List Nat) : List Nat := (bck (tabs ns ns.length).es ns.length (tabs ns ns.length).la).reverse
def keptK (now wan : List Str) : List Nat := lrun (wan.map fun m => now.idxOf m)
def movesK (now wan : List Str) : List Pt := if now = wan then [] else mvR (keptK now wan) now wan wan.length
def nowK (ks ds : List Tr) : List Str := (ks.filter fun c => (fndT ds (mrk c)).isSome).map mrk
def wanK (ks ds : List Tr) : List Str := (ds.filter fun d => (fndT ks (mrk d)).isSome).map mrk
def putsI (m : Str) (ks : List Tr) : Nat → List Tr → List Pt
  | _, [] => []
  | i, d :: r => (if (fndT ks (mrk d)).isSome then [] else [.put m i d]) ++ putsI m ks (i + 1) r
def ndRows (p q : Tr) : List Pt := (if lbl p = lbl q then [] else [.say (mrk p) (lbl q)]) ++ movesK (nowK (kids p) (kids q)) (wanK (kids p) (kids q)) ++ putsI (mrk p) (kids p) 0 (kids q)
mutual
def rwl : Tr → Tr → List Pt
  | .node m l ks, q => ndRows (.node m l ks) q ++ rwls ks (kids q)
def rwls : List Tr → List Tr → List Pt
  | [], _ => []
  | c :: r, ds => (match fndT ds (mrk c) with
    | some d => rwl c d
    | none => []) ++ rwls r ds
end
def btw (s t : Tr) : List Pt := drl s t ++ rwl s t
theorem stl_eq (p q : Tr) : stl p q = mrk p :: stls (kids p) (kids q) := by cases p; simp only [stl, mrk, kids]
theorem cut_eq (p q : Tr) : cut p q = .node (mrk p) (lbl p) (cuts (kids p) (kids q)) := by cases p; simp only [cut, mrk, lbl, kids]
theorem drl_eq (p q : Tr) : drl p q = drls (kids p) (kids q) := by cases p; simp only [drl, kids]
theorem rwl_eq (p q : Tr) : rwl p q = ndRows p q ++ rwls (kids p) (kids q) := by cases p; simp only [rwl, kids]
theorem cut_mrk (p q : Tr) : mrk (cut p q) = mrk p := by rw [cut_eq]; rfl
theorem cuts_mem {x : Tr} {ds : List Tr} : ∀ {ks : List Tr}, x ∈ cuts ks ds ↔ ∃ c ∈ ks, ∃ d, fndT ds (mrk c) = some d ∧ x = cut c d
  | [] => by simp [cuts]
  | c :: r => by
    simp only [cuts, List.mem_append, cuts_mem (ks := r)]
    constructor
    · rintro (h | ⟨c', hc', d, h1, h2⟩)
      · cases e : fndT ds (mrk c) with
        | none => rw [e] at h; simp at h
        | some d =>
          rw [e] at h
          exact ⟨c, List.mem_cons_self, d, e, by simpa using h⟩
      · exact ⟨c', List.mem_cons_of_mem _ hc', d, h1, h2⟩
    · rintro ⟨c', hc', d, h1, h2⟩
      rcases List.mem_cons.mp hc' with rfl | hc'
      · left
        rw [h1, h2]
        simp
      · exact .inr ⟨c', hc', d, h1, h2⟩
theorem cuts_marks (ds : List Tr) : ∀ ks : List Tr, (cuts ks ds).map mrk = nowK ks ds
  | [] => rfl
  | c :: r => by
    have ih := cuts_marks ds r
    unfold nowK at ih ⊢
    simp only [cuts, List.map_append, ih, List.filter_cons]
    cases e : fndT ds (mrk c) with
    | none => simp [e]
    | some d => simp [e, cut_mrk]

/-! ### an order of marks that is led to another one -/
theorem take_mid1 {α : Type} (c : α) (b : List α) : ∀ a : List α, (a ++ c :: b).take (a.length + 1) = a ++ [c]
  | [] => by simp
  | x :: r => by
    rw [List.cons_append, List.length_cons, List.take_succ_cons, take_mid1 c b r]
    rfl
theorem drop_mid1 {α : Type} (c : α) (b : List α) : ∀ a : List α, (a ++ c :: b).drop (a.length + 1) = b
  | [] => rfl
  | x :: r => by
    rw [List.cons_append, List.length_cons, List.drop_succ_cons, drop_mid1 c b r]
theorem idxOf_at : ∀ {l : List Str} {i : Nat} {x : Str}, l.Nodup → l[i]? = some x → l.idxOf x = i
  | [], i, x, _, h => by simp at h
  | y :: r, 0, x, _, h => by
    simp at h
    subst h
    simp [List.idxOf_cons]
  | y :: r, i + 1, x, nd, h => by
    rw [List.getElem?_cons_succ] at h
    rw [List.nodup_cons] at nd
    have ne : y ≠ x := fun e => nd.1 (by rw [e]; exact List.mem_of_getElem? h)
    have ih := idxOf_at nd.2 h
    have nb : (y == x) = false := by simpa using ne
    rw [List.idxOf_cons, nb, ih]
    rfl
theorem idxOf_split : ∀ {l : List Str} {x : Str}, x ∈ l → ∃ a b, l = a ++ x :: b ∧ x ∉ a ∧ a.length = l.idxOf x
  | [], x, h => nomatch h
  | y :: r, x, h => by
    by_cases e : y = x
    · subst e
      exact ⟨[], r, rfl, by simp, by simp [List.idxOf_cons]⟩
    · have h : x ∈ r := by
        rcases List.mem_cons.mp h with h | h
        · exact absurd h.symm e
        · exact h
      obtain ⟨a, b, h1, h2, h3⟩ := idxOf_split h
      have nb : (y == x) = false := by simpa using e
      refine ⟨y :: a, b, by rw [h1]; rfl, ?_, by rw [List.idxOf_cons, nb, ← h3]; rfl⟩
      intro hm
      rcases List.mem_cons.mp hm with hm | hm
      · exact e hm.symm
      · exact h2 hm
theorem nd_pairI {l : List Str} (nd : l.Nodup) : l.Pairwise fun a b => l.idxOf a < l.idxOf b := by
  rw [List.pairwise_iff_getElem]
  intro i j hi hj hij
  rw [idxOf_at nd (List.getElem?_eq_getElem hi), idxOf_at nd (List.getElem?_eq_getElem hj)]
  exact hij
theorem split_uniq {x : Str} : ∀ {a c b d : List Str}, a ++ x :: b = c ++ x :: d → x ∉ a → x ∉ c → a = c ∧ b = d
  | [], [], b, d, h, _, _ => ⟨rfl, by simpa using h⟩
  | [], y :: c, b, d, h, _, h2 => by
    rw [List.nil_append, List.cons_append] at h
    exact absurd (by rw [(List.cons.inj h).1]; exact List.mem_cons_self) h2
  | y :: a, [], b, d, h, h1, _ => by
    rw [List.nil_append, List.cons_append] at h
    exact absurd (by rw [(List.cons.inj h).1]; exact List.mem_cons_self) h1
  | y :: a, z :: c, b, d, h, h1, h2 => by
    rw [List.cons_append, List.cons_append] at h
    obtain ⟨e, h⟩ := List.cons.inj h
    obtain ⟨e1, e2⟩ := split_uniq h (fun m => h1 (List.mem_cons_of_mem _ m)) (fun m => h2 (List.mem_cons_of_mem _ m))
    exact ⟨by rw [e, e1], e2⟩
theorem erase_no {l : List Str} {x : Str} (nd : l.Nodup) : x ∉ l.erase x := fun h => by
  rw [nd.mem_erase_iff] at h
  exact h.1 rfl
/-- those that stand in order behind k rounds -/
theorem nd_mem_erase {l : List Str} {x y : Str} (nd : l.Nodup) (h : y ≠ x) : y ∈ l.erase x ↔ y ∈ l := by
  rw [nd.mem_erase_iff]
  exact ⟨fun z => z.2, fun z => ⟨h, z⟩⟩
def inA (K : List Nat) (wan : List Str) (k : Nat) (m : Str) : Bool := decide (wan.idxOf m < k) || decide (wan.idxOf m ∈ K)
theorem insS_perm {l : List Str} {x : Str} (i : Nat) : (l.take i ++ x :: l.drop i).Perm (x :: l) := by
  have := (List.perm_middle (a := x) (l₁ := l.take i) (l₂ := l.drop i))
  rw [List.take_append_drop] at this
  exact this
theorem mvO_perm {K : List Nat} {now wan : List Str} (hp : now.Perm wan) : ∀ k, k ≤ wan.length → (mvO K now wan k).Perm wan
  | 0, _ => hp
  | k + 1, hk => by
    have ih := mvO_perm (K := K) hp k (by omega)
    by_cases h : k ∈ K
    · rw [mvO_kept h]
      exact ih
    · rw [mvO_move h]
      have hw : wan.getD k "" ∈ wan := by
        rw [List.getD_eq_getElem?_getD, List.getElem?_eq_getElem (show k < wan.length by omega)]
        exact List.getElem_mem _
      exact (insS_perm _).trans ((List.perm_cons_erase (ih.mem_iff.mpr hw)).symm.trans ih)
theorem mvO_inv {K : List Nat} {now wan : List Str} (nd : wan.Nodup) (hp : now.Perm wan) (asc : ∀ a ∈ K, ∀ b ∈ K, a < b → now.idxOf (wan.getD a "") < now.idxOf (wan.getD b "")) : ∀ k, k ≤ wan.length →
    (mvO K now wan k).filter (inA K wan k) = wan.filter (inA K wan k)
  | 0, _ => by
    have ndn := hp.nodup_iff.mpr nd
    refine List.Perm.eq_of_pairwise (le := fun a b => now.idxOf a < now.idxOf b) (fun a b _ _ h1 h2 => by omega) ((nd_pairI ndn).sublist List.filter_sublist) ?_ (hp.filter _)
    have h1 := (nd_pairI nd).sublist (List.filter_sublist (p := inA K wan 0))
    refine List.Pairwise.imp_of_mem ?_ h1
    intro a b ha hb hab
    obtain ⟨ha1, ha2⟩ := List.mem_filter.mp ha
    obtain ⟨hb1, hb2⟩ := List.mem_filter.mp hb
    unfold inA at ha2 hb2
    simp only [Nat.not_lt_zero, decide_false, Bool.false_or, decide_eq_true_eq] at ha2 hb2
    have g : ∀ x ∈ wan, wan.getD (wan.idxOf x) "" = x := fun x hx => by
      obtain ⟨u, v, e1, e2, e3⟩ := idxOf_split hx
      rw [← e3, List.getD_eq_getElem?_getD]
      conv => lhs; rw [e1]
      simp
    have := asc _ ha2 _ hb2 hab
    rw [g a ha1, g b hb1] at this
    exact this
  | k + 1, hk => by
    have ih := mvO_inv nd hp asc k (by omega)
    have po := mvO_perm (K := K) hp k (by omega)
    have ndo := po.nodup_iff.mpr nd
    have hwk : wan[k]? = some (wan.getD k "") := by
      rw [List.getD_eq_getElem?_getD, List.getElem?_eq_getElem (show k < wan.length by omega)]
      rfl
    have hiw := idxOf_at nd hwk
    have hw := List.mem_of_getElem? hwk
    generalize hwv : wan.getD k "" = w at *
    by_cases h : k ∈ K
    · rw [mvO_kept h]
      have e : ∀ m, inA K wan (k + 1) m = inA K wan k m := fun m => by
        unfold inA
        by_cases e1 : wan.idxOf m = k
        · rw [e1]
          simp [h]
        · have : (wan.idxOf m < k + 1) ↔ (wan.idxOf m < k) := by omega
          simp only [this]
      rw [show inA K wan (k + 1) = inA K wan k from funext e]
      exact ih
    · rw [mvO_move h, hwv]
      have aw : inA K wan k w = false := by
        unfold inA
        rw [hiw]
        simp [h]
      have aw1 : inA K wan (k + 1) w = true := by
        unfold inA
        rw [hiw]
        simp
      have am : ∀ m ∈ wan, m ≠ w → inA K wan (k + 1) m = inA K wan k m := fun m hm hne => by
        unfold inA
        have : wan.idxOf m ≠ k := fun e => by
          obtain ⟨u, v, e1, e2, e3⟩ := idxOf_split hm
          rw [e] at e3
          rw [e1, List.getElem?_append_right (by omega), e3, Nat.sub_self] at hwk
          exact hne (by simpa using hwk)
        have : (wan.idxOf m < k + 1) ↔ (wan.idxOf m < k) := by omega
        simp only [this]
      have filt : ∀ l : List Str, (∀ m ∈ l, m ∈ wan) → w ∉ l → l.filter (inA K wan (k + 1)) = l.filter (inA K wan k) := fun l h1 h2 =>
        List.filter_congr fun m hm => am m (h1 m hm) fun e => h2 (e ▸ hm)
      -- the wanted side
      obtain ⟨ew1, _⟩ := take_pre hwk
      have ndw := nd
      rw [ew1] at ndw
      have tk : ∀ m ∈ wan.take k, inA K wan k m = true := fun m hm => by
        obtain ⟨i, hi⟩ := List.mem_iff_getElem?.mp hm
        have il := (List.getElem?_eq_some_iff.mp hi).1
        rw [List.length_take] at il
        rw [List.getElem?_take_of_lt (by omega)] at hi
        unfold inA
        rw [idxOf_at nd hi, decide_eq_true (show i < k by omega)]
        rfl
      have w1 : w ∉ wan.take k := fun hm => (List.nodup_append.mp ndw).2.2 _ hm _ List.mem_cons_self rfl
      have w2 : w ∉ wan.drop (k + 1) := (List.nodup_cons.mp (List.nodup_append.mp ndw).2.1).1
      have m1 : ∀ m ∈ wan.take k, m ∈ wan := fun m hm => List.mem_of_mem_take hm
      have m2 : ∀ m ∈ wan.drop (k + 1), m ∈ wan := fun m hm => List.mem_of_mem_drop hm
      have eW : wan.filter (inA K wan k) = wan.take k ++ (wan.drop (k + 1)).filter (inA K wan k) := by
        have g : ∀ f : Str → Bool, f w = false → (∀ m ∈ wan.take k, f m = true) → wan.filter f = wan.take k ++ (wan.drop (k + 1)).filter f := fun f f1 f2 => by
          conv => lhs; rw [ew1]
          rw [List.filter_append, List.filter_cons, f1, List.filter_eq_self.mpr f2]
          rfl
        exact g _ aw tk
      have eW1 : wan.filter (inA K wan (k + 1)) = wan.take k ++ w :: (wan.drop (k + 1)).filter (inA K wan k) := by
        have g : ∀ f : Str → Bool, f w = true → wan.filter f = (wan.take k).filter f ++ w :: (wan.drop (k + 1)).filter f := fun f f1 => by
          conv => lhs; rw [ew1]
          rw [List.filter_append, List.filter_cons, f1, if_pos rfl]
        rw [g _ aw1, filt _ m1 w1, filt _ m2 w2, List.filter_eq_self.mpr tk]
      -- the side of the order
      generalize hO : mvO K now wan k = o at *
      have ho : ∀ {m : Str}, m ∈ o ↔ m ∈ wan := po.mem_iff
      have we := erase_no (x := w) ndo
      have me : ∀ m ∈ o.erase w, m ∈ wan := fun m hm => ho.mp (List.mem_of_mem_erase hm)
      have eE : (o.erase w).filter (inA K wan k) = wan.filter (inA K wan k) := by
        rw [← ih]
        obtain ⟨a, b, e1, e2, _⟩ := idxOf_split (ho.mpr hw)
        rw [e1, List.erase_append_right _ e2, List.erase_cons_head, List.filter_append, List.filter_append, List.filter_cons, aw]
        rfl
      rw [eW] at eE
      have nde : (o.erase w).Nodup := ndo.erase _
      rw [eW1, List.filter_append, List.filter_cons, aw1, if_pos rfl]
      cases k with
      | zero =>
        rw [show mvI K now wan 0 = 0 from rfl, List.take_zero, List.drop_zero, filt _ me we, eE]
        simp
      | succ j =>
        have hj : wan[j]? = some (wan.getD j "") := by
          rw [List.getD_eq_getElem?_getD, List.getElem?_eq_getElem (show j < wan.length by omega)]
          rfl
        have ei : mvI K now wan (j + 1) = (o.erase w).idxOf (wan.getD j "") + 1 := by
          show ((mvO K now wan (j + 1)).erase (wan.getD (j + 1) "")).idxOf (wan.getD j "") + 1 = _
          rw [hO, hwv]
        rw [ei]
        generalize hu : wan.getD j "" = u at *
        have um : u ∈ wan := List.mem_of_getElem? hj
        have tkj : wan.take (j + 1) = wan.take j ++ [u] := take_snoc hj
        have une : u ≠ w := fun e => w1 (by rw [← e, tkj]; simp)
        have ue : u ∈ o.erase w := (nd_mem_erase ndo une).mpr (ho.mpr um)
        obtain ⟨a, b, e1, e2, e3⟩ := idxOf_split ue
        have au : inA K wan (j + 1) u = true := tk u (by rw [tkj]; simp)
        have ta : (o.erase w).take ((o.erase w).idxOf u + 1) = a ++ [u] := by
          rw [← e3, e1]
          exact take_mid1 u b a
        have tb : (o.erase w).drop ((o.erase w).idxOf u + 1) = b := by
          rw [← e3, e1]
          exact drop_mid1 u b a
        rw [ta, tb]
        have ma : ∀ m ∈ a ++ [u], m ∈ wan := fun m hm => me m (by rw [e1]; simp at hm ⊢; rcases hm with h | h; exact .inl h; exact .inr (.inl h))
        have mb : ∀ m ∈ b, m ∈ wan := fun m hm => me m (by rw [e1]; simp [hm])
        have wa : w ∉ a ++ [u] := fun hm => we (by rw [e1]; simp at hm ⊢; rcases hm with h | h; exact .inl h; exact .inr (.inl h))
        have wb : w ∉ b := fun hm => we (by rw [e1]; simp [hm])
        rw [filt _ ma wa, filt _ mb wb]
        rw [e1, List.filter_append, List.filter_cons, au, if_pos rfl, tkj, List.append_assoc] at eE
        have ndt := nd.sublist (List.take_sublist (j + 1) wan)
        rw [tkj] at ndt
        obtain ⟨f1, f2⟩ := split_uniq eE (fun hm => e2 (List.mem_filter.mp hm).1) (fun hm => (List.nodup_append.mp ndt).2.2 _ hm _ (List.mem_singleton.mpr rfl) rfl)
        rw [List.filter_append, List.filter_cons, au, if_pos rfl, f1, f2, tkj]
        simp
theorem mvO_end {K : List Nat} {now wan : List Str} (nd : wan.Nodup) (hp : now.Perm wan) (asc : ∀ a ∈ K, ∀ b ∈ K, a < b → now.idxOf (wan.getD a "") < now.idxOf (wan.getD b "")) : mvO K now wan wan.length = wan := by
  have h := mvO_inv nd hp asc wan.length (Nat.le_refl _)
  have po := mvO_perm (K := K) hp wan.length (Nat.le_refl _)
  have all : ∀ m ∈ wan, inA K wan wan.length m = true := fun m hm => by
    unfold inA
    obtain ⟨a, b, e1, e2, e3⟩ := idxOf_split hm
    have hl := congrArg List.length e1
    rw [List.length_append, List.length_cons] at hl
    rw [← e3, decide_eq_true (show a.length < wan.length by omega)]
    rfl
  rw [List.filter_eq_self.mpr all, List.filter_eq_self.mpr fun m hm => all m (po.mem_iff.mp hm)] at h
  exact h

/-! ### the program's longest run is a run -/
theorem bst_ok (ns ls : List Nat) (k : Nat) : ∀ (j : Nat) {x : Nat}, (bst ns ls k j).2 = some x → x < j ∧ ns.getD x 0 < ns.getD k 0
  | 0, x, h => by simp [bst] at h
  | j + 1, x, h => by
    rw [bst] at h
    by_cases c : ns.getD j 0 < ns.getD k 0 ∧ (bst ns ls k j).1 ≤ ls.getD j 0
    · rw [if_pos c] at h
      cases Option.some.inj h
      exact ⟨by omega, c.1⟩
    · rw [if_neg c] at h
      have := bst_ok ns ls k j h
      exact ⟨by omega, this.2⟩
theorem tabs_len (ns : List Nat) : ∀ k, (tabs ns k).ls.length = k ∧ (tabs ns k).es.length = k
  | 0 => ⟨rfl, rfl⟩
  | k + 1 => by
    have ih := tabs_len ns k
    simp only [tabs, List.length_append, List.length_singleton]
    omega
theorem tabs_es (ns : List Nat) : ∀ (k : Nat) {i x : Nat}, (tabs ns k).es[i]? = some (some x) → x < i ∧ ns.getD x 0 < ns.getD i 0
  | 0, i, x, h => by simp [tabs] at h
  | k + 1, i, x, h => by
    have l := (tabs_len ns k).2
    simp only [tabs] at h
    by_cases hi : i < k
    · rw [List.getElem?_append_left (by omega)] at h
      exact tabs_es ns k h
    · have il := (List.getElem?_eq_some_iff.mp h).1
      rw [List.length_append, List.length_singleton] at il
      have ei : i = k := by omega
      subst ei
      rw [List.getElem?_append_right (by omega), l, Nat.sub_self] at h
      have h : (bst ns (tabs ns i).ls i i).2 = some x := by simpa using h
      exact bst_ok ns _ i i h
theorem tabs_la (ns : List Nat) : ∀ (k : Nat) {a : Nat}, (tabs ns k).la = some a → a < k
  | 0, a, h => by simp [tabs] at h
  | k + 1, a, h => by
    simp only [tabs] at h
    cases e : (tabs ns k).la with
    | none =>
      rw [e] at h
      cases Option.some.inj h
      omega
    | some b =>
      rw [e] at h
      have hb := tabs_la ns k e
      simp only [] at h
      split at h
      · cases Option.some.inj h
        omega
      · cases Option.some.inj h
        omega
theorem getD_some {es : List (Option Nat)} {k x : Nat} (h : es.getD k none = some x) : es[k]? = some (some x) := by
  rw [List.getD_eq_getElem?_getD] at h
  cases e : es[k]? with
  | none => rw [e] at h; simp at h
  | some y => rw [e] at h; simp at h; rw [h]
theorem bck_le {ns : List Nat} {es : List (Option Nat)} (he : ∀ i x, es[i]? = some (some x) → x < i ∧ ns.getD x 0 < ns.getD i 0) : ∀ (f : Nat) (o : Option Nat) (k : Nat), o = some k → ∀ y ∈ bck es f o, y = k ∨ (y < k ∧ ns.getD y 0 < ns.getD k 0)
  | 0, _, _, _, y, h => by simp [bck] at h
  | f + 1, _, k, rfl, y, h => by
    rw [bck] at h
    rcases List.mem_cons.mp h with rfl | h
    · exact .inl rfl
    · cases e : es.getD k none with
      | none =>
        rw [e] at h
        cases f <;> simp [bck] at h
      | some x =>
        obtain ⟨h1, h2⟩ := he _ _ (getD_some e)
        rw [e] at h
        rcases bck_le he f _ x rfl y h with rfl | ⟨h3, h4⟩
        · exact .inr ⟨h1, h2⟩
        · exact .inr ⟨by omega, by omega⟩
theorem bck_pw {ns : List Nat} {es : List (Option Nat)} (he : ∀ i x, es[i]? = some (some x) → x < i ∧ ns.getD x 0 < ns.getD i 0) : ∀ (f : Nat) (o : Option Nat), (bck es f o).Pairwise fun a b => b < a ∧ ns.getD b 0 < ns.getD a 0
  | 0, _ => by simp [bck]
  | f + 1, none => by simp [bck]
  | f + 1, some k => by
    rw [bck, List.pairwise_cons]
    refine ⟨fun y hy => ?_, bck_pw he f _⟩
    cases e : es.getD k none with
    | none =>
      rw [e] at hy
      cases f <;> simp [bck] at hy
    | some x =>
      obtain ⟨h1, h2⟩ := he _ _ (getD_some e)
      rw [e] at hy
      rcases bck_le he f _ x rfl y hy with rfl | ⟨h3, h4⟩
      · exact ⟨h1, h2⟩
      · exact ⟨by omega, by omega⟩
theorem lrun_lt {ns : List Nat} {a : Nat} (h : a ∈ lrun ns) : a < ns.length := by
  unfold lrun at h
  rw [List.mem_reverse] at h
  cases e : (tabs ns ns.length).la with
  | none =>
    rw [e] at h
    cases e2 : ns.length <;> rw [e2] at h <;> simp [bck] at h
  | some k =>
    rw [e] at h
    have hk := tabs_la ns _ e
    rcases bck_le (ns := ns) (fun i x hx => tabs_es ns _ hx) _ _ k rfl a h with rfl | h2
    · exact hk
    · omega
theorem lrun_asc {ns : List Nat} {a b : Nat} (ha : a ∈ lrun ns) (hb : b ∈ lrun ns) (hab : a < b) : ns.getD a 0 < ns.getD b 0 := by
  unfold lrun at ha hb
  rw [List.mem_reverse] at ha hb
  have pw := bck_pw (ns := ns) (fun i x hx => tabs_es ns ns.length hx) ns.length (tabs ns ns.length).la
  rw [List.pairwise_iff_getElem] at pw
  obtain ⟨i, hi, rfl⟩ := List.mem_iff_getElem.mp ha
  obtain ⟨j, hj, rfl⟩ := List.mem_iff_getElem.mp hb
  rcases Nat.lt_trichotomy i j with h | h | h
  · have := pw i j hi hj h
    omega
  · subst h
    omega
  · exact (pw j i hj hi h).2
theorem keptK_asc {now wan : List Str} : ∀ a ∈ keptK now wan, ∀ b ∈ keptK now wan, a < b → now.idxOf (wan.getD a "") < now.idxOf (wan.getD b "") := by
  intro a ha b hb hab
  have la := lrun_lt ha
  have lb := lrun_lt hb
  rw [List.length_map] at la lb
  have g : ∀ x, x < wan.length → (wan.map fun m => now.idxOf m).getD x 0 = now.idxOf (wan.getD x "") := fun x hx => by
    rw [List.getD_eq_getElem?_getD, List.getD_eq_getElem?_getD, List.getElem?_map, List.getElem?_eq_getElem hx]
    rfl
  have := lrun_asc ha hb hab
  rw [g a la, g b lb] at this
  exact this

section
variable {P : Program} {w : World} {K : PySem.W.Frag} {mg : Str → Option Value} {base : Heap}
end
end K11
set_option Elab.async false
set_option linter.all false
set_option maxRecDepth 100000
set_option maxHeartbeats 4000000
namespace K11
open PySem PySem.Spec PyProof.Rows L2 XL
/-! ### pages over a pool of marks -/
theorem nd_leN : ∀ {l N : List Str}, l.Nodup → (∀ x ∈ l, x ∈ N) → l.length ≤ N.length
  | [], _, _, _ => Nat.zero_le _
  | x :: r, N, nd, h => by
    rw [List.nodup_cons] at nd
    have hx := h x List.mem_cons_self
    have := nd_leN (N := N.erase x) nd.2 fun y hy => (List.mem_erase_of_ne (fun e => nd.1 (by rw [← e]; exact hy))).mpr (h y (List.mem_cons_of_mem _ hy))
    rw [List.length_erase_of_mem hx] at this
    have hp : 0 < N.length := List.length_pos_of_mem hx
    rw [List.length_cons]
    omega
structure Ov (N : List Str) (xs : List (Str × Str)) : Prop where
  nd : (xs.map (·.1)).Nodup
  ok : ∀ z ∈ xs, z.1 ∈ N ∧ Tx 1 60 z.1 ∧ Tx 1 20 z.2
theorem Ov.perm {N : List Str} {xs ys : List (Str × Str)} (h : Ov N xs) (p : xs.Perm ys) : Ov N ys :=
  ⟨(p.map _).nodup_iff.mp h.nd, fun z hz => h.ok z (p.mem_iff.mpr hz)⟩
theorem Ov.left {N : List Str} {xs ys : List (Str × Str)} (h : Ov N (xs ++ ys)) : Ov N xs := by
  have := h.nd
  rw [List.map_append] at this
  exact ⟨(List.nodup_append.mp this).1, fun z hz => h.ok z (List.mem_append_left _ hz)⟩
theorem Ov.right {N : List Str} {xs ys : List (Str × Str)} (h : Ov N (xs ++ ys)) : Ov N ys := (h.perm List.perm_append_comm).left
theorem Ov.app {N : List Str} {xs ys : List (Str × Str)} (h : Ov N xs) (h2 : Ov N ys) (dj : ∀ z ∈ xs.map (·.1), z ∉ ys.map (·.1)) : Ov N (xs ++ ys) := by
  refine ⟨?_, fun z hz => ?_⟩
  · rw [List.map_append]
    exact List.nodup_append.mpr ⟨h.nd, h2.nd, fun a ha b hb e => dj a ha (e ▸ hb)⟩
  · rcases List.mem_append.mp hz with hz | hz
    · exact h.ok z hz
    · exact h2.ok z hz
def mks (t : Tr) : List Str := (ml t).map (·.1)
theorem mks_eq (t : Tr) : mks t = (pre t).map mrk := ml_mrk t
theorem Ov.ndm {N : List Str} {t : Tr} (h : Ov N (ml t)) : ((pre t).map mrk).Nodup := by rw [← ml_mrk]; exact h.nd
theorem Ov.len {N : List Str} {t : Tr} (h : Ov N (ml t)) : (pre t).length ≤ N.length := by
  have := nd_leN h.nd fun x hx => by
    obtain ⟨z, hz, rfl⟩ := List.mem_map.mp hx
    exact (h.ok z hz).1
  rw [ml_mrk, List.length_map] at this
  exact this
theorem Ov.gt {N : List Str} {t : Tr} (hN : N.length ≤ 60) (h : Ov N (ml t)) : Gt t := by
  have l := h.len
  have hh := hgt_pre t
  refine ⟨h.ndm, by omega, ⟨by omega, fun p hp => ?_⟩⟩
  have := h.ok (mrk p, lbl p) (List.mem_map_of_mem (f := fun p => (mrk p, lbl p)) hp)
  exact this.2
theorem sub_sncB : ∀ {π : List Nat} {t q : Tr} (j : Nat), sub t π = some q → sub t (π ++ [j]) = (kids q)[j]?
  | [], t, q, j, h => by
    cases h
    show sub t [j] = _
    rw [sub]
    cases (kids t)[j]? <;> rfl
  | k :: π, t, q, j, h => by
    obtain ⟨c, hc, h⟩ := sub_ne h
    rw [List.cons_append, sub_cons hc]
    exact sub_sncB j h
theorem setAt_snc : ∀ {π : List Nat} {t x c u : Tr} {j : Nat}, sub t π = some x → (kids x)[j]? = some c → setAt t (π ++ [j]) u = setAt t π (.node (mrk x) (lbl x) ((kids x).set j u))
  | [], t, x, c, u, j, h, hc => by
    cases h
    show setAt t [j] u = _
    rw [setAt_cons hc]
    rfl
  | k :: π, t, x, c, u, j, h, hc => by
    obtain ⟨c', hc', h⟩ := sub_ne h
    rw [List.cons_append, setAt_cons hc', setAt_cons hc', setAt_snc h hc]
theorem Ov.sub {N : List Str} {T x : Tr} {π : List Nat} (h : Ov N (ml T)) (hx : sub T π = some x) : Ov N (ml x) := by
  obtain ⟨R, h1, _⟩ := ml_set hx
  exact (h.perm h1).left
/-- another tree in the place of x, over the marks of q -/
theorem set_ok {N : List Str} {T x u q : Tr} {π : List Nat} (hx : sub T π = some x) (ov : Ov N (ml T)) (cond : ∀ z ∈ mks T, z ∈ mks q → z ∈ mks x) (ou : Ov N (ml u)) (hu : ∀ z ∈ mks u, z ∈ mks q) :
    Ov N (ml (setAt T π u)) ∧ ∀ z ∈ mks (setAt T π u), z ∈ mks q → z ∈ mks u := by
  obtain ⟨R, h1, h2⟩ := ml_set hx
  have o1 := ov.perm h1
  have nd1 := o1.nd
  rw [List.map_append] at nd1
  have dj : ∀ z ∈ R.map (·.1), z ∉ mks q := fun z hz hq => by
    have hT : z ∈ mks T := (h1.map (·.1)).mem_iff.mpr (by rw [List.map_append]; exact List.mem_append_right _ hz)
    exact (List.nodup_append.mp nd1).2.2 _ (cond z hT hq) _ hz rfl
  refine ⟨(ou.app o1.right fun z hz hR => dj z hR (hu z hz)).perm (h2 u).symm, fun z hz hq => ?_⟩
  have := ((h2 u).map (·.1)).mem_iff.mp hz
  rw [List.map_append] at this
  rcases List.mem_append.mp this with h | h
  · exact h
  · exact absurd hq (dj z h)
theorem set_same {N : List Str} {T x u : Tr} {π : List Nat} (hx : sub T π = some x) (ov : Ov N (ml T)) (ou : Ov N (ml u)) (hu : ∀ z ∈ mks u, z ∈ mks x) : Ov N (ml (setAt T π u)) :=
  (set_ok (q := x) hx ov (fun _ _ h => h) ou hu).1
/-! ### rows that lead, carefully, and bring nodes of the new page alone -/
def Ld (S : List Str) (t : Tr) : List Pt → Tr → Prop
  | [], T => Gt T
  | p :: r, T => Gt T ∧ Fits p T ∧ (∀ m, p = .drop m → ∀ n ∈ pre T, mrk n = m → ∀ z ∈ mks n, z ∉ S) ∧ (∀ m i s, p = .put m i s → s ∈ pre t) ∧ Ld S t r (aft p T)
theorem Ld.gt {S : List Str} {t T : Tr} {ps : List Pt} (h : Ld S t ps T) : Gt T := by
  cases ps with
  | nil => exact h
  | cons p r => exact h.1
theorem Ld.chn {S : List Str} {t : Tr} : ∀ {ps : List Pt} {T : Tr}, Ld S t ps T → Chn ps T
  | [], _, h => h
  | p :: r, T, h => ⟨h.1, h.2.1, Ld.chn (ps := r) h.2.2.2.2⟩
theorem Ld.app {S : List Str} {t : Tr} : ∀ {xs ys : List Pt} {T : Tr}, Ld S t xs T → Ld S t ys (runs xs T) → Ld S t (xs ++ ys) T
  | [], _, _, _, h => h
  | p :: r, ys, T, h, h2 => ⟨h.1, h.2.1, h.2.2.1, h.2.2.2.1, Ld.app (xs := r) h.2.2.2.2 h2⟩
theorem Ld.one {S : List Str} {t T : Tr} {p : Pt} (g : Gt T) (f : Fits p T) (d : ∀ m, p = .drop m → ∀ n ∈ pre T, mrk n = m → ∀ z ∈ mks n, z ∉ S) (b : ∀ m i s, p = .put m i s → s ∈ pre t) (g2 : Gt (aft p T)) : Ld S t [p] T := ⟨g, f, d, b, g2⟩
/-! at each place without a partner no mark stays -/
mutual
def Npr (S : List Str) : Tr → Tr → Prop
  | .node _ _ ks, q => Nprs S ks (kids q)
def Nprs (S : List Str) : List Tr → List Tr → Prop
  | [], _ => True
  | c :: r, ds => (match fndT ds (mrk c) with
    | some d => Npr S c d
    | none => ∀ z ∈ mks c, z ∉ S) ∧ Nprs S r ds
end
mutual
theorem cut_ml : ∀ (p q : Tr), ∃ E, (ml p).Perm (ml (cut p q) ++ E)
  | .node m l ks, q => by
    obtain ⟨E, h⟩ := cuts_ml ks (kids q)
    refine ⟨E, ?_⟩
    simp only [cut]
    rw [ml_eq, ml_eq]
    exact h.cons _
theorem cuts_ml : ∀ (ks ds : List Tr), ∃ E, (mls ks).Perm (mls (cuts ks ds) ++ E)
  | [], ds => ⟨[], by simp [cuts]⟩
  | c :: r, ds => by
    obtain ⟨E, h⟩ := cuts_ml r ds
    simp only [cuts]
    cases e : fndT ds (mrk c) with
    | none =>
      refine ⟨ml c ++ E, ?_⟩
      rw [mls_cons]
      show (ml c ++ mls r).Perm (mls (cuts r ds) ++ (ml c ++ E))
      exact (h.append_left _).trans (List.perm_append_comm_assoc _ _ _)
    | some d =>
      obtain ⟨E1, h1⟩ := cut_ml c d
      refine ⟨E1 ++ E, ?_⟩
      rw [mls_cons]
      show (ml c ++ mls r).Perm (mls (cut c d :: cuts r ds) ++ (E1 ++ E))
      rw [mls_cons]
      have z := h1.append h
      refine z.trans ?_
      rw [List.append_assoc, List.append_assoc]
      exact (List.perm_append_comm_assoc _ _ _).append_left _
end
theorem erase_mid {α : Type} (a b : List α) (c : α) : (a ++ c :: b).eraseIdx a.length = a ++ b := by
  rw [List.eraseIdx_append_of_length_le (Nat.le_refl _), Nat.sub_self]
  rfl
theorem mid_at {α : Type} (a b : List α) (c : α) : (a ++ c :: b)[a.length]? = some c := by simp
theorem set_mid {α : Type} (a b : List α) (c c' : α) : (a ++ c :: b).set a.length c' = a ++ c' :: b := by simp
theorem mks_node (m l : Str) (ks : List Tr) : mks (.node m l ks) = m :: (mls ks).map (·.1) := by
  unfold mks
  rw [ml_eq]
  rfl
mutual
theorem drops {N S : List Str} {t : Tr} (hN : N.length ≤ 60) : ∀ (p q : Tr), Npr S p q → ∀ (T : Tr) (π : List Nat), sub T π = some p → Ov N (ml T) → Ld S t (drl p q) T ∧ runs (drl p q) T = setAt T π (cut p q)
  | .node m l ks, q, h, T, π, hT, ov => by
    simp only [drl, cut]
    exact dropsL hN ks (kids q) h T π m l [] hT ov
theorem dropsL {N S : List Str} {t : Tr} (hN : N.length ≤ 60) : ∀ (ks ds : List Tr), Nprs S ks ds → ∀ (T : Tr) (π : List Nat) (m l : Str) (dn : List Tr), sub T π = some (.node m l (dn ++ ks)) → Ov N (ml T) → Ld S t (drls ks ds) T ∧ runs (drls ks ds) T = setAt T π (.node m l (dn ++ cuts ks ds))
  | [], ds, _, T, π, m, l, dn, hT, ov => ⟨ov.gt hN, by
    show T = setAt T π (.node m l (dn ++ []))
    exact (set_sub hT).symm⟩
  | c :: r, ds, h, T, π, m, l, dn, hT, ov => by
    simp only [Nprs] at h
    have gT := ov.gt hN
    have hk : (kids (.node m l (dn ++ c :: r)))[dn.length]? = some c := mid_at dn r c
    have hc : sub T (π ++ [dn.length]) = some c := (sub_sncB _ hT).trans hk
    simp only [drls, cuts]
    cases e : fndT ds (mrk c) with
    | none =>
      rw [e] at h
      have ea : aft (.drop (mrk c)) T = setAt T π (.node m l (dn ++ r)) := by
        rw [aft_child (p := .drop (mrk c)) (.inl ⟨_, rfl⟩) gT.nd hT hk rfl]
        show setAt T π (.node m l ((dn ++ c :: r).eraseIdx dn.length)) = _
        rw [erase_mid]
      have o1 : Ov N (ml (setAt T π (.node m l (dn ++ r)))) := by
        have pm : (ml (.node m l (dn ++ c :: r))).Perm (ml (.node m l (dn ++ r)) ++ ml c) := by
          rw [ml_eq, ml_eq, List.cons_append]
          refine List.Perm.cons _ ?_
          show (mls (dn ++ c :: r)).Perm (mls (dn ++ r) ++ ml c)
          rw [mls_app, mls_cons, mls_app, List.append_assoc]
          exact List.perm_append_comm.append_left _
        refine set_same hT ov (((ov.sub hT).perm pm).left) fun z hz => ?_
        have := (pm.map (·.1)).mem_iff.mpr (by rw [List.map_append]; exact List.mem_append_left _ hz)
        exact this
      obtain ⟨i1, i2⟩ := dropsL hN r ds h.2 _ π m l dn (sub_set _ hT) o1
      have cm : c ∈ pre T := sub_mem hc
      refine ⟨⟨gT, ⟨List.mem_map_of_mem cm, fun e2 => ?_⟩, fun m' em n hn en z hz => ?_, (fun _ _ _ z => nomatch z), ?_⟩, ?_⟩
      · have : c = T := mrk_inj gT.nd cm (self_pre T) e2
        have l1 := sub_lev hc
        rw [this, List.length_append, List.length_singleton] at l1
        omega
      · cases em
        rw [mrk_inj gT.nd hn cm en] at hz
        exact h.1 z hz
      · rw [ea]
        exact i1
      · show runs (drls r ds) (aft (.drop (mrk c)) T) = _
        rw [ea, i2, set_set _ _ hT]
        rfl
    | some d =>
      rw [e] at h
      obtain ⟨j1, j2⟩ := drops hN c d h.1 T _ hc ov
      have eT : setAt T (π ++ [dn.length]) (cut c d) = setAt T π (.node m l (dn ++ cut c d :: r)) := by
        rw [setAt_snc hT hk]
        show setAt T π (.node m l ((dn ++ c :: r).set dn.length (cut c d))) = _
        rw [set_mid]
      have o1 : Ov N (ml (setAt T (π ++ [dn.length]) (cut c d))) := by
        obtain ⟨E, hE⟩ := cut_ml c d
        refine set_same hc ov (((ov.sub hc).perm hE).left) fun z hz => ?_
        exact (hE.map (·.1)).mem_iff.mpr (by rw [List.map_append]; exact List.mem_append_left _ hz)
      have hT' : sub (setAt T (π ++ [dn.length]) (cut c d)) π = some (.node m l ((dn ++ [cut c d]) ++ r)) := by
        rw [eT, sub_set _ hT, List.append_assoc]
        rfl
      obtain ⟨i1, i2⟩ := dropsL hN r ds h.2 _ π m l (dn ++ [cut c d]) hT' o1
      refine ⟨j1.app (by rw [j2]; exact i1), ?_⟩
      show runs (drl c d ++ drls r ds) T = _
      rw [runs_app, j2, i2, eT, set_set _ _ hT, List.append_assoc]
end

section
variable {P : Program} {w : World} {K : PySem.W.Frag} {mg : Str → Option Value} {base : Heap}
end
end K11
set_option Elab.async false
set_option linter.all false
set_option maxRecDepth 100000
set_option maxHeartbeats 4000000
namespace K11
open PySem PySem.Spec PyProof.Rows L2 XL
/-! ### said, moved and put at one node -/
def mkL (ts : List Tr) : List Str := (mls ts).map (·.1)
theorem mkL_app (xs ys : List Tr) : mkL (xs ++ ys) = mkL xs ++ mkL ys := by
  unfold mkL
  rw [mls_app, List.map_append]
theorem mkL_cons (x : Tr) (ys : List Tr) : mkL (x :: ys) = mks x ++ mkL ys := by
  unfold mkL mks
  rw [mls_cons, List.map_append]
theorem mks_nd (m l : Str) (ks : List Tr) : mks (.node m l ks) = m :: mkL ks := mks_node m l ks
theorem mrk_mks (t : Tr) : mrk t ∈ mks t := by
  rw [mks_eq]
  exact List.mem_map_of_mem (self_pre t)
theorem mkL_mem {z : Str} : ∀ {ts : List Tr}, z ∈ mkL ts ↔ ∃ d ∈ ts, z ∈ mks d
  | [] => by simp [mkL, mls, pres]
  | d :: r => by
    rw [mkL_cons, List.mem_append, mkL_mem (ts := r)]
    simp
mutual
theorem cut_sub : ∀ (p q : Tr), mrk p = mrk q → ∀ z ∈ mks (cut p q), z ∈ mks q
  | .node m l ks, q, e, z, hz => by
    simp only [cut] at hz
    rw [mks_nd] at hz
    rw [tr_eta q, mks_nd]
    rcases List.mem_cons.mp hz with rfl | hz
    · rw [← e]
      exact List.mem_cons_self
    · exact List.mem_cons_of_mem _ (cuts_sub ks (kids q) z hz)
theorem cuts_sub : ∀ (ks ds : List Tr), ∀ z ∈ mkL (cuts ks ds), z ∈ mkL ds
  | [], ds, z, hz => by simp [cuts, mkL, mls, pres] at hz
  | c :: r, ds, z, hz => by
    simp only [cuts] at hz
    rw [mkL_app, List.mem_append] at hz
    rcases hz with hz | hz
    · cases e : fndT ds (mrk c) with
      | none => rw [e] at hz; simp [mkL, mls, pres] at hz
      | some d =>
        rw [e] at hz
        obtain ⟨h1, h2⟩ := fndT_some e
        have hz : z ∈ mks (cut c d) := by
          rw [mkL_cons] at hz
          simpa [mkL, mls, pres] using hz
        exact mkL_mem.mpr ⟨d, h1, cut_sub c d h2.symm z hz⟩
    · exact cuts_sub r ds z hz
end
def restK (ks ds : List Tr) : List Tr := ds.flatMap fun d => match fndT ks (mrk d) with
  | some c => [cut c d]
  | none => []
def fullK (ks ds : List Tr) : List Tr := ds.map fun d => match fndT ks (mrk d) with
  | some c => cut c d
  | none => d
theorem restK_cons (ks : List Tr) (d : Tr) (r : List Tr) : restK ks (d :: r) = (match fndT ks (mrk d) with
  | some c => [cut c d]
  | none => []) ++ restK ks r := by
  unfold restK
  rw [List.flatMap_cons]
theorem restK_sub (ks : List Tr) : ∀ ds : List Tr, ∀ z ∈ mkL (restK ks ds), z ∈ mkL ds
  | [], z, hz => by simp [restK, mkL, mls, pres] at hz
  | d :: r, z, hz => by
    rw [restK_cons, mkL_app, List.mem_append] at hz
    rw [mkL_cons, List.mem_append]
    rcases hz with hz | hz
    · cases e : fndT ks (mrk d) with
      | none => rw [e] at hz; simp [mkL, mls, pres] at hz
      | some c =>
        rw [e] at hz
        have hz : z ∈ mks (cut c d) := by
          rw [mkL_cons] at hz
          simpa [mkL, mls, pres] using hz
        exact .inl (cut_sub c d (fndT_some e).2 z hz)
    · exact .inr (restK_sub ks r z hz)
theorem restK_mem {ks ds : List Tr} {x : Tr} (h : x ∈ restK ks ds) : ∃ d ∈ ds, ∃ c, fndT ks (mrk d) = some c ∧ x = cut c d := by
  unfold restK at h
  obtain ⟨d, hd, hx⟩ := List.mem_flatMap.mp h
  cases e : fndT ks (mrk d) with
  | none => rw [e] at hx; simp at hx
  | some c =>
    rw [e] at hx
    exact ⟨d, hd, c, e, by simpa using hx⟩
theorem restK_marks (ks : List Tr) : ∀ ds : List Tr, (restK ks ds).map mrk = wanK ks ds
  | [] => rfl
  | d :: r => by
    have ih := restK_marks ks r
    rw [restK_cons, List.map_append, ih]
    unfold wanK
    rw [List.filter_cons]
    cases e : fndT ks (mrk d) with
    | none => simp
    | some c => simp [cut_mrk, (fndT_some e).2]
theorem eq_marks {Z : List Tr} (nd : (Z.map mrk).Nodup) : ∀ {xs ys : List Tr}, xs.map mrk = ys.map mrk → (∀ x ∈ xs, x ∈ Z) → (∀ y ∈ ys, y ∈ Z) → xs = ys
  | [], [], _, _, _ => rfl
  | [], _ :: _, h, _, _ => by simp at h
  | _ :: _, [], h, _, _ => by simp at h
  | x :: xs, y :: ys, h, hx, hy => by
    rw [List.map_cons, List.map_cons] at h
    obtain ⟨e1, e2⟩ := List.cons.inj h
    rw [mrk_inj nd (hx x List.mem_cons_self) (hy y List.mem_cons_self) e1, eq_marks nd e2 (fun z hz => hx z (List.mem_cons_of_mem _ hz)) fun z hz => hy z (List.mem_cons_of_mem _ hz)]
theorem eraseIdx_mark {l : List Str} {j : Nat} {w : Str} (nd : l.Nodup) (h : l[j]? = some w) : l.eraseIdx j = l.erase w := by
  have e := (take_pre h).1
  have jl := (List.getElem?_eq_some_iff.mp h).1
  have nd2 := nd
  rw [e] at nd2
  have hn : w ∉ l.take j := fun hm => (List.nodup_append.mp nd2).2.2 _ hm _ List.mem_cons_self rfl
  have e2 : l.eraseIdx j = l.take j ++ l.drop (j + 1) := List.eraseIdx_eq_take_drop_succ l j
  rw [e2]
  conv => rhs; rw [e]
  rw [List.erase_append_right _ hn, List.erase_cons_head]
theorem map_eraseI {α β : Type} (f : α → β) : ∀ (l : List α) (j : Nat), (l.eraseIdx j).map f = (l.map f).eraseIdx j
  | [], _ => rfl
  | _ :: _, 0 => rfl
  | x :: r, j + 1 => by
    rw [List.eraseIdx_cons_succ, List.map_cons, List.map_cons, List.eraseIdx_cons_succ, map_eraseI f r j]
theorem mls_permK {xs ys : List Tr} (h : xs.Perm ys) : (mls xs).Perm (mls ys) := by
  induction h with
  | nil => exact List.Perm.refl _
  | cons x _ ih =>
    rw [mls_cons, mls_cons]
    exact ih.append_left _
  | swap x y l =>
    rw [mls_cons, mls_cons, mls_cons, mls_cons]
    exact List.perm_append_comm_assoc _ _ _
  | trans _ _ h1 h2 => exact h1.trans h2
theorem ml_kids {m l : Str} {xs ys : List Tr} (h : xs.Perm ys) : (ml (.node m l xs)).Perm (ml (.node m l ys)) := by
  rw [ml_eq, ml_eq]
  exact (mls_permK h).cons _
section
variable {N S : List Str} {t T : Tr} {π : List Nat}
theorem step_say {x : Tr} {l : Str} (hN : N.length ≤ 60) (hT : sub T π = some x) (ov : Ov N (ml T)) (hl : Tx 1 20 l) : Ld S t [.say (mrk x) l] T ∧ runs [.say (mrk x) l] T = setAt T π (.node (mrk x) l (kids x)) := by
  have g := ov.gt hN
  have ea : aft (.say (mrk x) l) T = setAt T π (.node (mrk x) l (kids x)) := by
    rw [aft_node (p := .say (mrk x) l) (.inr ⟨_, _, rfl⟩) g.nd hT rfl]
    rw [show lbP (.say (mrk x) l) (mrk x) (lbl x) = l from if_pos rfl]
    rfl
  have ox := ov.sub hT
  have ou : Ov N (ml (.node (mrk x) l (kids x))) := by
    rw [ml_eq x] at ox
    rw [ml_eq]
    refine ⟨ox.nd, fun z hz => ?_⟩
    rcases List.mem_cons.mp hz with rfl | hz
    · have := ox.ok _ List.mem_cons_self
      exact ⟨this.1, this.2.1, hl⟩
    · exact ox.ok _ (List.mem_cons_of_mem _ hz)
  have o2 := set_same hT ov ou fun z hz => by
    unfold mks at hz ⊢
    rw [ml_eq] at hz ⊢
    exact hz
  refine ⟨.one g (List.mem_map_of_mem (sub_mem hT)) (fun _ z => nomatch z) (fun _ _ _ z => nomatch z) ?_, ea⟩
  rw [ea]
  exact o2.gt hN
theorem moves_at {K : List Nat} {m l : Str} {ks0 : List Tr} {now wan : List Str} (hN : N.length ≤ 60) (hT : sub T π = some (.node m l ks0)) (ov : Ov N (ml T)) (hnow : ks0.map mrk = now) (hp : now.Perm wan) (nd : wan.Nodup) : ∀ k, k ≤ wan.length →
    ∃ ks, ks.map mrk = mvO K now wan k ∧ ks.Perm ks0 ∧ runs (mvR K now wan k) T = setAt T π (.node m l ks) ∧ Ld S t (mvR K now wan k) T
  | 0, _ => ⟨ks0, hnow, List.Perm.refl _, (set_sub hT).symm, ov.gt hN⟩
  | k + 1, hk => by
    obtain ⟨ks, h1, h2, h3, h4⟩ := moves_at (K := K) hN hT ov hnow hp nd k (by omega)
    rw [mvR]
    by_cases hK : k ∈ K
    · rw [if_pos hK, List.append_nil, mvO_kept hK]
      exact ⟨ks, h1, h2, h3, h4⟩
    · rw [if_neg hK, mvO_move hK]
      have po := mvO_perm (K := K) hp k (by omega)
      have ndo := po.nodup_iff.mpr nd
      have hw : wan.getD k "" ∈ wan := by
        rw [List.getD_eq_getElem?_getD, List.getElem?_eq_getElem (show k < wan.length by omega)]
        exact List.getElem_mem _
      have hwo := po.mem_iff.mpr hw
      obtain ⟨j, hj⟩ := List.mem_iff_getElem?.mp hwo
      have hj0 := hj
      rw [← h1, List.getElem?_map] at hj
      obtain ⟨c, hc, ec⟩ := Option.map_eq_some_iff.mp hj
      have ox : Ov N (ml (.node m l ks)) := (ov.sub hT).perm (ml_kids h2.symm)
      have oT : Ov N (ml (setAt T π (.node m l ks))) := set_same hT ov ox fun z hz => by
        exact ((ml_kids (m := m) (l := l) h2).map (·.1)).mem_iff.mp hz
      have hT' := sub_set (.node m l ks) hT
      have gT := oT.gt hN
      have hil : mvI K now wan k < ks.length := by
        have kl := congrArg List.length h1
        rw [List.length_map] at kl
        have ol := po.length_eq
        cases k with
        | zero =>
          show 0 < ks.length
          omega
        | succ j' =>
          have el := List.length_erase_of_mem hwo
          have hu : wan.getD j' "" ∈ wan := by
            rw [List.getD_eq_getElem?_getD, List.getElem?_eq_getElem (show j' < wan.length by omega)]
            exact List.getElem_mem _
          have ne : wan.getD j' "" ≠ wan.getD (j' + 1) "" := fun e => by
            have a1 : wan[j']? = some (wan.getD j' "") := by
              rw [List.getD_eq_getElem?_getD, List.getElem?_eq_getElem (show j' < wan.length by omega)]
              rfl
            have a2 : wan[j' + 1]? = some (wan.getD (j' + 1) "") := by
              rw [List.getD_eq_getElem?_getD, List.getElem?_eq_getElem (show j' + 1 < wan.length by omega)]
              rfl
            have b1 := idxOf_at nd a1
            rw [e, idxOf_at nd a2] at b1
            omega
          obtain ⟨a, b, e1, e2, e3⟩ := idxOf_split ((nd_mem_erase ndo ne).mpr (po.mem_iff.mpr hu))
          have := congrArg List.length e1
          rw [List.length_append, List.length_cons] at this
          show ((mvO K now wan (j' + 1)).erase (wan.getD (j' + 1) "")).idxOf (wan.getD j' "") + 1 < _
          rw [← e3]
          omega
      have ea : aft (.move (wan.getD k "") (mvI K now wan k)) (setAt T π (.node m l ks)) = setAt T π (.node m l (insT (ks.eraseIdx j) (mvI K now wan k) c)) := by
        rw [aft_child (p := .move (wan.getD k "") (mvI K now wan k)) (.inr ⟨_, _, rfl⟩) gT.nd hT' hc ec, set_set _ _ hT]
        rfl
      have pk : (insT (ks.eraseIdx j) (mvI K now wan k) c).Perm ks := (ins_perm _ _ _).trans (perm_erase hc)
      have o2 : Ov N (ml (setAt T π (.node m l (insT (ks.eraseIdx j) (mvI K now wan k) c)))) := set_same hT ov (ox.perm (ml_kids pk.symm)) fun z hz => by
        exact ((ml_kids (m := m) (l := l) (pk.trans h2)).map (·.1)).mem_iff.mp hz
      refine ⟨insT (ks.eraseIdx j) (mvI K now wan k) c, ?_, pk.trans h2, ?_, h4.app ?_⟩
      · unfold insT
        rw [List.map_append, List.map_cons, List.map_take, List.map_drop, map_eraseI, h1, eraseIdx_mark ndo hj0, ec]
      · rw [runs_app, h3]
        exact ea
      · rw [h3]
        refine .one gT ⟨.node m l ks, sub_mem hT', c, List.mem_of_getElem? hc, ec, hil⟩ (fun _ z => nomatch z) (fun _ _ _ z => nomatch z) ?_
        rw [ea]
        exact o2.gt hN
theorem puts_at {m l : Str} {ks : List Tr} {q : Tr} (hN : N.length ≤ 60) (hq : q = .node m l (kids q)) (oq : Ov N (ml q)) (bq : ∀ x ∈ pre q, x ∈ pre t) : ∀ (ds dn fr : List Tr) (T : Tr), kids q = dn ++ ds → sub T π = some (.node m l (fr ++ restK ks ds)) → Ov N (ml T) → (∀ z ∈ mks T, z ∈ mks q → z ∈ mks (.node m l (fr ++ restK ks ds))) → (∀ z ∈ mkL fr, z ∈ mkL dn) →
    Ld S t (putsI m ks fr.length ds) T ∧ runs (putsI m ks fr.length ds) T = setAt T π (.node m l (fr ++ fullK ks ds)) ∧ Ov N (ml (setAt T π (.node m l (fr ++ fullK ks ds)))) ∧ (∀ z ∈ mks (setAt T π (.node m l (fr ++ fullK ks ds))), z ∈ mks q → z ∈ mks (.node m l (fr ++ fullK ks ds)))
  | [], dn, fr, T, hk, hT, ov, cond, hf => by
    have e : restK ks [] = fullK ks [] := rfl
    rw [e] at hT cond
    rw [set_sub hT]
    exact ⟨ov.gt hN, rfl, ov, cond⟩
  | d :: r, dn, fr, T, hk, hT, ov, cond, hf => by
    have hk2 : kids q = (dn ++ [d]) ++ r := by rw [hk, List.append_assoc]; rfl
    have dm : d ∈ kids q := by rw [hk]; simp
    rw [restK_cons] at hT cond
    cases e : fndT ks (mrk d) with
    | some c =>
      rw [e] at hT cond
      have hT2 : sub T π = some (.node m l ((fr ++ [cut c d]) ++ restK ks r)) := by rw [hT, List.append_assoc]
      have cond2 : ∀ z ∈ mks T, z ∈ mks q → z ∈ mks (.node m l ((fr ++ [cut c d]) ++ restK ks r)) := by
        rw [List.append_assoc]
        exact cond
      have hf2 : ∀ z ∈ mkL (fr ++ [cut c d]), z ∈ mkL (dn ++ [d]) := fun z hz => by
        rw [mkL_app, List.mem_append] at hz ⊢
        rcases hz with hz | hz
        · exact .inl (hf z hz)
        · refine .inr (mkL_mem.mpr ⟨d, by simp, ?_⟩)
          obtain ⟨x, hx1, hx2⟩ := mkL_mem.mp hz
          rw [List.mem_singleton.mp hx1] at hx2
          exact cut_sub c d (fndT_some e).2 z hx2
      have ih := puts_at hN hq oq bq r (dn ++ [d]) (fr ++ [cut c d]) T hk2 hT2 ov cond2 hf2
      have e2 : fr ++ fullK ks (d :: r) = (fr ++ [cut c d]) ++ fullK ks r := by
        unfold fullK
        rw [List.map_cons, e, List.append_assoc]
        rfl
      rw [putsI, e, e2]
      rw [List.length_append] at ih
      exact ih
    | none =>
      rw [e, List.nil_append] at hT cond
      have gT := ov.gt hN
      have eu : insT (fr ++ restK ks r) fr.length d = fr ++ d :: restK ks r := by
        unfold insT
        simp
      have ea : aft (.put m fr.length d) T = setAt T π (.node m l (fr ++ d :: restK ks r)) := by
        rw [aft_node (p := .put m fr.length d) (.inl ⟨_, _, _, rfl⟩) gT.nd hT rfl]
        show setAt T π (.node m l (if m = m then insT (fr ++ restK ks r) fr.length d else fr ++ restK ks r)) = _
        rw [if_pos rfl, eu]
      -- the marks of d are not there
      have ndq := oq.nd
      rw [hq, ml_eq, List.map_cons, List.nodup_cons] at ndq
      have ndq2 : (mkL (dn ++ d :: r)).Nodup := by
        have := ndq.2
        rw [show mls (kids (.node m l (kids q))) = mls (dn ++ d :: r) by rw [show kids (.node m l (kids q)) = kids q from rfl, hk]] at this
        exact this
      have mq : m ∉ mkL (dn ++ d :: r) := by
        have := ndq.1
        rw [show mls (kids (.node m l (kids q))) = mls (dn ++ d :: r) by rw [show kids (.node m l (kids q)) = kids q from rfl, hk]] at this
        exact this
      rw [mkL_app, mkL_cons] at ndq2
      have n1 := List.nodup_append.mp ndq2
      have n2 := List.nodup_append.mp n1.2.1
      have dq : ∀ z ∈ mks d, z ∈ mks q := fun z hz => by
        rw [hq, mks_nd]
        exact List.mem_cons_of_mem _ (mkL_mem.mpr ⟨d, dm, hz⟩)
      have dj : ∀ z ∈ mks d, z ∉ mks (.node m l (fr ++ restK ks r)) := fun z hz hx => by
        rw [mks_nd, mkL_app] at hx
        rcases List.mem_cons.mp hx with rfl | hx
        · exact mq (by rw [mkL_app, mkL_cons]; exact List.mem_append_right _ (List.mem_append_left _ hz))
        · rcases List.mem_append.mp hx with hx | hx
          · exact n1.2.2 _ (hf z hx) _ (List.mem_append_left _ hz) rfl
          · exact n2.2.2 _ hz _ (restK_sub ks r z hx) rfl
      have djT : ∀ z ∈ mks d, z ∉ mks T := fun z hz hx => dj z hz (cond z hx (dq z hz))
      have od : Ov N (ml d) := by
        rw [hq, ml_eq, show kids (.node m l (kids q)) = dn ++ d :: r from hk, mls_app, mls_cons] at oq
        exact (Ov.left (Ov.right (Ov.right (xs := [_]) oq)))
      have pu : (ml (.node m l (fr ++ d :: restK ks r))).Perm (ml d ++ ml (.node m l (fr ++ restK ks r))) := by
        have h1 : (ml (.node m l (fr ++ d :: restK ks r))).Perm (ml (.node m l (d :: (fr ++ restK ks r)))) := ml_kids List.perm_middle
        refine h1.trans ?_
        rw [ml_eq, ml_eq (.node m l (fr ++ restK ks r))]
        show ((m, l) :: mls (d :: (fr ++ restK ks r))).Perm (ml d ++ (m, l) :: mls (fr ++ restK ks r))
        rw [mls_cons]
        exact List.perm_middle.symm
      have ou : Ov N (ml (.node m l (fr ++ d :: restK ks r))) := (Ov.app od (ov.sub hT) dj).perm pu.symm
      have hu : ∀ z ∈ mks (.node m l (fr ++ d :: restK ks r)), z ∈ mks q := fun z hz => by
        rw [mks_nd, mkL_app, mkL_cons] at hz
        rw [hq, mks_nd, hk, mkL_app, mkL_cons]
        rcases List.mem_cons.mp hz with rfl | hz
        · exact List.mem_cons_self
        · refine List.mem_cons_of_mem _ ?_
          rcases List.mem_append.mp hz with hz | hz
          · exact List.mem_append_left _ (hf z hz)
          · refine List.mem_append_right _ ?_
            rcases List.mem_append.mp hz with hz | hz
            · exact List.mem_append_left _ hz
            · exact List.mem_append_right _ (restK_sub ks r z hz)
      obtain ⟨o2, c2⟩ := set_ok hT ov cond ou hu
      have eT : (fr ++ [d]) ++ restK ks r = fr ++ d :: restK ks r := by rw [List.append_assoc]; rfl
      have ih := puts_at hN hq oq bq r (dn ++ [d]) (fr ++ [d]) (setAt T π (.node m l (fr ++ d :: restK ks r))) hk2 (by rw [eT]; exact sub_set _ hT) o2 (by rw [eT]; exact c2) (fun z hz => by
        rw [mkL_app, List.mem_append] at hz ⊢
        rcases hz with hz | hz
        · exact .inl (hf z hz)
        · exact .inr hz)
      have e2 : fr ++ fullK ks (d :: r) = (fr ++ [d]) ++ fullK ks r := by
        unfold fullK
        rw [List.map_cons, e, List.append_assoc]
        rfl
      rw [set_set _ _ hT, ← e2] at ih
      rw [putsI, e]
      rw [List.length_append] at ih
      refine ⟨⟨gT, ⟨_, sub_mem hT, rfl, ?_, ?_, ?_⟩, (fun _ z => nomatch z), (fun m' i' s' z => ?_), ?_⟩, ?_, ih.2.2.1, ih.2.2.2⟩
      · show fr.length ≤ (fr ++ restK ks r).length
        rw [List.length_append]
        omega
      · rw [← mks_eq, ← mks_eq]
        exact List.nodup_append.mpr ⟨ov.nd, od.nd, fun a ha b hb e => djT b hb (e ▸ ha)⟩
      · have l1 := ov.len
        have l2 := od.len
        omega
      · cases z
        exact bq d (pre_trans q (self_pre q) (kid_pre dm))
      · rw [ea]
        exact ih.1
      · show runs (putsI m ks (fr.length + 1) r) (aft (.put m fr.length d) T) = _
        rw [ea]
        exact ih.2.1
end

section
variable {P : Program} {w : World} {K : PySem.W.Frag} {mg : Str → Option Value} {base : Heap}
end
end K11
set_option Elab.async false
set_option linter.all false
set_option maxRecDepth 100000
set_option maxHeartbeats 4000000
namespace K11
open PySem PySem.Spec PyProof.Rows L2 XL
/-! ### the whole way -/
theorem fullK_nil (ds : List Tr) : fullK [] ds = ds := by
  unfold fullK
  conv => rhs; rw [← List.map_id ds]
  exact List.map_congr_left fun d _ => rfl
theorem fndT_cons {c : Tr} {r : List Tr} {m : Str} : fndT (c :: r) m = if mrk c = m then some c else fndT r m := by
  unfold fndT
  rw [List.find?_cons]
  by_cases e : mrk c = m
  · rw [decide_eq_true e, if_pos e]
  · rw [decide_eq_false e, if_neg e]
theorem fndT_no {ds : List Tr} {m : Str} (h : m ∉ ds.map mrk) : fndT ds m = none := by
  cases e : fndT ds m with
  | none => rfl
  | some d =>
    obtain ⟨h1, h2⟩ := fndT_some e
    exact absurd (by rw [← h2]; exact List.mem_map_of_mem h1) h
theorem now_perm {ks ds : List Tr} (nk : (ks.map mrk).Nodup) (nd : (ds.map mrk).Nodup) : (nowK ks ds).Perm (wanK ks ds) := by
  have n1 : (nowK ks ds).Nodup := nk.sublist (List.Sublist.map _ List.filter_sublist)
  have n2 : (wanK ks ds).Nodup := nd.sublist (List.Sublist.map _ List.filter_sublist)
  refine (List.perm_ext_iff_of_nodup n1 n2).mpr fun m => ⟨fun h => ?_, fun h => ?_⟩
  · obtain ⟨c, hc, rfl⟩ := List.mem_map.mp h
    obtain ⟨h1, h2⟩ := List.mem_filter.mp hc
    obtain ⟨d, hd⟩ := Option.isSome_iff_exists.mp h2
    obtain ⟨h3, h4⟩ := fndT_some hd
    refine List.mem_map.mpr ⟨d, List.mem_filter.mpr ⟨h3, ?_⟩, h4⟩
    rw [h4, fndT_in nk h1]
    rfl
  · obtain ⟨d, hd, rfl⟩ := List.mem_map.mp h
    obtain ⟨h1, h2⟩ := List.mem_filter.mp hd
    obtain ⟨c, hc⟩ := Option.isSome_iff_exists.mp h2
    obtain ⟨h3, h4⟩ := fndT_some hc
    refine List.mem_map.mpr ⟨c, List.mem_filter.mpr ⟨h3, ?_⟩, h4⟩
    rw [h4, fndT_in nd h1]
    rfl
theorem mks_kidN {q d : Tr} (h : d ∈ kids q) : ∀ z ∈ mks d, z ∈ mks q := fun z hz => by
  rw [tr_eta q, mks_nd]
  exact List.mem_cons_of_mem _ (mkL_mem.mpr ⟨d, h, hz⟩)
theorem Ov.kid {N : List Str} {q d : Tr} (h : Ov N (ml q)) (hd : d ∈ kids q) : Ov N (ml d) := by
  obtain ⟨j, hj⟩ := List.mem_iff_getElem?.mp hd
  have h1 : K11.sub q [] = some q := rfl
  exact h.sub ((sub_sncB j h1).trans hj)
/-- at one node: said, moved and put -/
theorem node_at11 {N S : List Str} {t T p q : Tr} {π : List Nat} (hN : N.length ≤ 60) (em : mrk p = mrk q) (nk : ((kids p).map mrk).Nodup) (oq : Ov N (ml q)) (bq : ∀ x ∈ pre q, x ∈ pre t) (hT : K11.sub T π = some (cut p q)) (ov : Ov N (ml T)) (cond : ∀ z ∈ mks T, z ∈ mks q → z ∈ mks (cut p q)) :
    Ld S t (ndRows p q) T ∧ runs (ndRows p q) T = setAt T π (.node (mrk p) (lbl q) (fullK (kids p) (kids q))) ∧ Ov N (ml (setAt T π (.node (mrk p) (lbl q) (fullK (kids p) (kids q))))) ∧
    ∀ z ∈ mks (setAt T π (.node (mrk p) (lbl q) (fullK (kids p) (kids q)))), z ∈ mks q → z ∈ mks (.node (mrk p) (lbl q) (fullK (kids p) (kids q))) := by
  have ndq : ((kids q).map mrk).Nodup := kids_ndM oq.ndm
  have hq : q = .node (mrk p) (lbl q) (kids q) := by rw [em]; exact tr_eta q
  have tl : Tx 1 20 (lbl q) := (oq.ok (mrk q, lbl q) (by rw [ml_eq]; exact List.mem_cons_self)).2.2
  -- said
  have h1 : Ld S t (if lbl p = lbl q then [] else [.say (mrk p) (lbl q)]) T ∧ runs (if lbl p = lbl q then [] else [.say (mrk p) (lbl q)]) T = setAt T π (.node (mrk p) (lbl q) (cuts (kids p) (kids q))) := by
    by_cases e : lbl p = lbl q
    · rw [if_pos e, ← e, ← cut_eq]
      exact ⟨ov.gt hN, (set_sub hT).symm⟩
    · rw [if_neg e]
      have := step_say (S := S) (t := t) hN hT ov tl
      rw [cut_mrk, show kids (cut p q) = cuts (kids p) (kids q) by rw [cut_eq]; rfl] at this
      exact this
  have ox := ov.sub hT
  have hsub : ∀ z ∈ mks (.node (mrk p) (lbl q) (cuts (kids p) (kids q))), z ∈ mks q := fun z hz => by
    refine cut_sub p q em z ?_
    rw [cut_eq, mks_nd]
    rw [mks_nd] at hz
    exact hz
  have o1 : Ov N (ml (.node (mrk p) (lbl q) (cuts (kids p) (kids q)))) := by
    rw [cut_eq, ml_eq] at ox
    rw [ml_eq]
    refine ⟨ox.nd, fun z hz => ?_⟩
    rcases List.mem_cons.mp hz with rfl | hz
    · have := ox.ok _ List.mem_cons_self
      exact ⟨this.1, this.2.1, tl⟩
    · exact ox.ok _ (List.mem_cons_of_mem _ hz)
  obtain ⟨oT1, c1⟩ := set_ok hT ov cond o1 hsub
  have hT1 := sub_set (.node (mrk p) (lbl q) (cuts (kids p) (kids q))) hT
  -- moved
  have pw := now_perm nk ndq
  have ndw : (wanK (kids p) (kids q)).Nodup := ndq.sublist (List.Sublist.map _ List.filter_sublist)
  have ndn := pw.nodup_iff.mpr ndw
  have ndc : ((cuts (kids p) (kids q)).map mrk).Nodup := by rw [cuts_marks]; exact ndn
  have h2 : Ld S t (movesK (nowK (kids p) (kids q)) (wanK (kids p) (kids q))) (setAt T π (.node (mrk p) (lbl q) (cuts (kids p) (kids q)))) ∧
      runs (movesK (nowK (kids p) (kids q)) (wanK (kids p) (kids q))) (setAt T π (.node (mrk p) (lbl q) (cuts (kids p) (kids q)))) = setAt T π (.node (mrk p) (lbl q) (restK (kids p) (kids q))) ∧ (restK (kids p) (kids q)).Perm (cuts (kids p) (kids q)) := by
    have inC : ∀ y ∈ restK (kids p) (kids q), y ∈ cuts (kids p) (kids q) := fun y hy => by
      obtain ⟨d, hd, c, e1, e2⟩ := restK_mem hy
      obtain ⟨h3, h4⟩ := fndT_some e1
      exact cuts_mem.mpr ⟨c, h3, d, by rw [h4]; exact fndT_in ndq hd, e2⟩
    unfold movesK
    by_cases e : nowK (kids p) (kids q) = wanK (kids p) (kids q)
    · rw [if_pos e]
      have er : cuts (kids p) (kids q) = restK (kids p) (kids q) := eq_marks ndc (by rw [cuts_marks, restK_marks]; exact e) (fun x hx => hx) inC
      exact ⟨oT1.gt hN, by rw [er]; rfl, by rw [er]⟩
    · rw [if_neg e]
      obtain ⟨ks, k1, k2, k3, k4⟩ := moves_at (S := S) (t := t) (K := keptK (nowK (kids p) (kids q)) (wanK (kids p) (kids q))) hN hT1 oT1 (cuts_marks (kids q) (kids p)) pw ndw _ (Nat.le_refl _)
      rw [mvO_end ndw pw keptK_asc] at k1
      have er : ks = restK (kids p) (kids q) := eq_marks ndc (by rw [k1, restK_marks]) (fun x hx => k2.mem_iff.mp hx) inC
      rw [er] at k2 k3
      rw [set_set _ _ hT] at k3
      exact ⟨k4, k3, k2⟩
  obtain ⟨m1, m2, m3⟩ := h2
  have o2 : Ov N (ml (.node (mrk p) (lbl q) (restK (kids p) (kids q)))) := o1.perm (ml_kids m3.symm)
  have hsub2 : ∀ z ∈ mks (.node (mrk p) (lbl q) (restK (kids p) (kids q))), z ∈ mks q := fun z hz => hsub z (((ml_kids (m := mrk p) (l := lbl q) m3).map (·.1)).mem_iff.mp hz)
  obtain ⟨oT2, c2⟩ := set_ok hT ov cond o2 hsub2
  have hT2 := sub_set (.node (mrk p) (lbl q) (restK (kids p) (kids q))) hT
  -- put
  obtain ⟨p1, p2, p3, p4⟩ := puts_at (S := S) (t := t) (ks := kids p) hN hq oq bq (kids q) [] [] _ rfl hT2 oT2 c2 (fun z hz => hz)
  rw [List.nil_append, set_set _ _ hT] at p2 p3 p4
  refine ⟨(h1.1.app (by rw [h1.2]; exact m1)).app ?_, ?_, p3, p4⟩
  · rw [runs_app, h1.2, m2]
    exact p1
  · unfold ndRows
    rw [runs_app, runs_app, h1.2, m2]
    exact p2
mutual
theorem adds {N S : List Str} {t : Tr} (hN : N.length ≤ 60) : ∀ (p q : Tr), mrk p = mrk q → ((pre p).map mrk).Nodup → Ov N (ml q) → (∀ x ∈ pre q, x ∈ pre t) → ∀ (T : Tr) (π : List Nat), K11.sub T π = some (cut p q) → Ov N (ml T) → (∀ z ∈ mks T, z ∈ mks q → z ∈ mks (cut p q)) → Ld S t (rwl p q) T ∧ runs (rwl p q) T = setAt T π q
  | .node m l ks, q, em, np, oq, bq, T, π, hT, ov, cond => by
    have nk : (ks.map mrk).Nodup := kids_ndM np
    obtain ⟨n1, n2, n3, n4⟩ := node_at11 (S := S) hN em nk oq bq hT ov cond
    have ndk : ((pres ks).map mrk).Nodup := by
      rw [pre_eq, List.map_cons, List.nodup_cons] at np
      exact np.2
    have hq : q = .node m (lbl q) (kids q) := by
      have : m = mrk q := em
      rw [this]
      exact tr_eta q
    have ods : Ov N (mls (kids q)) := by
      rw [ml_eq] at oq
      exact Ov.right (xs := [_]) oq
    have mq : m ∉ mkL (kids q) := by
      have := oq.nd
      rw [hq, ml_eq, List.map_cons, List.nodup_cons] at this
      exact this.1
    obtain ⟨a1, a2⟩ := addsL (S := S) hN ks (kids q) ndk nk (kids_ndM oq.ndm) ods (fun d hd x hx => bq x (pre_trans q (kid_pre hd) hx)) _ π m (lbl q) (sub_set _ hT) n3 (by rw [← hq]; exact n4) mq
    simp only [rwl]
    refine ⟨n1.app (by rw [n2]; exact a1), ?_⟩
    rw [runs_app, n2]
    show runs (rwls ks (kids q)) (setAt T π (.node m (lbl q) (fullK ks (kids q)))) = _
    rw [a2, set_set _ _ hT, ← hq]
theorem addsL {N S : List Str} {t : Tr} (hN : N.length ≤ 60) : ∀ (rs ds : List Tr), ((pres rs).map mrk).Nodup → (rs.map mrk).Nodup → (ds.map mrk).Nodup → Ov N (mls ds) → (∀ d ∈ ds, ∀ x ∈ pre d, x ∈ pre t) → ∀ (T : Tr) (π : List Nat) (m l : Str), K11.sub T π = some (.node m l (fullK rs ds)) → Ov N (ml T) →
    (∀ z ∈ mks T, z ∈ mks (.node m l ds) → z ∈ mks (.node m l (fullK rs ds))) → m ∉ mkL ds → Ld S t (rwls rs ds) T ∧ runs (rwls rs ds) T = setAt T π (.node m l ds)
  | [], ds, _, _, _, _, _, T, π, m, l, hT, ov, cond, mq => by
    rw [fullK_nil] at hT
    exact ⟨ov.gt hN, (set_sub hT).symm⟩
  | c :: r, ds, np, nk, nd, ods, bq, T, π, m, l, hT, ov, cond, mq => by
    have npc : ((pre c).map mrk).Nodup ∧ ((pres r).map mrk).Nodup := by
      simp only [pres, List.map_append] at np
      exact ⟨(List.nodup_append.mp np).1, (List.nodup_append.mp np).2.1⟩
    have nkr := nk
    rw [List.map_cons, List.nodup_cons] at nkr
    simp only [rwls]
    cases e : fndT ds (mrk c) with
    | none =>
      have ef : fullK (c :: r) ds = fullK r ds := List.map_congr_left fun d hd => by
        rw [fndT_cons, if_neg (fun e2 => fndT_none e d hd e2.symm)]
      rw [ef] at hT cond
      exact addsL hN r ds npc.2 nkr.2 nd ods bq T π m l hT ov cond mq
    | some d =>
      obtain ⟨dm, ed⟩ := fndT_some e
      obtain ⟨j, hj⟩ := List.mem_iff_getElem?.mp dm
      have jl := (List.getElem?_eq_some_iff.mp hj).1
      have hL : (fullK (c :: r) ds)[j]? = some (cut c d) := by
        unfold fullK
        rw [List.getElem?_map, hj, Option.map_some, fndT_cons, if_pos ed.symm]
      have od : Ov N (ml d) := by
        obtain ⟨a, b, ea, al, _, _⟩ := pres_at hj
        rw [ea, mls_app, mls_cons] at ods
        exact (Ov.left (Ov.right ods))
      have hTj : K11.sub T (π ++ [j]) = some (cut c d) := (sub_sncB j hT).trans hL
      have sub1 : ∀ z ∈ mks d, z ∈ mks (.node m l ds) := fun z hz => by
        rw [mks_nd]
        exact List.mem_cons_of_mem _ (mkL_mem.mpr ⟨d, dm, hz⟩)
      have gsub : ∀ (rs : List Tr) (d' : Tr), ∀ z ∈ mks (match fndT rs (mrk d') with
        | some c => cut c d'
        | none => d'), z ∈ mks d' := fun rs d' z hz => by
        cases e3 : fndT rs (mrk d') with
        | none => rw [e3] at hz; exact hz
        | some c' => rw [e3] at hz; exact cut_sub c' d' (fndT_some e3).2 z hz
      have ndp : (mkL ds).Nodup := ods.nd
      have cond1 : ∀ z ∈ mks T, z ∈ mks d → z ∈ mks (cut c d) := fun z hz hd => by
        have h1 := cond z hz (sub1 z hd)
        rw [mks_nd] at h1
        rcases List.mem_cons.mp h1 with rfl | h1
        · exact absurd (mkL_mem.mpr ⟨d, dm, hd⟩) mq
        · obtain ⟨x, hx1, hx2⟩ := mkL_mem.mp h1
          obtain ⟨i, hi⟩ := List.mem_iff_getElem?.mp hx1
          have hi2 := hi
          unfold fullK at hi
          rw [List.getElem?_map] at hi
          obtain ⟨d', hd', ex⟩ := Option.map_eq_some_iff.mp hi
          rw [← ex] at hx2
          have h3 := gsub _ _ z hx2
          have ij : i = j := nd_two (ts := ds) (by rw [← mls_mrk]; exact ndp) hd' hj (by rw [← mks_eq]; exact h3) (by rw [← mks_eq]; exact hd)
          subst ij
          rw [hL] at hi2
          rw [ex, ← Option.some.inj hi2] at hx2
          exact hx2
      obtain ⟨i1, i2⟩ := adds (S := S) hN c d ed.symm npc.1 od (bq d dm) T _ hTj ov cond1
      have eT : setAt T (π ++ [j]) d = setAt T π (.node m l ((fullK (c :: r) ds).set j d)) := setAt_snc hT hL
      have ef : (fullK (c :: r) ds).set j d = fullK r ds := by
        refine List.ext_getElem? fun i => ?_
        by_cases eij : i = j
        · subst eij
          rw [List.getElem?_set_self (by unfold fullK; rw [List.length_map]; exact jl)]
          unfold fullK
          rw [List.getElem?_map, hj, Option.map_some, fndT_no (by rw [ed]; exact nkr.1)]
        · rw [List.getElem?_set_ne (Ne.symm eij)]
          unfold fullK
          rw [List.getElem?_map, List.getElem?_map]
          cases hi : ds[i]? with
          | none => rfl
          | some d' =>
            rw [Option.map_some, Option.map_some, fndT_cons, if_neg]
            intro e2
            have a1 : (ds.map mrk)[i]? = some (mrk d') := by rw [List.getElem?_map, hi]; rfl
            have a2 : (ds.map mrk)[j]? = some (mrk d') := by rw [List.getElem?_map, hj, ← e2, ← ed]; rfl
            have b1 := idxOf_at nd a1
            rw [idxOf_at nd a2] at b1
            exact eij b1.symm
      rw [ef] at eT
      obtain ⟨o2, _⟩ := set_ok hTj ov cond1 od (fun z hz => hz)
      have hT' : K11.sub (setAt T (π ++ [j]) d) π = some (.node m l (fullK r ds)) := by rw [eT]; exact sub_set _ hT
      have ou := o2.sub hT'
      have usub : ∀ z ∈ mks (.node m l (fullK r ds)), z ∈ mks (.node m l ds) := fun z hz => by
        rw [mks_nd] at hz ⊢
        rcases List.mem_cons.mp hz with rfl | hz
        · exact List.mem_cons_self
        · obtain ⟨x, hx1, hx2⟩ := mkL_mem.mp hz
          obtain ⟨d', hd', rfl⟩ := List.mem_map.mp hx1
          exact List.mem_cons_of_mem _ (mkL_mem.mpr ⟨d', hd', gsub r d' z hx2⟩)
      obtain ⟨_, c3⟩ := set_ok hT ov cond ou usub
      obtain ⟨a1, a2⟩ := addsL (S := S) hN r ds npc.2 nkr.2 nd ods bq _ π m l hT' o2 (by rw [eT]; exact c3) mq
      refine ⟨i1.app (by rw [i2]; exact a1), ?_⟩
      show runs (rwl c d ++ rwls r ds) T = _
      rw [runs_app, i2, a2, eT, set_set _ _ hT]
end
theorem btw_leads {N S : List Str} {s t : Tr} (hN : N.length ≤ 60) (os : Ov N (ml s)) (ot : Ov N (ml t)) (em : mrk s = mrk t) (np : Npr S s t) : Ld S t (btw s t) s ∧ runs (btw s t) s = t := by
  have h0 : K11.sub s [] = some s := rfl
  obtain ⟨d1, d2⟩ := drops (t := t) hN s t np s [] h0 os
  have d2 : runs (drl s t) s = cut s t := d2
  obtain ⟨E, hE⟩ := cut_ml s t
  have oc : Ov N (ml (cut s t)) := (os.perm hE).left
  have h1 : K11.sub (cut s t) [] = some (cut s t) := rfl
  obtain ⟨a1, a2⟩ := adds (S := S) hN s t em os.ndm ot (fun _ h => h) (cut s t) [] h1 oc (fun z hz _ => hz)
  refine ⟨d1.app (by rw [d2]; exact a1), ?_⟩
  unfold btw
  rw [runs_app, d2, a2]
  rfl

section
variable {P : Program} {w : World} {K : PySem.W.Frag} {mg : Str → Option Value} {base : Heap}
end
end K11
set_option Elab.async false
set_option linter.all false
set_option maxRecDepth 100000
set_option maxHeartbeats 4000000
namespace K11
open PySem PySem.Spec PyProof.Rows L2 XL
/-! ### who stays: by the rows of the table -/
mutual
theorem stl_sub : ∀ (p q : Tr), ∀ z ∈ stl p q, z ∈ mks p
  | .node m l ks, q, z, h => by
    simp only [stl] at h
    rw [mks_nd]
    rcases List.mem_cons.mp h with rfl | h
    · exact List.mem_cons_self
    · exact List.mem_cons_of_mem _ (stls_sub ks (kids q) z h)
theorem stls_sub : ∀ (ks ds : List Tr), ∀ z ∈ stls ks ds, z ∈ mkL ks
  | [], ds, z, h => by simp [stls] at h
  | c :: r, ds, z, h => by
    simp only [stls, List.mem_append] at h
    rw [mkL_cons, List.mem_append]
    rcases h with h | h
    · cases e : fndT ds (mrk c) with
      | none => rw [e] at h; simp at h
      | some d => rw [e] at h; exact .inl (stl_sub c d z h)
    · exact .inr (stls_sub r ds z h)
end
theorem stls_head {c : Tr} {r ds : List Tr} (nd : (mkL (c :: r)).Nodup) {z : Str} (hz : z ∈ mks c) : z ∈ stls (c :: r) ds ↔ z ∈ (match fndT ds (mrk c) with
    | some d => stl c d
    | none => ([] : List Str)) := by
  rw [mkL_cons] at nd
  simp only [stls, List.mem_append]
  exact ⟨fun h => h.elim id fun h => absurd rfl ((List.nodup_append.mp nd).2.2 _ hz _ (stls_sub r ds z h)), .inl⟩
theorem stls_tail {c : Tr} {r ds : List Tr} (nd : (mkL (c :: r)).Nodup) {z : Str} (hz : z ∈ mkL r) : z ∈ stls (c :: r) ds ↔ z ∈ stls r ds := by
  rw [mkL_cons] at nd
  simp only [stls, List.mem_append]
  refine ⟨fun h => h.elim (fun h => ?_) id, .inr⟩
  cases e : fndT ds (mrk c) with
  | none => rw [e] at h; simp at h
  | some d => rw [e] at h; exact absurd rfl ((List.nodup_append.mp nd).2.2 _ (stl_sub c d z h) _ hz)
theorem mkL_nd {c : Tr} {r : List Tr} (nd : (mkL (c :: r)).Nodup) : (mks c).Nodup ∧ (mkL r).Nodup := by
  rw [mkL_cons] at nd
  exact ⟨(List.nodup_append.mp nd).1, (List.nodup_append.mp nd).2.1⟩
theorem mks_ndK {m l : Str} {ks : List Tr} (nd : (mks (.node m l ks)).Nodup) : m ∉ mkL ks ∧ (mkL ks).Nodup := by
  rw [mks_nd, List.nodup_cons] at nd
  exact nd
theorem st_kids {S : List Str} {m l : Str} {ks : List Tr} {q : Tr} (nd : (mks (.node m l ks)).Nodup) (h : ∀ z ∈ mks (.node m l ks), z ∈ S ↔ z ∈ stl (.node m l ks) q) : ∀ z ∈ mkL ks, z ∈ S ↔ z ∈ stls ks (kids q) := fun z hz => by
  have h1 := h z (by rw [mks_nd]; exact List.mem_cons_of_mem _ hz)
  rw [h1]
  simp only [stl]
  rw [List.mem_cons]
  exact ⟨fun h => h.elim (fun e => absurd (e ▸ hz) (mks_ndK nd).1) id, .inr⟩
mutual
theorem npr_of {S : List Str} : ∀ (p q : Tr), (mks p).Nodup → (∀ z ∈ mks p, z ∈ S ↔ z ∈ stl p q) → Npr S p q
  | .node m l ks, q, nd, h => by
    simp only [Npr]
    exact nprs_of ks (kids q) (mks_ndK nd).2 (st_kids nd h)
theorem nprs_of {S : List Str} : ∀ (ks ds : List Tr), (mkL ks).Nodup → (∀ z ∈ mkL ks, z ∈ S ↔ z ∈ stls ks ds) → Nprs S ks ds
  | [], ds, _, _ => by simp only [Nprs]
  | c :: r, ds, nd, h => by
    simp only [Nprs]
    have hc : ∀ z ∈ mks c, z ∈ S ↔ z ∈ (match fndT ds (mrk c) with
      | some d => stl c d
      | none => ([] : List Str)) := fun z hz => (h z (by rw [mkL_cons]; exact List.mem_append_left _ hz)).trans (stls_head nd hz)
    refine ⟨?_, nprs_of r ds (mkL_nd nd).2 fun z hz => (h z (by rw [mkL_cons]; exact List.mem_append_right _ hz)).trans (stls_tail nd hz)⟩
    cases e : fndT ds (mrk c) with
    | none =>
      rw [e] at hc
      exact fun z hz hS => by simpa using (hc z hz).mp hS
    | some d =>
      rw [e] at hc
      exact npr_of c d (mkL_nd nd).1 hc
end
theorem par_uniq {s a b c d : Tr} (nd : ((pre s).map mrk).Nodup) (ha : a ∈ pre s) (hb : b ∈ pre s) (hc : c ∈ kids a) (hd : d ∈ kids b) (e : mrk c = mrk d) : a = b := by
  obtain ⟨π, h1⟩ := pre_sub s ha
  obtain ⟨π', h2⟩ := pre_sub s hb
  obtain ⟨i, hi⟩ := List.mem_iff_getElem?.mp hc
  obtain ⟨j, hj⟩ := List.mem_iff_getElem?.mp hd
  have h3 := (sub_sncB i h1).trans hi
  have h4 := (sub_sncB j h2).trans hj
  have h5 := path_uniq nd h3 h4 e
  have h6 : π = π' := (List.append_inj' h5 rfl).1
  rw [h6, h2] at h1
  exact (Option.some.inj h1).symm
/-- m stands right beneath u -/
def kidB (t : Tr) (u m : Str) : Bool := (pre t).any fun q => decide (mrk q = u) && decide (m ∈ (kids q).map mrk)
theorem kidB_iff {t q : Tr} {m : Str} (nd : ((pre t).map mrk).Nodup) (hq : q ∈ pre t) : kidB t (mrk q) m = true ↔ m ∈ (kids q).map mrk := by
  unfold kidB
  rw [List.any_eq_true]
  constructor
  · rintro ⟨x, hx, h⟩
    simp only [Bool.and_eq_true, decide_eq_true_eq] at h
    rw [mrk_inj nd hx hq h.1] at h
    exact h.2
  · intro h
    exact ⟨q, hq, by simp only [Bool.and_eq_true, decide_eq_true_eq]; exact ⟨trivial, h⟩⟩
theorem fnd_some_iff {ds : List Tr} {m : Str} : (fndT ds m).isSome = true ↔ m ∈ ds.map mrk := by
  constructor
  · intro h
    obtain ⟨d, hd⟩ := Option.isSome_iff_exists.mp h
    obtain ⟨h1, h2⟩ := fndT_some hd
    rw [← h2]
    exact List.mem_map_of_mem h1
  · intro h
    cases e : fndT ds m with
    | some d => rfl
    | none =>
      obtain ⟨d, hd, e2⟩ := List.mem_map.mp h
      exact absurd e2 (fndT_none e d hd)
def stB (t : Tr) (out : List Str) (r : Rw) : Bool := match r.2.1 with
  | none => true
  | some u => decide (u ∈ out) && kidB t u (mrk r.1)
def stF (t : Tr) (out : List Str) (rs : List Rw) : List Str := rs.foldl (fun out r => if stB t out r = true then out ++ [mrk r.1] else out) out
theorem stF_app (t : Tr) (out : List Str) (xs ys : List Rw) : stF t out (xs ++ ys) = stF t (stF t out xs) ys := List.foldl_append
theorem stF_cons (t : Tr) (out : List Str) (r : Rw) (rs : List Rw) : stF t out (r :: rs) = stF t (if stB t out r = true then out ++ [mrk r.1] else out) rs := rfl
mutual
theorem stF_no {t : Tr} : ∀ (p : Tr) (u : Option Str) (i lv : Nat) (out : List Str), (∀ z ∈ mks p, z ∉ out) → stB t out (p, u, i, lv) = false → stF t out (tb u i lv p) = out
  | .node m l ks, u, i, lv, out, h, hb => by
    rw [tb, stF_cons, hb, if_neg (by decide)]
    exact stFs_no ks m 0 (lv + 1) out (h m (by rw [mks_nd]; exact List.mem_cons_self)) fun z hz => h z (by rw [mks_nd]; exact List.mem_cons_of_mem _ hz)
theorem stFs_no {t : Tr} : ∀ (ks : List Tr) (m : Str) (i lv : Nat) (out : List Str), m ∉ out → (∀ z ∈ mkL ks, z ∉ out) → stF t out (tbs m i lv ks) = out
  | [], m, i, lv, out, _, _ => rfl
  | c :: r, m, i, lv, out, hm, h => by
    rw [tbs, stF_app, stF_no c (some m) i lv out (fun z hz => h z (by rw [mkL_cons]; exact List.mem_append_left _ hz)) (by show (decide (m ∈ out) && _) = false; rw [decide_eq_false hm]; rfl)]
    exact stFs_no r m (i + 1) lv out hm fun z hz => h z (by rw [mkL_cons]; exact List.mem_append_right _ hz)
end
mutual
theorem stF_yes {t : Tr} (ndt : ((pre t).map mrk).Nodup) : ∀ (p q : Tr) (u : Option Str) (i lv : Nat) (out : List Str), q ∈ pre t → mrk p = mrk q → (mks p).Nodup → (∀ z ∈ mks p, z ∉ out) → stB t out (p, u, i, lv) = true → stF t out (tb u i lv p) = out ++ stl p q
  | .node m l ks, q, u, i, lv, out, hq, em, nd, h, hb => by
    rw [tb, stF_cons, hb, if_pos rfl]
    simp only [stl]
    have := stFs_yes ndt ks q m 0 (lv + 1) (out ++ [m]) hq em.symm (by simp) (mks_ndK nd).2 fun z hz hm => by
      rcases List.mem_append.mp hm with hm | hm
      · exact h z (by rw [mks_nd]; exact List.mem_cons_of_mem _ hz) hm
      · rw [List.mem_singleton.mp hm] at hz
        exact (mks_ndK nd).1 hz
    rw [show mrk (Tr.node m l ks) = m from rfl, this, List.append_assoc]
    rfl
theorem stFs_yes {t : Tr} (ndt : ((pre t).map mrk).Nodup) : ∀ (ks : List Tr) (q : Tr) (m : Str) (i lv : Nat) (out : List Str), q ∈ pre t → mrk q = m → m ∈ out → (mkL ks).Nodup → (∀ z ∈ mkL ks, z ∉ out) → stF t out (tbs m i lv ks) = out ++ stls ks (kids q)
  | [], q, m, i, lv, out, _, _, _, _, _ => by simp [tbs, stF, stls]
  | c :: r, q, m, i, lv, out, hq, em, hm, nd, h => by
    have hc : ∀ z ∈ mks c, z ∉ out := fun z hz => h z (by rw [mkL_cons]; exact List.mem_append_left _ hz)
    have hr : ∀ z ∈ mkL r, z ∉ out := fun z hz => h z (by rw [mkL_cons]; exact List.mem_append_right _ hz)
    have kb : kidB t m (mrk c) = true ↔ mrk c ∈ (kids q).map mrk := by rw [← em]; exact kidB_iff ndt hq
    rw [tbs, stF_app]
    simp only [stls]
    cases e : fndT (kids q) (mrk c) with
    | none =>
      have hb : stB t out (c, some m, i, lv) = false := by
        show (decide (m ∈ out) && kidB t m (mrk c)) = false
        cases hk : kidB t m (mrk c) with
        | false => rw [Bool.and_false]
        | true =>
          have := fnd_some_iff.mpr (kb.mp hk)
          rw [e] at this
          exact nomatch this
      rw [stF_no c (some m) i lv out hc hb, stFs_yes ndt r q m (i + 1) lv out hq em hm (mkL_nd nd).2 hr]
      rfl
    | some d =>
      obtain ⟨h1, h2⟩ := fndT_some e
      have hb : stB t out (c, some m, i, lv) = true := by
        show (decide (m ∈ out) && kidB t m (mrk c)) = true
        rw [decide_eq_true hm, kb.mpr (by rw [← h2]; exact List.mem_map_of_mem h1)]
        rfl
      rw [stF_yes ndt c d (some m) i lv out (pre_trans t hq (kid_pre h1)) h2.symm (mkL_nd nd).1 hc hb]
      rw [stFs_yes ndt r q m (i + 1) lv _ hq em (List.mem_append_left _ hm) (mkL_nd nd).2 fun z hz hx => ?_]
      · rw [List.append_assoc]
      · rcases List.mem_append.mp hx with hx | hx
        · exact hr z hz hx
        · rw [mkL_cons] at nd
          exact (List.nodup_append.mp nd).2.2 _ (stl_sub c d z hx) _ hz rfl
end
theorem stF_all {s t : Tr} (nds : ((pre s).map mrk).Nodup) (ndt : ((pre t).map mrk).Nodup) (em : mrk s = mrk t) : stF t [] (tb none 0 1 s) = stl s t := by
  have := stF_yes ndt s t none 0 1 [] (self_pre t) em (by rw [mks_eq]; exact nds) (fun _ _ h => nomatch h) rfl
  rw [this, List.nil_append]
/-! the drops, by the rows of the table -/
def drB (S : List Str) (r : Rw) : List Pt := match r.2.1 with
  | none => []
  | some u => if mrk r.1 ∉ S ∧ u ∈ S then [.drop (mrk r.1)] else []
mutual
theorem drF_no {S : List Str} : ∀ (p : Tr) (u : Str) (i lv : Nat), u ∉ S → (∀ z ∈ mks p, z ∉ S) → (tb (some u) i lv p).flatMap (drB S) = []
  | .node m l ks, u, i, lv, hu, h => by
    rw [tb, List.flatMap_cons, drFs_no ks m 0 (lv + 1) (h m (by rw [mks_nd]; exact List.mem_cons_self)) fun z hz => h z (by rw [mks_nd]; exact List.mem_cons_of_mem _ hz), List.append_nil]
    exact if_neg fun h => hu h.2
theorem drFs_no {S : List Str} : ∀ (ks : List Tr) (u : Str) (i lv : Nat), u ∉ S → (∀ z ∈ mkL ks, z ∉ S) → (tbs u i lv ks).flatMap (drB S) = []
  | [], _, _, _, _, _ => rfl
  | c :: r, u, i, lv, hu, h => by
    rw [tbs, List.flatMap_append, drF_no c u i lv hu (fun z hz => h z (by rw [mkL_cons]; exact List.mem_append_left _ hz)), drFs_no r u (i + 1) lv hu fun z hz => h z (by rw [mkL_cons]; exact List.mem_append_right _ hz)]
    rfl
end
mutual
theorem drF_yes {S : List Str} : ∀ (p q : Tr) (u : Option Str) (i lv : Nat), (mks p).Nodup → (∀ z ∈ mks p, z ∈ S ↔ z ∈ stl p q) → (tb u i lv p).flatMap (drB S) = drl p q
  | .node m l ks, q, u, i, lv, nd, h => by
    have hm : m ∈ S := (h m (by rw [mks_nd]; exact List.mem_cons_self)).mpr (by simp [stl])
    rw [tb, List.flatMap_cons, drFs_yes ks (kids q) m 0 (lv + 1) hm (mks_ndK nd).2 (st_kids nd h)]
    have e : drB S (.node m l ks, u, i, lv) = [] := by
      cases u with
      | none => rfl
      | some u => exact if_neg fun z => z.1 hm
    rw [e]
    simp only [drl]
    rfl
theorem drFs_yes {S : List Str} : ∀ (ks ds : List Tr) (m : Str) (i lv : Nat), m ∈ S → (mkL ks).Nodup → (∀ z ∈ mkL ks, z ∈ S ↔ z ∈ stls ks ds) → (tbs m i lv ks).flatMap (drB S) = drls ks ds
  | [], _, _, _, _, _, _, _ => rfl
  | c :: r, ds, m, i, lv, hm, nd, h => by
    have hc : ∀ z ∈ mks c, z ∈ S ↔ z ∈ (match fndT ds (mrk c) with
      | some d => stl c d
      | none => ([] : List Str)) := fun z hz => (h z (by rw [mkL_cons]; exact List.mem_append_left _ hz)).trans (stls_head nd hz)
    rw [tbs, List.flatMap_append, drFs_yes r ds m (i + 1) lv hm (mkL_nd nd).2 fun z hz => (h z (by rw [mkL_cons]; exact List.mem_append_right _ hz)).trans (stls_tail nd hz)]
    simp only [drls]
    cases e : fndT ds (mrk c) with
    | some d =>
      rw [e] at hc
      rw [drF_yes c d (some m) i lv (mkL_nd nd).1 hc]
    | none =>
      rw [e] at hc
      have hn : ∀ z ∈ mks c, z ∉ S := fun z hz hS => by simpa using (hc z hz).mp hS
      have e1 : (tb (some m) i lv c).flatMap (drB S) = [.drop (mrk c)] := by
        have hmc := hn (mrk c) (mrk_mks c)
        have : tb (some m) i lv c = (c, some m, i, lv) :: tbs (mrk c) 0 (lv + 1) (kids c) := by
          cases c
          rw [tb]
          rfl
        rw [this, List.flatMap_cons, drFs_no (kids c) (mrk c) 0 (lv + 1) hmc fun z hz => hn z (by rw [tr_eta c, mks_nd]; exact List.mem_cons_of_mem _ hz), List.append_nil]
        exact if_pos ⟨hmc, hm⟩
      rw [e1]
end
/-! the pairs of nodes that stay -/
mutual
def prl : Tr → Tr → List (Tr × Tr)
  | .node m l ks, q => (.node m l ks, q) :: prls ks (kids q)
def prls : List Tr → List Tr → List (Tr × Tr)
  | [], _ => []
  | c :: r, ds => (match fndT ds (mrk c) with
    | some d => prl c d
    | none => []) ++ prls r ds
end
mutual
theorem prl_stl : ∀ p q : Tr, (prl p q).map (fun x => mrk x.1) = stl p q
  | .node m l ks, q => by
    simp only [prl, stl, List.map_cons, prls_stl ks (kids q)]
    rfl
theorem prls_stl : ∀ ks ds : List Tr, (prls ks ds).map (fun x => mrk x.1) = stls ks ds
  | [], _ => rfl
  | c :: r, ds => by
    simp only [prls, stls, List.map_append, prls_stl r ds]
    cases e : fndT ds (mrk c) with
    | none => rfl
    | some d => simp only [prl_stl c d]
end
mutual
theorem prl_rwl : ∀ p q : Tr, rwl p q = (prl p q).flatMap fun x => ndRows x.1 x.2
  | .node m l ks, q => by simp only [prl, rwl, List.flatMap_cons, prls_rwl ks (kids q)]
theorem prls_rwl : ∀ ks ds : List Tr, rwls ks ds = (prls ks ds).flatMap fun x => ndRows x.1 x.2
  | [], _ => rfl
  | c :: r, ds => by
    simp only [prls, rwls, List.flatMap_append, prls_rwl r ds]
    cases e : fndT ds (mrk c) with
    | none => rfl
    | some d => simp only [prl_rwl c d]
end
mutual
theorem prl_in : ∀ p q : Tr, mrk p = mrk q → ∀ x ∈ prl p q, x.1 ∈ pre p ∧ x.2 ∈ pre q ∧ mrk x.1 = mrk x.2
  | .node m l ks, q, em, x, h => by
    simp only [prl] at h
    rcases List.mem_cons.mp h with rfl | h
    · exact ⟨self_pre _, self_pre _, em⟩
    · obtain ⟨h1, h2, h3⟩ := prls_in ks (kids q) x h
      exact ⟨by rw [pre_eq]; exact List.mem_cons_of_mem _ h1, by rw [pre_eq]; exact List.mem_cons_of_mem _ h2, h3⟩
theorem prls_in : ∀ ks ds : List Tr, ∀ x ∈ prls ks ds, x.1 ∈ pres ks ∧ x.2 ∈ pres ds ∧ mrk x.1 = mrk x.2
  | [], _, x, h => by simp [prls] at h
  | c :: r, ds, x, h => by
    simp only [prls, List.mem_append] at h
    rcases h with h | h
    · cases e : fndT ds (mrk c) with
      | none => rw [e] at h; simp at h
      | some d =>
        rw [e] at h
        obtain ⟨g1, g2⟩ := fndT_some e
        obtain ⟨h1, h2, h3⟩ := prl_in c d g2.symm x h
        exact ⟨by simp only [pres]; exact List.mem_append_left _ h1, mem_pres.mpr ⟨d, g1, h2⟩, h3⟩
    · obtain ⟨h1, h2, h3⟩ := prls_in r ds x h
      exact ⟨by simp only [pres]; exact List.mem_append_right _ h1, h2, h3⟩
end
mutual
theorem prl_up : ∀ p q : Tr, ∀ x ∈ prl p q, x = (p, q) ∨ ∃ y ∈ prl p q, x.1 ∈ kids y.1 ∧ x.2 ∈ kids y.2
  | .node m l ks, q, x, h => by
    simp only [prl] at h ⊢
    rcases List.mem_cons.mp h with rfl | h
    · exact .inl rfl
    · rcases prls_up ks (kids q) x h with ⟨h1, h2⟩ | ⟨y, h1, h2⟩
      · exact .inr ⟨_, List.mem_cons_self, h1, h2⟩
      · exact .inr ⟨y, List.mem_cons_of_mem _ h1, h2⟩
theorem prls_up : ∀ ks ds : List Tr, ∀ x ∈ prls ks ds, (x.1 ∈ ks ∧ x.2 ∈ ds) ∨ ∃ y ∈ prls ks ds, x.1 ∈ kids y.1 ∧ x.2 ∈ kids y.2
  | [], _, x, h => by simp [prls] at h
  | c :: r, ds, x, h => by
    simp only [prls, List.mem_append] at h ⊢
    rcases h with h | h
    · cases e : fndT ds (mrk c) with
      | none => rw [e] at h; simp at h
      | some d =>
        rw [e] at h
        rcases prl_up c d x h with rfl | ⟨y, h1, h2⟩
        · exact .inl ⟨List.mem_cons_self, (fndT_some e).1⟩
        · exact .inr ⟨y, .inl h1, h2⟩
    · rcases prls_up r ds x h with ⟨h1, h2⟩ | ⟨y, h1, h2⟩
      · exact .inl ⟨List.mem_cons_of_mem _ h1, h2⟩
      · exact .inr ⟨y, .inr h1, h2⟩
end
mutual
theorem prl_dn : ∀ p q : Tr, ∀ x ∈ prl p q, ∀ c ∈ kids x.1, ∀ d, fndT (kids x.2) (mrk c) = some d → (c, d) ∈ prl p q
  | .node m l ks, q, x, h, c, hc, d, e => by
    simp only [prl] at h ⊢
    rcases List.mem_cons.mp h with rfl | h
    · exact List.mem_cons_of_mem _ (prls_dn0 ks (kids q) c hc d e)
    · exact List.mem_cons_of_mem _ (prls_dn ks (kids q) x h c hc d e)
theorem prls_dn : ∀ ks ds : List Tr, ∀ x ∈ prls ks ds, ∀ c ∈ kids x.1, ∀ d, fndT (kids x.2) (mrk c) = some d → (c, d) ∈ prls ks ds
  | [], _, x, h, _, _, _, _ => by simp [prls] at h
  | k :: r, ds, x, h, c, hc, d, e => by
    simp only [prls, List.mem_append] at h ⊢
    rcases h with h | h
    · cases e2 : fndT ds (mrk k) with
      | none => rw [e2] at h; simp at h
      | some d2 =>
        rw [e2] at h
        exact .inl (prl_dn k d2 x h c hc d e)
    · exact .inr (prls_dn r ds x h c hc d e)
theorem prls_dn0 : ∀ ks ds : List Tr, ∀ c ∈ ks, ∀ d, fndT ds (mrk c) = some d → (c, d) ∈ prls ks ds
  | [], _, _, h, _, _ => nomatch h
  | k :: r, ds, c, hc, d, e => by
    simp only [prls, List.mem_append]
    rcases List.mem_cons.mp hc with rfl | hc
    · rw [e]
      refine .inl ?_
      cases c
      simp only [prl]
      exact List.mem_cons_self
    · exact .inr (prls_dn0 r ds c hc d e)
end
section
variable {s t : Tr} {x : Tr × Tr}
theorem stl_pair {m : Str} (h : m ∈ stl s t) : ∃ y ∈ prl s t, mrk y.1 = m := by
  rw [← prl_stl] at h
  obtain ⟨y, hy, e⟩ := List.mem_map.mp h
  exact ⟨y, hy, e⟩
theorem pair_stl (h : x ∈ prl s t) : mrk x.1 ∈ stl s t := by
  rw [← prl_stl]
  exact List.mem_map_of_mem (f := fun x : Tr × Tr => mrk x.1) h
theorem st_old (nds : ((pre s).map mrk).Nodup) (ndt : ((pre t).map mrk).Nodup) (em : mrk s = mrk t) (hx : x ∈ prl s t) {c : Tr} (hc : c ∈ kids x.1) : mrk c ∈ stl s t ↔ (fndT (kids x.2) (mrk c)).isSome = true := by
  obtain ⟨i1, i2, i3⟩ := prl_in s t em x hx
  constructor
  · intro h
    obtain ⟨y, hy, e⟩ := stl_pair h
    obtain ⟨j1, j2, j3⟩ := prl_in s t em y hy
    have ey : y.1 = c := mrk_inj nds j1 (pre_trans s i1 (kid_pre hc)) e
    rcases prl_up s t y hy with ey2 | ⟨z, hz, k1, k2⟩
    · have : s = c := by rw [← ey, ey2]
      obtain ⟨π, h1⟩ := pre_sub s i1
      have l1 := sub_lev h1
      have l2 := hgt_kid hc
      rw [← this] at l2
      omega
    · obtain ⟨a1, a2, a3⟩ := prl_in s t em z hz
      rw [ey] at k1
      have e1 : z.1 = x.1 := par_uniq nds a1 i1 k1 hc rfl
      have e2 : z.2 = x.2 := mrk_inj ndt a2 i2 (by rw [← a3, e1, i3])
      rw [e2] at k2
      exact fnd_some_iff.mpr (by rw [← e, j3]; exact List.mem_map_of_mem k2)
  · intro h
    obtain ⟨d, hd⟩ := Option.isSome_iff_exists.mp h
    exact pair_stl (x := (c, d)) (prl_dn s t x hx c hc d hd)
theorem st_new (nds : ((pre s).map mrk).Nodup) (ndt : ((pre t).map mrk).Nodup) (em : mrk s = mrk t) (hx : x ∈ prl s t) {d : Tr} (hd : d ∈ kids x.2) : mrk d ∈ stl s t ↔ (fndT (kids x.1) (mrk d)).isSome = true := by
  obtain ⟨i1, i2, i3⟩ := prl_in s t em x hx
  constructor
  · intro h
    obtain ⟨y, hy, e⟩ := stl_pair h
    obtain ⟨j1, j2, j3⟩ := prl_in s t em y hy
    have ey : y.2 = d := mrk_inj ndt j2 (pre_trans t i2 (kid_pre hd)) (by rw [← j3, e])
    rcases prl_up s t y hy with ey2 | ⟨z, hz, k1, k2⟩
    · have : t = d := by rw [← ey, ey2]
      obtain ⟨π, h1⟩ := pre_sub t i2
      have l1 := sub_lev h1
      have l2 := hgt_kid hd
      rw [← this] at l2
      omega
    · obtain ⟨a1, a2, a3⟩ := prl_in s t em z hz
      rw [ey] at k2
      have e1 : z.2 = x.2 := par_uniq ndt a2 i2 k2 hd rfl
      have e2 : z.1 = x.1 := mrk_inj nds a1 i1 (by rw [a3, e1, i3])
      rw [e2] at k1
      exact fnd_some_iff.mpr (by rw [← e]; exact List.mem_map_of_mem k1)
  · intro h
    obtain ⟨c, hc⟩ := Option.isSome_iff_exists.mp h
    obtain ⟨h1, h2⟩ := fndT_some hc
    rw [← h2]
    exact (st_old nds ndt em hx h1).mpr (by rw [h2]; exact fnd_some_iff.mpr (List.mem_map_of_mem hd))
end

section
variable {P : Program} {w : World} {K : PySem.W.Frag} {mg : Str → Option Value} {base : Heap}
end
end K11
set_option Elab.async false
set_option linter.all false
set_option maxRecDepth 100000
set_option maxHeartbeats 4000000
namespace K11
open PySem PySem.Spec PyProof.Rows L2 XL
section
variable {P : Program} {w : World} {K : PySem.W.Frag} {mg : Str → Option Value} {base : Heap}
/-! ### staying -/
def spRoots (K : PySem.W.Frag) (C : Addr) : Sp := fun vs H Q _ => ∃ (G : Hp) (x y : Addr) (s t : Tr), vs = [.ref x, .ref y] ∧ Same G H ∧ PgAt K C G x s ∧ PgAt K C G y t ∧ mrk s = mrk t ∧ Q .non H
theorem ok_check_roots (T : Top K mg w) {k : Nat} (G_Page_top : FnOk P w K mg base CX0 k T.a_Page_top T.d_Page_top ["self"] (spTop K T.C_Page)) : FnOk P w K mg base CX0 (k + 2) T.a_check_roots T.d_check_roots ["old", "new"] (spRoots K T.C_Page) := by
  refine T.F_check_roots.ok sc_check_roots (fun vs H Q E h => ?_) (fun cdv A outer s H vs Q E hr h => ?_)
  · obtain ⟨G, x, y, s, t, rfl, _⟩ := h
    rfl
  · obtain ⟨G, x, y, s, t, rfl, s0, hx, hy, em, q⟩ := h
    refine ⟨_, (pss_one (xs_if (xt_cmp (op_neLK K hr.u190) (pe_ix (ix_k K) (pe_prop (xv 0) T.cl_Page T.pr_Page_top G_Page_top (hr.mono (by omega)) T.b_Page_top .nil pass0 rfl) pe_int (fun _ _ => rfl)) (pe_ix (ix_k K) (pe_prop (xv 1) T.cl_Page T.pr_Page_top G_Page_top (hr.mono (by omega)) T.b_Page_top .nil pass0 rfl) pe_int (fun _ _ => rfl)) (nomark _))
      (pss_one ps_never)
      pss_nil)), ?_⟩
    obtain ⟨dx, _, _, _, _, _, _, h1, _⟩ := id hx.ex
    obtain ⟨dy, _, _, _, _, _, _, h2, _⟩ := id hy.ex
    refine ⟨x, dx, _, rfl, s0 _ _ h1, G, x, s, rfl, s0, hx, fun v hv => ?_⟩
    obtain ⟨a, kv, kus, rfl, ha, _⟩ := node_at hv
    refine ⟨_, _, .inr (same_t s0 ha), atI_nat (j := 0) rfl, y, dy, _, rfl, s0 _ _ h2, G, y, t, rfl, s0, hy, fun v2 hv2 => ?_⟩
    obtain ⟨b, kv2, kus2, rfl, hb, _⟩ := node_at hv2
    refine ⟨_, _, .inr (same_t s0 hb), atI_nat (j := 0) rfl, fun e => ?_, fun _ => q⟩
    rw [em] at e
    simp at e
def stK (ms : List Str) : List (Key × V) := ms.map fun m => (Sum.inr m, V.bl true)
theorem stK_val (ms : List Str) (u : Str) : (valV (stK ms) (Sum.inr u)).isSome = decide (u ∈ ms) := by
  rw [← valV_any]
  unfold stK
  rw [List.any_map]
  by_cases h : u ∈ ms
  · rw [decide_eq_true h, List.any_eq_true]
    exact ⟨u, h, by simp⟩
  · rw [decide_eq_false h, List.any_eq_false]
    intro z hz e
    simp only [Function.comp, decide_eq_true_eq] at e
    exact h (Sum.inr.inj e ▸ hz)
theorem stK_new {ms : List Str} {u : Str} (h : u ∉ ms) : putK (stK ms) (Sum.inr u) (V.bl true) = stK (ms ++ [u]) := by
  rw [putK_new]
  · unfold stK
    rw [List.map_append]
    rfl
  · have := stK_val ms u
    rw [decide_eq_false h] at this
    cases e : valV (stK ms) (Sum.inr u) with
    | none => rfl
    | some v => rw [e] at this; exact nomatch this
theorem tb_marks (t : Tr) : (tb none 0 1 t).map (fun r => mrk r.1) = (pre t).map mrk := by
  rw [← tb_pre none 0 1 t, List.map_map]
  rfl
/-- the row of a mark tells who stands above -/
theorem row_kid {t : Tr} {r : Rw} {u : Str} (nd : ((pre t).map mrk).Nodup) (h : r ∈ tb none 0 1 t) : kidB t u (mrk r.1) = decide (r.2.1 = some u) := by
  have hr : r.1 ∈ pre t := by rw [← tb_pre none 0 1 t]; exact List.mem_map_of_mem (f := (·.1)) h
  rcases tb_at none 0 1 t r h with ⟨h1, h2, _⟩ | ⟨p, hp, h2, h3⟩
  · rw [h2]
    cases e : kidB t u (mrk r.1) with
    | false => simp
    | true =>
      unfold kidB at e
      rw [List.any_eq_true] at e
      obtain ⟨q, hq, e⟩ := e
      simp only [Bool.and_eq_true, decide_eq_true_eq] at e
      obtain ⟨c, hc, ec⟩ := List.mem_map.mp e.2
      have : c = t := mrk_inj nd (pre_trans t hq (kid_pre hc)) (self_pre t) (by rw [ec, h1])
      obtain ⟨π, hπ⟩ := pre_sub t hq
      have l1 := sub_lev hπ
      have l2 := hgt_kid hc
      rw [this] at l2
      omega
  · have hk := List.mem_of_getElem? h2
    rw [h3]
    by_cases e : mrk p = u
    · subst e
      rw [decide_eq_true rfl]
      exact (kidB_iff nd hp).mpr (List.mem_map_of_mem hk)
    · rw [decide_eq_false (fun z => e (Option.some.inj z))]
      cases e2 : kidB t u (mrk r.1) with
      | false => rfl
      | true =>
        unfold kidB at e2
        rw [List.any_eq_true] at e2
        obtain ⟨q, hq, e2⟩ := e2
        simp only [Bool.and_eq_true, decide_eq_true_eq] at e2
        obtain ⟨c, hc, ec⟩ := List.mem_map.mp e2.2
        rw [← par_uniq nd hq hp hc hk ec] at e
        exact absurd e2.1 e
theorem kid_there {t : Tr} {u m : Str} (h : kidB t u m = true) : m ∈ (pre t).map mrk := by
  unfold kidB at h
  rw [List.any_eq_true] at h
  obtain ⟨q, hq, e⟩ := h
  simp only [Bool.and_eq_true, decide_eq_true_eq] at e
  obtain ⟨c, hc, ec⟩ := List.mem_map.mp e.2
  rw [← ec]
  exact List.mem_map_of_mem (pre_trans t hq (kid_pre hc))
theorem row_uniq {t : Tr} {r r2 : Rw} (nd : ((pre t).map mrk).Nodup) (h : r ∈ tb none 0 1 t) (h2 : r2 ∈ tb none 0 1 t) (e : mrk r.1 = mrk r2.1) : r = r2 := by
  rw [← tb_marks] at nd
  obtain ⟨i, hi⟩ := List.mem_iff_getElem?.mp h
  obtain ⟨j, hj⟩ := List.mem_iff_getElem?.mp h2
  have a1 : ((tb none 0 1 t).map fun r => mrk r.1)[i]? = some (mrk r.1) := by rw [List.getElem?_map, hi]; rfl
  have a2 : ((tb none 0 1 t).map fun r => mrk r.1)[j]? = some (mrk r.1) := by rw [List.getElem?_map, hj, e]; rfl
  have b1 := idxOf_at nd a1
  rw [idxOf_at nd a2] at b1
  rw [b1, hi] at hj
  exact Option.some.inj hj
theorem stF_sub {t : Tr} : ∀ (rs : List Rw) (out : List Str), ∀ z ∈ stF t out rs, z ∈ out ∨ z ∈ rs.map fun r => mrk r.1
  | [], out, z, h => .inl h
  | r :: rs, out, z, h => by
    rw [stF_cons] at h
    rcases stF_sub rs _ z h with h | h
    · split at h
      · rcases List.mem_append.mp h with h | h
        · exact .inl h
        · exact .inr (by rw [List.map_cons, List.mem_singleton.mp h]; exact List.mem_cons_self)
      · exact .inl h
    · exact .inr (by rw [List.map_cons]; exact List.mem_cons_of_mem _ h)
theorem stF_len {t : Tr} : ∀ (rs : List Rw) (out : List Str), (stF t out rs).length ≤ out.length + rs.length
  | [], out => Nat.le_refl _
  | r :: rs, out => by
    rw [stF_cons]
    refine Nat.le_trans (stF_len rs _) ?_
    split
    · rw [List.length_append, List.length_singleton, List.length_cons]; omega
    · rw [List.length_cons]; omega
theorem stF_snoc {t : Tr} {out : List Str} {rs : List Rw} {r : Rw} : stF t out (rs ++ [r]) = if stB t (stF t out rs) r = true then stF t out rs ++ [mrk r.1] else stF t out rs := by
  rw [stF_app, stF_cons]
  rfl
def spStay (K : PySem.W.Frag) (C : Addr) : Sp := fun vs H Q _ => ∃ (G : Hp) (M : List (Addr × HO)) (x y : Addr) (s t : Tr), vs = [.ref x, .ref y] ∧ Sep G M H ∧ PgAt K C G x s ∧ PgAt K C G y t ∧ Gt s ∧ Gt t ∧ mrk s = mrk t ∧
  ∀ (a : Addr) (G' H' : Hp), Same G G' → G' a = some (.tup ((stl s t).map V.str)) → Sep G' M H' → Q (.ref a) H'
theorem ok_staying (T : Top K mg w) {k : Nat} (G_check_roots : FnOk P w K mg base CX0 k T.a_check_roots T.d_check_roots ["old", "new"] (spRoots K T.C_Page)) (G_Page_iter : FnY P w K mg base CX0 k T.a_Page_iter T.d_Page_iter ["self"] (spPgIter K T.C_Page))
    (G_Page_parent : FnOk P w K mg base (L2.CX P w) k T.a_Page_parent T.d_Page_parent ["self", "mark"] (spPgPar K T.C_Page T.C_NoNode)) (G_Page_contains : FnOk P w K mg base CX0 k T.a_Page_contains T.d_Page_contains ["self", "mark"] (spPgIn K T.C_Page)) :
    FnOk P w K mg base CX0 (k + 1) T.a_staying T.d_staying ["old", "new"] (spStay K T.C_Page) := by
  refine T.F_staying.ok sc_staying (fun vs H Q E h => ?_) (fun cdv A outer s0 H vs Q E hr h => ?_)
  · obtain ⟨G, M, x, y, s, t, rfl, _⟩ := h
    rfl
  · obtain ⟨G, M, x, y, s, t, rfl, S, hx, hy, gs, gt, em, q⟩ := h
    refine ⟨_, (pss_cons (ps_expr (pe_call G_check_roots (hr.mono (by omega)) (by rfl) T.g_check_roots T.F_check_roots.kp T.b_check_roots .nil pass0 (pa_cons (xv 0) (pa_cons (xv 1) pa_nil))))
      (pss_cons (ps_set (i := 2) sc_staying.nd rfl (.inl rfl) pe_dnewK)
      (pss_cons (ps_for PassesOwn.never rfl (pi_ownLK K (xv 0) G_Page_iter T.sp_Page_iter.1 T.sp_Page_iter.2 T.b_Page_iter pass0 (hr.mono (by omega))) (pg_name (i := 3) sc_staying.nd rfl (.inl rfl))
      (pss_cons (ps_set (i := 4) sc_staying.nd rfl (.inl rfl) (pe_meth (xv 0) T.cl_Page T.me_Page_parent G_Page_parent (hr.mono (by omega)) T.b_Page_parent .nil passL (pa_cons (xv 3) pa_nil)))
      (pss_one (xs_if (PW.pt (xw_or (xt_cmp op_isN (xv 4) pe_non (nomark _)) (pw_or1 (PW.pt (xw_and (pt_cmp (pc_din (hu_of hr) (xv 4) (xv 2))) (xw_and (xt_cmp (op_inO G_Page_contains T.sp_Page_contains.1 T.sp_Page_contains.2 T.b_Page_contains pass0 (hr.mono (by omega))) (xv 3) (xv 1) (by rfl)) (pw_and1 (xt_cmp (op_eqLK K hr.u190) (pe_meth (xv 1) T.cl_Page T.me_Page_parent G_Page_parent (hr.mono (by omega)) T.b_Page_parent .nil passL (pa_cons (xv 3) pa_nil)) (xv 4) (nomark _)))))))))
      (pss_one (ps_dput (hu_of hr) (xv 2) (xv 3) pe_bl rfl))
      pss_nil))))
      (pss_one (ps_ret (pe_callTy (call_tupleK K) (by rfl) T.m_tuple (by decide +kernel) (pa_cons (pe_callTy (call_list_dK rfl) (by rfl) T.m_list (by decide +kernel) (pa_cons (xv 2) pa_nil)) pa_nil))))))), ?_⟩
    obtain ⟨dx, _, _, _, _, _, _, h1, _⟩ := id hx.ex
    obtain ⟨dy, _, _, _, _, _, _, h2, _⟩ := id hy.ex
    refine ⟨G, x, y, s, t, rfl, S.1, hx, hy, em, ?_⟩
    refine fun D nD => ?_
    have S1 := S.new (o := .dK []) nD
    have gsl := gs.ln
    have tl := tb_len none 0 1 s
    refine ⟨x, dx, _, rfl, S1.st h1, fun n => ⟨G, x, s, rfl, S1.1, hx, fun it l nit hn hl => ⟨it, l, rfl, hn, upd_same, ?_⟩⟩⟩
    rw [dropH_upd nit]
    refine for_list (xs := ((pre s).map mrk).map V.str) (fun i σ H' => ∃ (y3 y4 : Option V), σ = [some (.ref x), some (.ref y), some (.ref D), y3, y4] ∧ Sep G ((D, .dK (stK (stF t [] ((tb none 0 1 s).take i)))) :: M) H') ⟨_, _, rfl, S1⟩ (fun i σ H' _ h => ?_) (fun i v σ H' hv h => ?_) (fun σ H' h => ?_)
    · obtain ⟨_, _, _, S'⟩ := h
      exact SqL.of (S'.st hl)
    · obtain ⟨y3, y4, rfl, S'⟩ := h
      rw [List.getElem?_map] at hv
      obtain ⟨m, hm, rfl⟩ := Option.map_eq_some_iff.mp hv
      rw [← tb_marks, List.getElem?_map] at hm
      obtain ⟨r, hr1, rfl⟩ := Option.map_eq_some_iff.mp hm
      have rm := List.mem_of_getElem? hr1
      have rp : r.1 ∈ pre s := by rw [← tb_pre none 0 1 s]; exact List.mem_map_of_mem (f := (·.1)) rm
      have tx := (gs.ok.tx r.1 rp).1
      have ek := take_snoc hr1
      have nds := gs.nd
      have ndt := gt.nd
      have nd0 := nds
      rw [← tb_marks] at nd0
      have fresh : mrk r.1 ∉ stF t [] ((tb none 0 1 s).take i) := fun hm => by
        rcases stF_sub _ _ _ hm with hm | hm
        · exact nomatch hm
        · have e := (take_pre hr1).1
          rw [e, List.map_append, List.map_cons] at nd0
          exact (List.nodup_append.mp nd0).2.2 _ hm _ List.mem_cons_self rfl
      have fl := stF_len (t := t) ((tb none 0 1 s).take i) []
      rw [List.length_nil, List.length_take] at fl
      have il := (List.getElem?_eq_some_iff.mp hr1).1
      have yes : stB t (stF t [] ((tb none 0 1 s).take i)) r = true → DPut H' D (.str (mrk r.1)) (.bl true) (upd H' D (.dK (stK (stF t [] ((tb none 0 1 s).take (i + 1)))))) := fun hb => by
        rw [ek, stF_snoc, hb, if_pos rfl, ← stK_new fresh]
        exact DPut.k (k := Sum.inr (mrk r.1)) S'.hd (smallL (by unfold stK; rw [List.length_map]; omega))
      have no : stB t (stF t [] ((tb none 0 1 s).take i)) r = false → Sep G ((D, .dK (stK (stF t [] ((tb none 0 1 s).take (i + 1))))) :: M) H' := fun hb => by
        rw [ek, stF_snoc, hb, if_neg (by decide)]
        exact S'
      refine ⟨x, dx, _, rfl, S'.st h1, (by rw [lk_ne, lk_ne, lk_ne, lk_ne]; rfl), G, x, mrk r.1, s, rfl, S'.1, hx, nds, tx.wide (by decide) (by decide), fun r2 hr2 er2 => ?_, fun hno => absurd (List.mem_map_of_mem rp) hno⟩
      rw [row_uniq nds hr2 rm er2]
      cases hu : r.2.1 with
      | none =>
        have hb : stB t (stF t [] ((tb none 0 1 s).take i)) r = true := by unfold stB; rw [hu]
        exact ⟨rfl, fun _ => ⟨fun _ => ⟨D, _, rfl, yes hb, _, _, rfl, S'.set⟩, tt⟩, fun e => absurd e (by simp [oV])⟩
      | some u =>
        have hs : stB t (stF t [] ((tb none 0 1 s).take i)) r = (decide (u ∈ stF t [] ((tb none 0 1 s).take i)) && kidB t u (mrk r.1)) := by unfold stB; rw [hu]
        refine ⟨rfl, fun e => absurd e (by simp [oV]), fun _ => ?_⟩
        refine ⟨D, _, rfl, DGet.k (k := Sum.inr u) S'.hd, decide (u ∈ stF t [] ((tb none 0 1 s).take i)), by rw [stK_val], fun e1 => ?_, fun e1 => ⟨ff, fun _ => ⟨_, _, rfl, no (by rw [hs, e1]; rfl)⟩⟩⟩
        rw [e1, Bool.true_and] at hs
        refine ⟨y, dy, _, rfl, S'.st h2, G, y, mrk r.1, t, rfl, S'.1, hy, ndt, ?_⟩
        refine ⟨fun e2 => ?_, fun e2 => ⟨ff, fun _ => ⟨_, _, rfl, no ?_⟩⟩⟩
        · have e2 : mrk r.1 ∈ (pre t).map mrk := of_decide_eq_true e2
          refine ⟨y, dy, _, rfl, S'.st h2, (by rw [lk_ne, lk_ne, lk_ne, lk_ne]; rfl), G, y, mrk r.1, t, rfl, S'.1, hy, ndt, tx.wide (by decide) (by decide), fun r3 hr3 er3 => ?_, fun hno => absurd e2 hno⟩
          have rk := row_kid (u := u) ndt hr3
          rw [er3] at rk
          rw [rk] at hs
          cases h3 : r3.2.1 with
          | none =>
            rw [h3] at hs
            exact ⟨rfl, fun e => absurd e (by simp [oV]), fun _ => ⟨_, _, rfl, no (by rw [hs]; simp)⟩⟩
          | some u' =>
            rw [h3] at hs
            refine ⟨fun e => ⟨D, _, rfl, yes ?_, _, _, rfl, S'.set⟩, fun e => ⟨_, _, rfl, no ?_⟩⟩
            · rw [hs, of_decide_eq_true e]
              simp
            · rw [hs]
              exact decide_eq_false fun z => of_decide_eq_false e (Option.some.inj z)
        · rw [hs]
          cases hk : kidB t u (mrk r.1) with
          | false => rfl
          | true => exact absurd (kid_there hk) (of_decide_eq_false e2)
    · obtain ⟨y3, y4, rfl, S'⟩ := h
      rw [List.length_map, List.length_map, ← tl, List.take_length, stF_all gs.nd gt.nd em] at S'
      refine ⟨D, _, rfl, S'.hd, fun L nL => ?_⟩
      obtain ⟨G2, s2, S2, hL⟩ := Sep.mk (o := .lst ((stK (stl s t)).map fun kv => kV kv.1)) S' nL
      refine ⟨L, _, rfl, .inl ⟨SqL.of (S2.st hL), fun l2 nl2 => ?_⟩⟩
      obtain ⟨G3, s3, S3, h3⟩ := Sep.mk (o := .tup ((stK (stl s t)).map fun kv => kV kv.1)) S2 nl2
      refine q l2 G3 _ (s2.trans s3) ?_ S3.drop
      rw [h3]
      unfold stK
      rw [List.map_map]
      rfl

end
end K11
set_option Elab.async false
set_option linter.all false
set_option maxRecDepth 100000
set_option maxHeartbeats 4000000
namespace K11
open PySem PySem.Spec PyProof.Rows L2 XL
section
variable {P : Program} {w : World} {K : PySem.W.Frag} {mg : Str → Option Value} {base : Heap}
/-! ### longest_run -/
def oN : Option Nat → V
  | none => .non
  | some k => nv k
theorem nv_at {xs : List Nat} {i : Nat} (h : i < xs.length) : atI (xs.map nv) ((i : Nat) : Int) = some (.int ((xs.getD i 0 : Nat) : Int)) := by
  refine atI_nat ?_
  rw [List.getElem?_map, List.getD_eq_getElem?_getD, List.getElem?_eq_getElem h]
  rfl
def spLrun (K : PySem.W.Frag) : Sp := fun vs H Q _ => ∃ (G : Hp) (M : List (Addr × HO)) (L : Addr) (ns : List Nat), vs = [.ref L] ∧ Sep G M H ∧ G L = some (.lst (ns.map nv)) ∧ ns.length ≤ 400 ∧
  ∀ (R : Addr) (G' H' : Hp), Same G G' → G' R = some (.lst ((lrun ns).map nv)) → Sep G' M H' → Q (.ref R) H'
theorem ok_longest_run (T : Top K mg w) {k : Nat} : FnOk P w K mg base CX0 (k + 1) T.a_longest_run T.d_longest_run ["numbers"] (spLrun K) := by
  refine T.F_longest_run.ok sc_longest_run (fun vs H Q E h => ?_) (fun cdv A outer s0 H vs Q E hr h => ?_)
  · obtain ⟨G, M, L, ns, rfl, _⟩ := h
    rfl
  · obtain ⟨G, M, L, ns, rfl, S, hL, nl, q⟩ := h
    refine ⟨_, (pss_cons (ps_set (i := 1) sc_longest_run.nd rfl (.inl rfl) (pe_lst pa_nil))
      (pss_cons (ps_set (i := 2) sc_longest_run.nd rfl (.inl rfl) (pe_lst pa_nil))
      (pss_cons (ps_set (i := 3) sc_longest_run.nd rfl (.inl rfl) pe_non)
      (pss_cons (ps_for PassesOwn.never rfl (pi_range1 (by rfl) T.m_range (pa_cons (pe_callB (cr_lenK K) (by rfl) T.m_len (by decide +kernel) (pa_cons (xv 0) pa_nil)) pa_nil)) (pg_name (i := 4) sc_longest_run.nd rfl (.inl rfl))
      (pss_cons (ps_set (i := 5) sc_longest_run.nd rfl (.inl rfl) pe_int)
      (pss_cons (ps_set (i := 6) sc_longest_run.nd rfl (.inl rfl) pe_non)
      (pss_cons (ps_for PassesOwn.never rfl (pi_range1 (by rfl) T.m_range (pa_cons (xv 4) pa_nil)) (pg_name (i := 7) sc_longest_run.nd rfl (.inl rfl))
      (pss_one (xs_if (PW.pt (xw_and (xt_cmp op_ltY (pe_ix (ix_k K) (xv 0) (xv 7) (fun _ _ => rfl)) (pe_ix (ix_k K) (xv 0) (xv 4) (fun _ _ => rfl)) (nomark _)) (pw_and1 (xt_cmp op_geY (pe_ix (ix_k K) (xv 1) (xv 7) (fun _ _ => rfl)) (xv 5) (nomark _)))))
      (pss_cons (ps_set (i := 5) sc_longest_run.nd rfl (.inl rfl) (pe_op op_addY (pe_ix (ix_k K) (xv 1) (xv 7) (fun _ _ => rfl)) pe_int))
      (pss_one (ps_set (i := 6) sc_longest_run.nd rfl (.inl rfl) (xv 7))))
      pss_nil)))
      (pss_cons (ps_expr (pe_bmK K PySem.F.plainAttrs_list PySem.F.slot_list_append PySem.F.type_list_append mt_append (xv 1) (pa_cons (xv 5) pa_nil)))
      (pss_cons (ps_expr (pe_bmK K PySem.F.plainAttrs_list PySem.F.slot_list_append PySem.F.type_list_append mt_append (xv 2) (pa_cons (xv 6) pa_nil)))
      (pss_one (xs_if (PW.pt (xw_or (xt_cmp op_isN (xv 3) pe_non (nomark _)) (pw_or1 (xt_cmp op_gtY (xv 5) (pe_ix (ix_k K) (xv 1) (xv 3) (fun _ _ => rfl)) (nomark _)))))
      (pss_one (ps_set (i := 3) sc_longest_run.nd rfl (.inl rfl) (xv 4)))
      pss_nil))))))))
      (pss_cons (ps_set (i := 8) sc_longest_run.nd rfl (.inl rfl) (pe_lst pa_nil))
      (pss_cons (xs_while PassesOwn.never (xt_cmp op_notN (xv 3) pe_non (nomark _))
      (pss_cons (ps_expr (pe_bmK K PySem.F.plainAttrs_list PySem.F.slot_list_append PySem.F.type_list_append mt_append (xv 8) (pa_cons (xv 3) pa_nil)))
      (pss_one (ps_set (i := 3) sc_longest_run.nd rfl (.inl rfl) (pe_ix (ix_k K) (xv 2) (xv 3) (fun _ _ => rfl))))))
      (pss_one (ps_ret (pe_revK K (xv 8) (pe_str (pe_un un_neg pe_int) fun _ _ _ h => ⟨1, rfl, h⟩)))))))))), ?_⟩
    refine ⟨sz, fun LS nLS => ⟨sz, fun ES nES => ?_⟩⟩
    have S1 := (S.new (o := .lst []) nLS).new (o := .lst []) nES
    refine ⟨_, .inl (SqL.of (S1.st hL)), ?_⟩
    rw [List.length_map]
    refine ⟨_, rfl, by omega, by omega, for_range (lo := 0) (n := ((ns.length : Nat) : Int).toNat) (fun i σ H' => ∃ (y4 y5 y6 y7 : Option V), σ = [some (.ref L), some (.ref LS), some (.ref ES), some (oN (tabs ns i).la), y4, y5, y6, y7, none] ∧ Sep G ((ES, .lst ((tabs ns i).es.map oN)) :: (LS, .lst ((tabs ns i).ls.map nv)) :: M) H')
      ⟨_, _, _, _, rfl, S1⟩ (fun k σ H' hk h => ?_) (fun σ H' h => ?_)⟩
    · obtain ⟨y4, y5, y6, y7, rfl, S2⟩ := h
      have hk : k < ns.length := by omega
      have tl := tabs_len ns k
      refine ⟨0 + ((k : Nat) : Int), rfl, by omega, by omega, for_range (lo := 0) (n := (0 + ((k : Nat) : Int)).toNat) (fun j σ H2 => ∃ (y7 : Option V), σ = [some (.ref L), some (.ref LS), some (.ref ES), some (oN (tabs ns k).la), some (.int (0 + ((k : Nat) : Int))), some (.int ((bst ns (tabs ns k).ls k j).1 : Nat)), some (oN (bst ns (tabs ns k).ls k j).2), y7, none] ∧ H2 = H')
        ⟨_, rfl, rfl⟩ (fun j σ H2 hj h => ?_) (fun σ H2 h => ?_)⟩
      · obtain ⟨y7, rfl, rfl⟩ := h
        have hj : j < k := by omega
        have sL := SqL.of (K := K) (S2.st hL)
        have a1 : atI (ns.map nv) (0 + ((j : Nat) : Int)) = some (.int ((ns.getD j 0 : Nat) : Int)) := by rw [Int.zero_add]; exact nv_at (by omega)
        have a2 : atI (ns.map nv) (0 + ((k : Nat) : Int)) = some (.int ((ns.getD k 0 : Nat) : Int)) := by rw [Int.zero_add]; exact nv_at hk
        have a3 : atI ((tabs ns k).ls.map nv) (0 + ((j : Nat) : Int)) = some (.int (((tabs ns k).ls.getD j 0 : Nat) : Int)) := by rw [Int.zero_add]; exact nv_at (by omega)
        have sLS := SqL.of (K := K) S2.sw.hd
        refine ⟨_, _, .inl sL, a1, _, _, .inl sL, a2, fun e1 => ⟨_, _, .inl sLS, a3, fun e2 => ?_, fun e2 => ?_⟩, fun e1 => ⟨ff, fun _ => ?_⟩⟩
        · have c : ns.getD j 0 < ns.getD k 0 ∧ (bst ns (tabs ns k).ls k j).1 ≤ (tabs ns k).ls.getD j 0 := ⟨by have := of_decide_eq_true e1; omega, by have := of_decide_eq_true e2; omega⟩
          refine ⟨_, _, .inl sLS, a3, ?_⟩
          refine ⟨some (.int (0 + ((j : Nat) : Int))), ?_, rfl⟩
          rw [bst, if_pos c]
          simp only [Int.zero_add]
          rfl
        · have c : ¬ (ns.getD j 0 < ns.getD k 0 ∧ (bst ns (tabs ns k).ls k j).1 ≤ (tabs ns k).ls.getD j 0) := fun c => by have := of_decide_eq_false e2; omega
          exact ⟨_, by rw [bst, if_neg c]; rfl, rfl⟩
        · have c : ¬ (ns.getD j 0 < ns.getD k 0 ∧ (bst ns (tabs ns k).ls k j).1 ≤ (tabs ns k).ls.getD j 0) := fun c => by have := of_decide_eq_false e1; omega
          exact ⟨_, by rw [bst, if_neg c]; rfl, rfl⟩
      · obtain ⟨y7, rfl, rfl⟩ := h
        rw [show (0 + ((k : Nat) : Int)).toNat = k by omega]
        refine ⟨.inl ⟨rfl, _, SqL.of S2.sw.hd⟩, LS, _, _, rfl, rfl, S2.sw.hd, by rw [List.length_map]; exact smallL (by omega), ?_⟩
        have S3 := (S2.sw.set (o' := .lst ((tabs ns k).ls.map nv ++ [.int ((bst ns (tabs ns k).ls k k).1 : Nat)]))).sw
        refine ⟨.inl ⟨rfl, _, SqL.of S3.hd⟩, ES, _, _, rfl, rfl, S3.hd, by rw [List.length_map]; exact smallL (by omega), ?_⟩
        have S4 := S3.set (o' := .lst ((tabs ns k).es.map oN ++ [oN (bst ns (tabs ns k).ls k k).2]))
        have el : ((tabs ns k).ls ++ [(bst ns (tabs ns k).ls k k).1]).map nv = (tabs ns k).ls.map nv ++ [.int ((bst ns (tabs ns k).ls k k).1 : Nat)] := by rw [List.map_append]; rfl
        have ee : ((tabs ns k).es ++ [(bst ns (tabs ns k).ls k k).2]).map oN = (tabs ns k).es.map oN ++ [oN (bst ns (tabs ns k).ls k k).2] := by rw [List.map_append]; rfl
        generalize upd _ ES _ = H4 at S4 ⊢
        rw [← el, ← ee] at S4
        cases hla : (tabs ns k).la with
        | none =>
          have hla' : (tabs ns (k + 1)).la = some k := by simp only [tabs, hla]
          refine ⟨rfl, fun _ => ⟨fun _ => ?_, tt⟩, fun e => absurd e (by simp [oN])⟩
          refine ⟨some (.int (0 + ((k : Nat) : Int))), some (.int ((bst ns (tabs ns k).ls k k).1 : Nat)), some (oN (bst ns (tabs ns k).ls k k).2), y7, ?_, S4⟩
          rw [hla', Int.zero_add]
          rfl
        | some a =>
          have ha := tabs_la ns k hla
          refine ⟨rfl, fun e => absurd e (by simp [oN, nv]), fun _ => ?_⟩
          have a4 : atI (((tabs ns k).ls ++ [(bst ns (tabs ns k).ls k k).1]).map nv) ((a : Nat) : Int) = some (.int (((tabs ns k).ls.getD a 0 : Nat) : Int)) := by
            rw [nv_at (by rw [List.length_append]; omega), List.getD_eq_getElem?_getD, List.getElem?_append_left (by omega), ← List.getD_eq_getElem?_getD]
          refine ⟨_, _, .inl (SqL.of S4.sw.hd), a4, fun e => ?_, fun e => ?_⟩
          · have hla' : (tabs ns (k + 1)).la = some k := by
              simp only [tabs, hla]
              rw [if_pos (by have := of_decide_eq_true e; omega)]
            refine ⟨some (.int (0 + ((k : Nat) : Int))), some (.int ((bst ns (tabs ns k).ls k k).1 : Nat)), some (oN (bst ns (tabs ns k).ls k k).2), y7, ?_, S4⟩
            rw [hla', Int.zero_add]
            rfl
          · have hla' : (tabs ns (k + 1)).la = some a := by
              simp only [tabs, hla]
              rw [if_neg (by have := of_decide_eq_false e; omega)]
            refine ⟨some (.int (0 + ((k : Nat) : Int))), some (.int ((bst ns (tabs ns k).ls k k).1 : Nat)), some (oN (bst ns (tabs ns k).ls k k).2), y7, ?_, S4⟩
            rw [hla']
    · obtain ⟨y4, y5, y6, y7, rfl, S2⟩ := h
      rw [show ((ns.length : Nat) : Int).toNat = ns.length by omega] at *
      refine ⟨sz, fun RN nRN => ?_⟩
      have S3 := S2.new (o := .lst []) nRN
      have tl := tabs_len ns ns.length
      have tes := fun {i x} => tabs_es ns ns.length (i := i) (x := x)
      refine ⟨fun f σ H' => ∃ (r : List Nat) (o : Option Nat), σ = [some (.ref L), some (.ref LS), some (.ref ES), some (oN o), y4, y5, y6, y7, some (.ref RN)] ∧ r ++ bck (tabs ns ns.length).es f o = bck (tabs ns ns.length).es ns.length (tabs ns ns.length).la ∧ (∀ a, o = some a → a < f ∧ a < ns.length) ∧ r.length + f = ns.length ∧ Sep G ((RN, .lst (r.map nv)) :: (ES, .lst ((tabs ns ns.length).es.map oN)) :: (LS, .lst ((tabs ns ns.length).ls.map nv)) :: M) H',
        ⟨ns.length, [], _, rfl, rfl, fun a ha => ⟨tabs_la ns _ ha, tabs_la ns _ ha⟩, by simp, S3⟩, fun f σ H' h => ?_⟩
      obtain ⟨r, o, rfl, hb, hf, rl, S4⟩ := h
      cases o with
      | none =>
        refine ⟨rfl, fun e => absurd e (by simp [oN]), fun _ => ?_⟩
        have e0 : bck (tabs ns ns.length).es f none = [] := by cases f <;> rfl
        rw [e0, List.append_nil] at hb
        refine ⟨RN, _, rfl, SqL.of S4.hd, fun p np => ?_⟩
        obtain ⟨G6, s6, S6, h6⟩ := Sep.mk (o := .lst (r.map nv).reverse) S4 np
        rw [← List.map_reverse, hb] at h6
        exact q p G6 _ s6 h6 S6.drop.drop.drop
      | some a =>
        obtain ⟨haf, han⟩ := hf a rfl
        refine ⟨rfl, fun _ => ?_, fun e => absurd e (by simp [oN, nv])⟩
        refine ⟨.inl ⟨rfl, _, SqL.of S4.hd⟩, RN, _, _, rfl, rfl, S4.hd, by rw [List.length_map]; exact smallL (by omega), ?_⟩
        have S5 := S4.set (o' := .lst (r.map nv ++ [nv a]))
        have er : (r ++ [a]).map nv = r.map nv ++ [nv a] := by rw [List.map_append]; rfl
        have ae : atI ((tabs ns ns.length).es.map oN) ((a : Nat) : Int) = some (oN ((tabs ns ns.length).es.getD a none)) := by
          refine atI_nat ?_
          rw [List.getElem?_map, List.getD_eq_getElem?_getD, List.getElem?_eq_getElem (show a < (tabs ns ns.length).es.length by omega)]
          rfl
        refine ⟨_, _, .inl (SqL.of S5.sw.hd), ae, ?_⟩
        obtain ⟨f', rfl⟩ : ∃ f', f = f' + 1 := ⟨f - 1, by omega⟩
        refine ⟨f', by omega, r ++ [a], _, rfl, ?_, fun b hb2 => ?_, by rw [List.length_append, List.length_singleton]; omega, by rw [er]; exact S5⟩
        · rw [← hb, bck, List.append_assoc]
          rfl
        · have := tes (getD_some hb2)
          omega

end
end K11
set_option Elab.async false
set_option linter.all false
set_option maxRecDepth 100000
set_option maxHeartbeats 4000000
namespace K11
open PySem PySem.Spec PyProof.Rows L2 XL
section
variable {P : Program} {w : World} {K : PySem.W.Frag} {mg : Str → Option Value} {base : Heap}
/-! ### moves_between -/
theorem inV_nv {k : Nat} (xs : List Nat) : inV (.int ((k : Nat) : Int)) (xs.map nv) = decide (k ∈ xs) := by
  unfold inV
  by_cases h : k ∈ xs
  · rw [decide_eq_true h, List.any_eq_true]
    exact ⟨nv k, List.mem_map_of_mem h, by simp [nv, eqV]⟩
  · rw [decide_eq_false h, List.any_eq_false]
    intro z hz e
    obtain ⟨x, hx, rfl⟩ := List.mem_map.mp hz
    have e2 : (x : Int) = k := by simpa [nv, eqV] using e
    have : x = k := by omega
    exact h (this ▸ hx)
theorem strs_flat (zs : List Str) : (zs.map V.str).all flatV = true := by
  rw [List.all_eq_true]
  intro z hz
  obtain ⟨x, _, rfl⟩ := List.mem_map.mp hz
  rfl
theorem nvs_flat (zs : List Nat) : (zs.map nv).all flatV = true := by
  rw [List.all_eq_true]
  intro z hz
  obtain ⟨x, _, rfl⟩ := List.mem_map.mp hz
  rfl
/-- .index of a text that is there -/
theorem idx_str {zs : List Str} {m : Str} (hm : m ∈ zs) : (zs.map V.str)[zs.idxOf m]? = some (.str m) ∧ eqV (.str m) (.str m) = true ∧ ∀ (i : Nat) (z' : V), i < zs.idxOf m → (zs.map V.str)[i]? = some z' → eqV z' (.str m) = false := by
  obtain ⟨a, b, e1, e2, e3⟩ := idxOf_split hm
  have hj : zs[zs.idxOf m]? = some m := by
    rw [← e3]
    conv => lhs; rw [e1]
    simp
  refine ⟨by rw [List.getElem?_map, hj]; rfl, by simp [eqV], fun i z' hi hz => ?_⟩
  rw [List.getElem?_map] at hz
  obtain ⟨x, hx, rfl⟩ := Option.map_eq_some_iff.mp hz
  rw [e1, List.getElem?_append_left (by omega)] at hx
  have : x ≠ m := fun e => e2 (e ▸ List.mem_of_getElem? hx)
  simpa [eqV] using this
def spMvs (K : PySem.W.Frag) : Sp := fun vs H Q _ => ∃ (G : Hp) (M : List (Addr × HO)) (A B : Addr) (now wan : List Str), vs = [.ref A, .ref B] ∧ Sep G M H ∧ G A = some (.lst (now.map V.str)) ∧ G B = some (.lst (wan.map V.str)) ∧ now.Perm wan ∧ wan.Nodup ∧ wan.length ≤ 400 ∧
  ∀ (R : Addr) (us : List V) (G' H' : Hp), Same G G' → G' R = some (.lst us) → DpAll K G' us ((mvR (keptK now wan) now wan wan.length).map ptD) → Sep G' M H' → Q (.ref R) H'
theorem ok_moves_between (T : Top K mg w) {k : Nat} (G_longest_run : FnOk P w K mg base CX0 k T.a_longest_run T.d_longest_run ["numbers"] (spLrun K)) : FnOk P w K mg base CX0 (k + 1) T.a_moves_between T.d_moves_between ["now", "wanted"] (spMvs K) := by
  refine T.F_moves_between.ok sc_moves_between (fun vs H Q E h => ?_) (fun cdv A0 outer s0 H vs Q E hr h => ?_)
  · obtain ⟨G, M, A, B, now, wan, rfl, _⟩ := h
    rfl
  · obtain ⟨G, M, A, B, now, wan, rfl, S, hA, hB, pm, nd, wl, q⟩ := h
    refine ⟨_, (pss_cons (ps_set (i := 2) sc_moves_between.nd rfl (.inl rfl) (pe_call G_longest_run (hr.mono (by omega)) (by rfl) T.g_longest_run T.F_longest_run.kp T.b_longest_run .nil pass0 (pa_cons (pe_lc (own := [("mark", 7)]) (by rfl) sc_moves_between.nd (pi_listK K (xv 1)) (blkOk_by (N := ["now", "wanted", "kept", "rows", "order", "k", "at", "mark"]) (sc := defScope s_moves_between) (by decide +kernel)) (fun _ _ _ _ _ => (pg_name (i := 7) sc_moves_between.nd rfl (.inl rfl))) (fun _ _ _ _ _ => pts_nil) (fun _ _ _ _ _ => (pe_bmK K PySem.F.plainAttrs_list PySem.F.slot_list_index PySem.F.type_list_index (mt_indexK K) (xv 0) (pa_cons (xv 7) pa_nil)))) pa_nil)))
      (pss_cons (ps_set (i := 3) sc_moves_between.nd rfl (.inl rfl) (pe_lst pa_nil))
      (pss_cons (ps_set (i := 4) sc_moves_between.nd rfl (.inl rfl) (pe_callTy (call_listK K) (by rfl) T.m_list (by decide +kernel) (pa_cons (xv 0) pa_nil)))
      (pss_cons (ps_for PassesOwn.never rfl (pi_range1 (by rfl) T.m_range (pa_cons (pe_callB (cr_lenK K) (by rfl) T.m_len (by decide +kernel) (pa_cons (xv 1) pa_nil)) pa_nil)) (pg_name (i := 5) sc_moves_between.nd rfl (.inl rfl))
      (pss_one (xs_if (xt_cmp (notin_seqK K) (xv 5) (xv 2) (by rfl))
      (pss_cons (ps_expr (pe_bmK K PySem.F.plainAttrs_list PySem.F.slot_list_remove PySem.F.type_list_remove mt_removeS (xv 4) (pa_cons (pe_ix (ix_k K) (xv 1) (xv 5) (fun _ _ => rfl)) pa_nil)))
      (xss_cut (ps_set (i := 6) sc_moves_between.nd rfl (.inl rfl) (xe_if (xt_cmp op_gtY (xv 5) pe_int (nomark _)) (pe_op op_addY (pe_bmK K PySem.F.plainAttrs_list PySem.F.slot_list_index PySem.F.type_list_index (mt_indexK K) (xv 4) (pa_cons (pe_ix (ix_k K) (xv 1) (pe_op op_subY (xv 5) pe_int) (fun _ _ => rfl)) pa_nil)) pe_int) pe_int))
      (pss_cons (ps_expr (pe_bmK K PySem.F.plainAttrs_list PySem.F.slot_list_insert PySem.F.type_list_insert mt_insert (xv 4) (pa_cons (xv 6) (pa_cons (pe_ix (ix_k K) (xv 1) (xv 5) (fun _ _ => rfl)) pa_nil))))
      (pss_one (ps_expr (pe_bmK K PySem.F.plainAttrs_list PySem.F.slot_list_append PySem.F.type_list_append mt_append (xv 3) (pa_cons (pe_tup (pa_cons pe_str (pa_cons (pe_ix (ix_k K) (xv 1) (xv 5) (fun _ _ => rfl)) (pa_cons (xv 6) pa_nil)))) pa_nil)))))))
      pss_nil)))
      (pss_one (ps_ret (xv 3))))))), ?_⟩
    have nl := pm.length_eq
    refine ⟨B, rfl, ⟨_, SqL.of (S.st hB)⟩, fun L nL => lc_at (xs := wan.map V.str) (fun i H' => Sep G ((L, .lst (((wan.take i).map fun m => now.idxOf m).map nv)) :: M) H') (S.new nL) (fun i H' S' => SqL.of (S'.st hB)) (fun _ => rfl) (fun i y H' hy S' => ?_) (fun H1 S1 => ?_)⟩
    · rw [List.getElem?_map] at hy
      obtain ⟨m, hm, rfl⟩ := Option.map_eq_some_iff.mp hy
      have il := (List.getElem?_eq_some_iff.mp hm).1
      obtain ⟨p1, p2, p3⟩ := idx_str (pm.mem_iff.mpr (List.mem_of_getElem? hm))
      refine ⟨.inl ⟨rfl, _, SqL.of (S'.st hA)⟩, A, now.map V.str, .str m, now.idxOf m, .str m, rfl, rfl, SqL.of (S'.st hA), rfl, strs_flat _, p1, p2, p3, _, S'.hd, smallL (by simp only [List.length_map, List.length_take]; omega), ?_⟩
      rw [take_snoc hm, List.map_append, List.map_append]
      exact S'.set
    rw [List.length_map, List.take_length] at S1
    obtain ⟨G2, s2, S2, hL⟩ := Sep.keep S1
    refine ⟨G2, M, L, _, rfl, S2, hL, by rw [List.length_map]; exact wl, fun RK G3 H3 s3 hRK S3 => ?_⟩
    have hRK : G3 RK = some (.lst ((keptK now wan).map nv)) := hRK
    have s23 := s2.trans s3
    refine ⟨sz, fun RO nRO => ?_⟩
    have S4 := S3.new (o := .lst []) nRO
    refine ⟨A, _, rfl, .inl (SqL.of (S4.st (s23 _ _ hA))), fun O nO => ?_⟩
    have S5 := S4.new (o := .lst (now.map V.str)) nO
    refine ⟨_, .inl (SqL.of (S5.st (s23 _ _ hB))), ?_⟩
    rw [List.length_map]
    refine ⟨_, rfl, by omega, by omega, for_range (lo := 0) (n := ((wan.length : Nat) : Int).toNat) (fun i σ H' => ∃ (y5 y6 : Option V) (us : List V) (G' : Hp), σ = [some (.ref A), some (.ref B), some (.ref RK), some (.ref RO), some (.ref O), y5, y6, none] ∧ Same G3 G' ∧ us.length ≤ i ∧ DpAll K G' us ((mvR (keptK now wan) now wan i).map ptD) ∧ Sep G' ((O, .lst ((mvO (keptK now wan) now wan i).map V.str)) :: (RO, .lst us) :: M) H')
      ⟨_, _, [], G3, rfl, Same.refl _, Nat.le_refl _, .nil, S5⟩ (fun k σ H' hk h => ?_) (fun σ H' h => ?_)⟩
    · obtain ⟨y5, y6, us, G', rfl, s', ul, hus, S'⟩ := h
      have hk : k < wan.length := by omega
      have hRK' := s' _ _ hRK
      have hB' := s' _ _ (s23 _ _ hB)
      have e0 : (0 + ((k : Nat) : Int)) = ((k : Nat) : Int) := Int.zero_add _
      refine ⟨RK, _, rfl, .inl (SqL.of (S'.st hRK')), rfl, nvs_flat _, ?_⟩
      rw [e0, inV_nv]
      have po := mvO_perm (K := keptK now wan) pm k (by omega)
      have wk : wan[k]? = some (wan.getD k "") := by
        rw [List.getD_eq_getElem?_getD, List.getElem?_eq_getElem hk]
        rfl
      have aw : atI (wan.map V.str) ((k : Nat) : Int) = some (.str (wan.getD k "")) := atI_nat (by rw [List.getElem?_map, wk]; rfl)
      have wm := po.mem_iff.mpr (List.mem_of_getElem? wk)
      refine ⟨fun e => ?_, fun e => ?_⟩
      · have hK : k ∉ keptK now wan := fun h => by
          rw [decide_eq_true h] at e
          exact nomatch e
        refine ⟨.inl ⟨rfl, _, SqL.of S'.hd⟩, _, _, .inl (SqL.of (S'.st hB')), aw, O, _, _, rfl, rfl, S'.hd, wm, ?_⟩
        have S6 := S'.set (o' := .lst (((mvO (keptK now wan) now wan k).erase (wan.getD k "")).map V.str))
        have el := List.length_erase_of_mem wm
        have ol := po.length_eq
        generalize upd H' O _ = H6 at S6 ⊢
        have hB6 := SqL.of (K := K) (S6.st hB')
        have mil : mvI (keptK now wan) now wan k ≤ wan.length := by
          cases k with
          | zero => exact Nat.zero_le _
          | succ j =>
            have := List.idxOf_le_length (a := wan.getD j "") (l := (mvO (keptK now wan) now wan (j + 1)).erase (wan.getD (j + 1) ""))
            have hp : 0 < (mvO (keptK now wan) now wan (j + 1)).length := List.length_pos_of_mem wm
            show List.idxOf _ _ + 1 ≤ _
            omega
        refine ⟨fun σ H7 => σ = [some (.ref A), some (.ref B), some (.ref RK), some (.ref RO), some (.ref O), some (.int ((k : Nat) : Int)), some (.int ((mvI (keptK now wan) now wan k : Nat) : Int)), none] ∧ H7 = H6, ⟨fun e2 => ?_, fun e2 => ?_⟩, fun σ H7 h => ?_⟩
        · obtain ⟨j, rfl⟩ : ∃ j, k = j + 1 := ⟨k - 1, by have := of_decide_eq_true e2; omega⟩
          have wj : wan[j]? = some (wan.getD j "") := by
            rw [List.getD_eq_getElem?_getD, List.getElem?_eq_getElem (show j < wan.length by omega)]
            rfl
          have ne : wan.getD j "" ≠ wan.getD (j + 1) "" := fun e => by
            have b1 := idxOf_at nd wj
            rw [e, idxOf_at nd wk] at b1
            omega
          have um := (nd_mem_erase (po.nodup_iff.mpr nd) ne).mpr (po.mem_iff.mpr (List.mem_of_getElem? wj))
          refine ⟨.inl ⟨rfl, _, SqL.of S6.hd⟩, _, _, .inl hB6, by rw [show (((j + 1 : Nat) : Int) - 1) = ((j : Nat) : Int) by omega]; exact atI_nat (by rw [List.getElem?_map, wj]; rfl), ?_⟩
          obtain ⟨p1, p2, p3⟩ := idx_str um
          exact ⟨O, _, .str (wan.getD j ""), _, .str (wan.getD j ""), rfl, rfl, SqL.of S6.hd, rfl, strs_flat _, p1, p2, p3, rfl, rfl⟩
        · obtain rfl : k = 0 := by have := of_decide_eq_false e2; omega
          exact ⟨rfl, rfl⟩
        · obtain ⟨rfl, rfl⟩ := h
          have hwl : ((mvO (keptK now wan) now wan k).erase (wan.getD k "")).length < 100000 := by omega
          refine ⟨.inl ⟨rfl, _, SqL.of S6.hd⟩, _, _, .inl hB6, aw, O, _, _, _, rfl, rfl, S6.hd, by rw [List.length_map]; exact smallL hwl, by omega, by omega, ?_⟩
          have S7 := S6.set (o' := .lst ((((mvO (keptK now wan) now wan k).erase (wan.getD k "")).map V.str).take (((mvI (keptK now wan) now wan k : Nat) : Int)).toNat ++ [V.str (wan.getD k "")] ++ (((mvO (keptK now wan) now wan k).erase (wan.getD k "")).map V.str).drop (((mvI (keptK now wan) now wan k : Nat) : Int)).toNat))
          refine ⟨.inl ⟨rfl, _, SqL.of S7.sw.hd⟩, _, _, .inl (SqL.of (S7.st hB')), aw, sz, fun p np => ?_⟩
          obtain ⟨G8, s8, S8, h8⟩ := Sep.mk (o := .tup [.str "move", .str (wan.getD k ""), .int ((mvI (keptK now wan) now wan k : Nat) : Int)]) S7 np
          refine ⟨RO, us, _, rfl, rfl, S8.sw.hd, smallL (by omega), ?_⟩
          refine ⟨_, _, us ++ [.ref p], G8, rfl, s'.trans s8, by rw [List.length_append, List.length_singleton]; omega, ?_, ?_⟩
          · rw [mvR, if_neg hK, List.map_append]
            exact dpa_app (dpa_same s8 hus) (dpa_one (.tup (SqT.of h8) (.cons (.str _) (.cons (.str _) (.cons (.int _) .nil)))))
          · rw [mvO_move hK, List.map_append, List.map_cons, List.map_take, List.map_drop]
            have := (S8.sw.set (o' := .lst (us ++ [.ref p]))).sw
            simpa using this
      · have hK : k ∈ keptK now wan := by
          refine Classical.byContradiction fun h => ?_
          rw [decide_eq_false h] at e
          exact nomatch e
        refine ⟨_, _, us, G', rfl, s', by omega, ?_, ?_⟩
        · rw [mvR, if_pos hK, List.append_nil]
          exact hus
        · rw [mvO_kept hK]
          exact S'
    · obtain ⟨y5, y6, us, G', rfl, s', ul, hus, S'⟩ := h
      rw [show ((wan.length : Nat) : Int).toNat = wan.length by omega] at *
      obtain ⟨G9, s9, S9, h9⟩ := Sep.keep S'.sw
      exact q RO us G9 _ (s23.trans (s'.trans s9)) h9 (dpa_same s9 hus) S9.drop

end
end K11
set_option Elab.async false
set_option linter.all false
set_option maxRecDepth 100000
set_option maxHeartbeats 4000000
namespace K11
open PySem PySem.Spec PyProof.Rows L2 XL
/-! ### how many patches, at most -/
def sumK (l : List Tr) : Nat := (l.map fun q => (kids q).length).sum
theorem sumK_app (a b : List Tr) : sumK (a ++ b) = sumK a + sumK b := by
  unfold sumK
  rw [List.map_append, List.sum_append]
theorem sumK_cons (x : Tr) (r : List Tr) : sumK (x :: r) = (kids x).length + sumK r := by
  unfold sumK
  rw [List.map_cons, List.sum_cons]
theorem sumK_le : ∀ {l L : List Tr}, (l.map mrk).Nodup → (∀ x ∈ l, x ∈ L) → sumK l ≤ sumK L
  | [], _, _, _ => Nat.zero_le _
  | x :: r, L, nd, h => by
    obtain ⟨a, b, rfl⟩ := List.append_of_mem (h x List.mem_cons_self)
    rw [List.map_cons, List.nodup_cons] at nd
    have := sumK_le (L := a ++ b) nd.2 fun y hy => by
      have h1 := h y (List.mem_cons_of_mem _ hy)
      rw [List.mem_append, List.mem_cons] at h1
      rw [List.mem_append]
      rcases h1 with h1 | rfl | h1
      · exact .inl h1
      · exact absurd (List.mem_map_of_mem hy) nd.1
      · exact .inr h1
    rw [sumK_app, sumK_cons] at *
    rw [sumK_cons]
    omega
mutual
theorem sumK_pre : ∀ t : Tr, sumK (pre t) + 1 = (pre t).length
  | .node m l ks => by
    have := sumK_pres ks
    simp only [pre]
    rw [sumK_cons, List.length_cons]
    simp only [kids]
    omega
theorem sumK_pres : ∀ ts : List Tr, sumK (pres ts) + ts.length = (pres ts).length
  | [] => rfl
  | t :: r => by
    have h1 := sumK_pre t
    have h2 := sumK_pres r
    simp only [pres]
    rw [sumK_app, List.length_append, List.length_cons]
    omega
end
theorem mvR_len (K : List Nat) (now wan : List Str) : ∀ k, (mvR K now wan k).length ≤ k
  | 0 => Nat.le_refl _
  | k + 1 => by
    have := mvR_len K now wan k
    rw [mvR, List.length_append]
    split
    · rw [List.length_nil]; omega
    · rw [List.length_singleton]; omega
theorem putsI_len (m : Str) (ks : List Tr) : ∀ (ds : List Tr) (i : Nat), (putsI m ks i ds).length ≤ ds.length
  | [], _ => Nat.le_refl _
  | d :: r, i => by
    have := putsI_len m ks r (i + 1)
    rw [putsI, List.length_append, List.length_cons]
    split
    · rw [List.length_nil]; omega
    · rw [List.length_singleton]; omega
theorem wanK_len (ks ds : List Tr) : (wanK ks ds).length ≤ ds.length := by
  unfold wanK
  rw [List.length_map]
  exact List.length_filter_le _ _
theorem ndRows_len (p q : Tr) : (ndRows p q).length ≤ 1 + 2 * (kids q).length := by
  unfold ndRows movesK
  have h1 := wanK_len (kids p) (kids q)
  have h2 := putsI_len (mrk p) (kids p) (kids q) 0
  have h3 := mvR_len (keptK (nowK (kids p) (kids q)) (wanK (kids p) (kids q))) (nowK (kids p) (kids q)) (wanK (kids p) (kids q)) (wanK (kids p) (kids q)).length
  rw [List.length_append, List.length_append]
  split <;> split <;> simp only [List.length_nil, List.length_singleton] <;> omega
theorem rows_len : ∀ l : List (Tr × Tr), (l.flatMap fun x => ndRows x.1 x.2).length ≤ l.length + 2 * sumK (l.map (·.2))
  | [] => Nat.le_refl _
  | x :: r => by
    have h1 := rows_len r
    have h2 := ndRows_len x.1 x.2
    rw [List.flatMap_cons, List.length_append, List.map_cons, sumK_cons, List.length_cons]
    omega
theorem drB_len (S : List Str) : ∀ l : List Rw, (l.flatMap (drB S)).length ≤ l.length
  | [] => Nat.le_refl _
  | r :: l => by
    have h1 := drB_len S l
    rw [List.flatMap_cons, List.length_append, List.length_cons]
    have : (drB S r).length ≤ 1 := by
      unfold drB
      split
      · exact Nat.zero_le _
      · split
        · exact Nat.le_refl _
        · exact Nat.zero_le _
    omega
section
variable {s t : Tr}
theorem stl_nd (nds : ((pre s).map mrk).Nodup) (em : mrk s = mrk t) : (stl s t).Nodup := by
  have go : ∀ (p q : Tr), ((pre p).map mrk).Nodup → (stl p q).Nodup := by
    intro p
    have : (∀ p : Tr, ∀ q, (mks p).Nodup → (stl p q).Nodup) := fun p => Tr.rec (motive_1 := fun p => ∀ q, (mks p).Nodup → (stl p q).Nodup) (motive_2 := fun ks => ∀ ds, (mkL ks).Nodup → (stls ks ds).Nodup)
      (fun m l ks ih q nd => by
        simp only [stl]
        rw [List.nodup_cons]
        exact ⟨fun h => (mks_ndK nd).1 (stls_sub ks (kids q) m h), ih (kids q) (mks_ndK nd).2⟩)
      (fun ds _ => by simp only [stls]; exact List.nodup_nil)
      (fun c r ih1 ih2 ds nd => by
        simp only [stls]
        refine List.nodup_append.mpr ⟨?_, ih2 ds (mkL_nd nd).2, fun a ha b hb e => ?_⟩
        · cases fndT ds (mrk c) with
          | none => exact List.nodup_nil
          | some d => exact ih1 d (mkL_nd nd).1
        · subst e
          cases e2 : fndT ds (mrk c) with
          | none => rw [e2] at ha; simp at ha
          | some d =>
            rw [e2] at ha
            rw [mkL_cons] at nd
            exact (List.nodup_append.mp nd).2.2 _ (stl_sub c d a ha) _ (stls_sub r ds a hb) rfl) p
    intro q nd
    exact this p q (by rw [mks_eq]; exact nd)
  exact go s t nds
theorem prl_snd (nds : ((pre s).map mrk).Nodup) (em : mrk s = mrk t) : ((prl s t).map (·.2)).map mrk = stl s t := by
  rw [← prl_stl, List.map_map]
  exact List.map_congr_left fun x hx => ((prl_in s t em x hx).2.2).symm
theorem stl_len (nds : ((pre s).map mrk).Nodup) (em : mrk s = mrk t) : (stl s t).length ≤ (pre s).length := by
  have := nd_leN (stl_nd nds em) (N := (pre s).map mrk) fun z hz => by rw [← mks_eq]; exact stl_sub s t z hz
  rw [List.length_map] at this
  exact this
theorem drl_rows (nds : ((pre s).map mrk).Nodup) (em : mrk s = mrk t) : (tb none 0 1 s).flatMap (drB (stl s t)) = drl s t :=
  drF_yes s t none 0 1 (by rw [mks_eq]; exact nds) fun _ _ => Iff.rfl
theorem btw_len (nds : ((pre s).map mrk).Nodup) (ndt : ((pre t).map mrk).Nodup) (em : mrk s = mrk t) : (btw s t).length ≤ 2 * (pre s).length + 2 * (pre t).length := by
  have h1 := drB_len (stl s t) (tb none 0 1 s)
  rw [drl_rows nds em, tb_len] at h1
  have h2 := rows_len (prl s t)
  have h3 : (prl s t).length ≤ (pre s).length := by
    have := stl_len nds em
    rw [← prl_stl, List.length_map] at this
    exact this
  have h4 : sumK ((prl s t).map (·.2)) ≤ sumK (pre t) := sumK_le (by rw [prl_snd nds em]; exact stl_nd nds em) fun x hx => by
    obtain ⟨y, hy, rfl⟩ := List.mem_map.mp hx
    exact (prl_in s t em y hy).2.1
  have h5 := sumK_pre t
  unfold btw
  rw [List.length_append, prl_rwl]
  omega
theorem npr_stl (nds : ((pre s).map mrk).Nodup) : Npr (stl s t) s t := npr_of s t (by rw [mks_eq]; exact nds) fun _ _ => Iff.rfl
end
theorem eqv_strsA : ∀ a b : List Str, PyData.eqvAll (a.map PyData.str) (b.map PyData.str) = decide (a = b)
  | [], [] => by simp [PyData.eqvAll]
  | [], _ :: _ => by simp [PyData.eqvAll]
  | _ :: _, [] => by simp [PyData.eqvAll]
  | x :: a, y :: b => by
    have ih := eqv_strsA a b
    simp only [List.map_cons, PyData.eqvAll, ih, eqv_str]
    by_cases e1 : x = y <;> by_cases e2 : a = b <;> simp [e1, e2]
theorem eqv_strsL (a b : List Str) : PyData.eqv (.list (a.map PyData.str)) (.list (b.map PyData.str)) = decide (a = b) := by
  simp only [PyData.eqv, eqv_strsA]

section
variable {P : Program} {w : World} {K : PySem.W.Frag} {mg : Str → Option Value} {base : Heap}
end
end K11
set_option Elab.async false
set_option linter.all false
set_option maxRecDepth 100000
set_option maxHeartbeats 4000000
namespace K11
open PySem PySem.Spec PyProof.Rows L2 XL
section
variable {P : Program} {w : World} {K : PySem.W.Frag} {mg : Str → Option Value} {base : Heap}
/-! ### between -/
theorem dpa_atR {K : PySem.W.Frag} {G : Hp} : ∀ {vs : List V} {ds : List PyData} {i : Nat} {d : PyData}, DpAll K G vs ds → ds[i]? = some d → ∃ v, vs[i]? = some v ∧ Dp K G v d
  | _, _, _, _, .nil, h => by simp at h
  | _, _, 0, _, .cons h _, e => by
    simp at e
    subst e
    exact ⟨_, rfl, h⟩
  | _, _, i + 1, _, .cons _ t, e => by
    rw [List.getElem?_cons_succ] at e
    obtain ⟨v, h1, h2⟩ := dpa_atR t e
    exact ⟨v, by rw [List.getElem?_cons_succ]; exact h1, h2⟩
theorem map_getT {α β : Type} {f : α → β} {xs : List α} {i : Nat} {y : β} (h : (xs.map f)[i]? = some y) : ∃ x, xs[i]? = some x ∧ f x = y := by
  rw [List.getElem?_map] at h
  exact Option.map_eq_some_iff.mp h
def ptVs (K : PySem.W.Frag) (G : Hp) (us : List V) (ps : List Pt) : Prop := DpAll K G us (ps.map ptD)
theorem ptVs.app {K : PySem.W.Frag} {G : Hp} {us us' : List V} {ps ps' : List Pt} (h : ptVs K G us ps) (h' : ptVs K G us' ps') : ptVs K G (us ++ us') (ps ++ ps') := by
  unfold ptVs
  rw [List.map_append]
  exact dpa_app h h'
theorem ptVs.len {K : PySem.W.Frag} {G : Hp} {us : List V} {ps : List Pt} (h : ptVs K G us ps) : us.length = ps.length := by
  have := dpa_len h
  rw [List.length_map] at this
  exact this
theorem putsI_snoc (m : Str) (ks : List Tr) (d : Tr) : ∀ (ds : List Tr) (i : Nat), putsI m ks i (ds ++ [d]) = putsI m ks i ds ++ (if (fndT ks (mrk d)).isSome then [] else [.put m (i + ds.length) d])
  | [], i => by
    simp only [List.nil_append, putsI, List.append_nil, List.length_nil, Nat.add_zero]
  | x :: r, i => by
    have ih := putsI_snoc m ks d r (i + 1)
    simp only [List.cons_append, putsI, ih, List.append_assoc, List.length_cons]
    rw [show i + 1 + r.length = i + (r.length + 1) by omega]
theorem dg_frz {H : Hp} {D : Addr} {od : Obj} {ms : List Str} {m : Str} (h : H D = some (.frz od (.dK (stK ms)))) : DGet H D (.str m) (valV (stK ms) (Sum.inr m)) := .inl ⟨_, Sum.inr m, .inr ⟨od, h⟩, rfl, rfl⟩
def spBtw (K : PySem.W.Frag) (C CQ : Addr) : Sp := fun vs H Q _ => ∃ (G : Hp) (M : List (Addr × HO)) (x y : Addr) (s t : Tr) (N : List Str), vs = [.ref x, .ref y] ∧ Sep G M H ∧ PgAt K C G x s ∧ PgAt K C G y t ∧ Ov N (ml s) ∧ Ov N (ml t) ∧ N.length ≤ 60 ∧ mrk s = mrk t ∧
  ∀ (r : Addr) (G' H' : Hp), Same G G' → PtcAt K CQ C G' r s (btw s t) → Sep G' M H' → Q (.ref r) H'
theorem ok_between (T : Top K mg w) {k : Nat} (G_staying : FnOk P w K mg base CX0 k T.a_staying T.d_staying ["old", "new"] (spStay K T.C_Page)) (G_moves_between : FnOk P w K mg base CX0 k T.a_moves_between T.d_moves_between ["now", "wanted"] (spMvs K)) (G_Page_iter : FnY P w K mg base CX0 k T.a_Page_iter T.d_Page_iter ["self"] (spPgIter K T.C_Page))
    (G_Page_parent : FnOk P w K mg base (L2.CX P w) k T.a_Page_parent T.d_Page_parent ["self", "mark"] (spPgPar K T.C_Page T.C_NoNode)) (G_Page_getitem : FnOk P w K mg base (L2.CX P w) k T.a_Page_getitem T.d_Page_getitem ["self", "mark"] (spPgGet K T.C_Page T.C_NoNode))
    (G_Patches_init : FnOk P w K mg base CX0 k T.a_Patches_init T.d_Patches_init ["self", "page", "rows"] (spPtc K T.C_Patches T.C_Page)) :
    FnOk P w K mg base CX0 (k + 3) T.a_between T.d_between ["old", "new"] (spBtw K T.C_Page T.C_Patches) := by
  refine T.F_between.ok sc_between (fun vs H Q E h => ?_) (fun cdv A outer s0 H vs Q E hr h => ?_)
  · obtain ⟨G, M, x, y, s, t, N, rfl, _⟩ := h
    rfl
  · obtain ⟨G, M, x, y, s, t, N, rfl, S, hx, hy, os, ot, hN, em, q⟩ := h
    refine ⟨_, (pss_cons (ps_set (i := 2) sc_between.nd rfl (.inr rfl) pe_dnewK)
      (pss_cons (ps_for PassesOwn.never rfl (pi_tupK K (pe_call G_staying (hr.mono (by omega)) (by rfl) T.g_staying T.F_staying.kp T.b_staying .nil pass0 (pa_cons (xv 0) (pa_cons (xv 1) pa_nil)))) (pg_name (i := 3) sc_between.nd rfl (.inl rfl))
      (pss_one (ps_dput (hu_of hr) (xv 2) (xv 3) pe_bl rfl)))
      (pss_cons (ps_set (i := 4) sc_between.nd rfl (.inl rfl) (pe_lst pa_nil))
      (pss_cons (ps_for PassesOwn.never rfl (pi_ownLK K (xv 0) G_Page_iter T.sp_Page_iter.1 T.sp_Page_iter.2 T.b_Page_iter pass0 (hr.mono (by omega))) (pg_name (i := 3) sc_between.nd rfl (.inl rfl))
      (pss_one (xs_if (PW.pt (xw_and (pt_cmp (pc_dnotin (hu_of hr) (xv 3) (xv 2))) (pw_and1 (pt_cmp (pc_din (hu_of hr) (pe_meth (xv 0) T.cl_Page T.me_Page_parent G_Page_parent (hr.mono (by omega)) T.b_Page_parent .nil passL (pa_cons (xv 3) pa_nil)) (xv 2))))))
      (pss_one (ps_expr (pe_bmK K PySem.F.plainAttrs_list PySem.F.slot_list_append PySem.F.type_list_append mt_append (xv 4) (pa_cons (pe_tup (pa_cons pe_str (pa_cons (xv 3) pa_nil))) pa_nil))))
      pss_nil)))
      (pss_cons (ps_lock (ps_for PassesOwn.never rfl (pi_keys (xv 2)) (pg_name (i := 3) sc_between.nd rfl (.inl rfl))
      (xss_cut (xs_if (xt_cmp (op_neLK K hr.u190) (pe_ix (ix_k K) (pe_ixO (xv 0) (xv 3) G_Page_getitem T.sp_Page_getitem.1 T.sp_Page_getitem.2.2 T.sp_Page_getitem.2.1 T.b_Page_getitem passL (hr.mono (by omega))) pe_int (fun _ _ => rfl)) (pe_ix (ix_k K) (pe_ixO (xv 1) (xv 3) G_Page_getitem T.sp_Page_getitem.1 T.sp_Page_getitem.2.2 T.sp_Page_getitem.2.1 T.b_Page_getitem passL (hr.mono (by omega))) pe_int (fun _ _ => rfl)) (nomark _))
      (pss_one (ps_expr (pe_bmK K PySem.F.plainAttrs_list PySem.F.slot_list_append PySem.F.type_list_append mt_append (xv 4) (pa_cons (pe_tup (pa_cons pe_str (pa_cons (xv 3) (pa_cons (pe_ix (ix_k K) (pe_ixO (xv 1) (xv 3) G_Page_getitem T.sp_Page_getitem.1 T.sp_Page_getitem.2.2 T.sp_Page_getitem.2.1 T.b_Page_getitem passL (hr.mono (by omega))) pe_int (fun _ _ => rfl)) pa_nil)))) pa_nil))))
      pss_nil)
      (pss_cons (ps_setLc (i := 5) (own := [("below", 8)]) (by rfl) sc_between.nd rfl rfl (sw_true rfl rfl rfl (by decide +kernel)) (pi_tupK K (pe_ix (ix_k K) (pe_ixO (xv 0) (xv 3) G_Page_getitem T.sp_Page_getitem.1 T.sp_Page_getitem.2.2 T.sp_Page_getitem.2.1 T.b_Page_getitem passL (hr.mono (by omega))) pe_int (fun _ _ => rfl))) (blkOk_by (N := ["old", "new", "stays", "mark", "rows", "now", "wanted", "at", "below"]) (sc := defScope s_between) (by decide +kernel)) (fun _ _ _ _ _ => (pg_name (i := 8) sc_between.nd rfl (.inl rfl))) (fun _ _ _ _ _ => (pts_one (pt_cmp (pc_din (hu_of hr) (pe_ix (ix_k K) (xv 8) pe_int (fun _ _ => rfl)) (xv 2))))) (fun _ _ _ _ _ => (pe_ix (ix_k K) (xv 8) pe_int (fun _ _ => rfl))))
      (pss_cons (ps_setLc (i := 6) (own := [("below", 8)]) (by rfl) sc_between.nd rfl rfl (sw_true rfl rfl rfl (by decide +kernel)) (pi_tupK K (pe_ix (ix_k K) (pe_ixO (xv 1) (xv 3) G_Page_getitem T.sp_Page_getitem.1 T.sp_Page_getitem.2.2 T.sp_Page_getitem.2.1 T.b_Page_getitem passL (hr.mono (by omega))) pe_int (fun _ _ => rfl))) (blkOk_by (N := ["old", "new", "stays", "mark", "rows", "now", "wanted", "at", "below"]) (sc := defScope s_between) (by decide +kernel)) (fun _ _ _ _ _ => (pg_name (i := 8) sc_between.nd rfl (.inl rfl))) (fun _ _ _ _ _ => (pts_one (pt_cmp (pc_din (hu_of hr) (pe_ix (ix_k K) (xv 8) pe_int (fun _ _ => rfl)) (xv 2))))) (fun _ _ _ _ _ => (pe_ix (ix_k K) (xv 8) pe_int (fun _ _ => rfl))))
      (xss_cut (xs_if (xt_cmp (op_neLK K hr.u190) (xv 5) (xv 6) (nomark _))
      (pss_one (ps_expr (pe_bmK K PySem.F.plainAttrs_list PySem.F.slot_list_extend PySem.F.type_list_extend mt_extend (xv 4) (pa_cons (pe_call G_moves_between (hr.mono (by omega)) (by rfl) T.g_moves_between T.F_moves_between.kp T.b_moves_between .nil pass0 (pa_cons (xv 5) (pa_cons (xv 6) pa_nil))) pa_nil))))
      pss_nil)
      (pss_one (ps_for PassesOwn.never rfl (pi_range1 (by rfl) T.m_range (pa_cons (pe_callB (cr_lenK K) (by rfl) T.m_len (by decide +kernel) (pa_cons (pe_ix (ix_k K) (pe_ixO (xv 1) (xv 3) G_Page_getitem T.sp_Page_getitem.1 T.sp_Page_getitem.2.2 T.sp_Page_getitem.2.1 T.b_Page_getitem passL (hr.mono (by omega))) pe_int (fun _ _ => rfl)) pa_nil)) pa_nil)) (pg_name (i := 7) sc_between.nd rfl (.inl rfl))
      (pss_one (xs_if (pt_cmp (pc_dnotin (hu_of hr) (pe_ix (ix_k K) (pe_ix (ix_k K) (pe_ix (ix_k K) (pe_ixO (xv 1) (xv 3) G_Page_getitem T.sp_Page_getitem.1 T.sp_Page_getitem.2.2 T.sp_Page_getitem.2.1 T.b_Page_getitem passL (hr.mono (by omega))) pe_int (fun _ _ => rfl)) (xv 7) (fun _ _ => rfl)) pe_int (fun _ _ => rfl)) (xv 2)))
      (pss_one (ps_expr (pe_bmK K PySem.F.plainAttrs_list PySem.F.slot_list_append PySem.F.type_list_append mt_append (xv 4) (pa_cons (pe_tup (pa_cons pe_str (pa_cons (xv 3) (pa_cons (xv 7) (pa_cons (pe_ix (ix_k K) (pe_ix (ix_k K) (pe_ixO (xv 1) (xv 3) G_Page_getitem T.sp_Page_getitem.1 T.sp_Page_getitem.2.2 T.sp_Page_getitem.2.1 T.b_Page_getitem passL (hr.mono (by omega))) pe_int (fun _ _ => rfl)) (xv 7) (fun _ _ => rfl)) pa_nil))))) pa_nil))))
      pss_nil))))))))))
      (pss_one (ps_ret (pe_make T.mk_Patches G_Patches_init (hr.mono (by omega)) (by rfl) T.g_Patches T.b_Patches_init .nil pass0 (pa_cons (xv 0) (pa_cons (xv 4) pa_nil)))))))))), ?_⟩
    have gs := os.gt hN
    have gt := ot.gt hN
    have nds := gs.nd
    have ndt := gt.nd
    have ls := os.len
    have lt := ot.len
    have sl := stl_len nds em
    obtain ⟨dx, _, _, _, _, _, _, h1, _⟩ := id hx.ex
    obtain ⟨dy, _, _, _, _, _, _, h2, _⟩ := id hy.ex
    refine fun D nD => ?_
    have S1 := S.new (o := .dK []) nD
    refine ⟨G, _, x, y, s, t, rfl, S1, hx, hy, gs, gt, em, fun a G2 H2 s2 ha S2 => ?_⟩
    refine ⟨a, rfl, ⟨_, SqT.of (S2.st ha)⟩, for_tup (xs := (stl s t).map V.str) (fun i σ H' => ∃ (y3 : Option V), σ = [some (.ref x), some (.ref y), some (.ref D), y3, none, none, none, none, none] ∧ Sep G2 ((D, .dK (stK ((stl s t).take i))) :: M) H') ⟨_, rfl, S2⟩ (fun i σ H' _ h => ?_) (fun i v σ H' hv h => ?_) (fun σ H' h => ?_)⟩
    · obtain ⟨_, _, S'⟩ := h
      exact SqT.of (S'.st ha)
    · obtain ⟨y3, rfl, S'⟩ := h
      obtain ⟨m, hm, rfl⟩ := map_getT hv
      have il := (List.getElem?_eq_some_iff.mp hm).1
      have fresh : m ∉ (stl s t).take i := fun hmem => by
        have nd := stl_nd nds em
        rw [(take_pre hm).1] at nd
        exact (List.nodup_append.mp nd).2.2 _ hmem _ List.mem_cons_self rfl
      refine ⟨D, _, rfl, DPut.k (k := Sum.inr m) S'.hd (smallL (by unfold stK; rw [List.length_map, List.length_take]; omega)), _, rfl, ?_⟩
      rw [stK_new fresh, ← take_snoc hm]
      exact S'.set
    · obtain ⟨y3, rfl, S3⟩ := h
      rw [List.length_map, List.take_length] at S3
      refine ⟨sz, fun RO nRO => ?_⟩
      have S4 := S3.new (o := .lst []) nRO
      have hx2 := hx.same s2
      have hy2 := hy.same s2
      have h1' := s2 _ _ h1
      have h2' := s2 _ _ h2
      have tl := tb_len none 0 1 s
      have root : mrk s ∈ stl s t := by rw [stl_eq]; exact List.mem_cons_self
      -- the drops
      refine ⟨x, dx, _, rfl, S4.st h1', fun n => ⟨G2, x, s, rfl, S4.1, hx2, fun it l nit hn hl => ⟨it, l, rfl, hn, upd_same, ?_⟩⟩⟩
      rw [dropH_upd nit]
      refine for_list (xs := ((pre s).map mrk).map V.str) (fun i σ H' => ∃ (y3 : Option V) (us : List V) (G' : Hp), σ = [some (.ref x), some (.ref y), some (.ref D), y3, some (.ref RO), none, none, none, none] ∧ Same G2 G' ∧ ptVs K G' us (((tb none 0 1 s).take i).flatMap (drB (stl s t))) ∧ Sep G' ((RO, .lst us) :: (D, .dK (stK (stl s t))) :: M) H') ⟨_, [], G2, rfl, Same.refl _, .nil, S4⟩ (fun i σ H' _ h => ?_) (fun i v σ H' hv h => ?_) (fun σ H' h => ?_)
      · obtain ⟨_, _, G', _, s', _, S'⟩ := h
        exact SqL.of (S'.st (s' _ _ hl))
      · obtain ⟨y3, us, G', rfl, s', hus, S'⟩ := h
        obtain ⟨m, hm, rfl⟩ := map_getT hv
        rw [← tb_marks, List.getElem?_map] at hm
        obtain ⟨r, hr1, rfl⟩ := Option.map_eq_some_iff.mp hm
        have rm := List.mem_of_getElem? hr1
        have rp : r.1 ∈ pre s := by rw [← tb_pre none 0 1 s]; exact List.mem_map_of_mem (f := (·.1)) rm
        have tx := (gs.ok.tx r.1 rp).1
        have ek := take_snoc hr1
        have eF : ((tb none 0 1 s).take (i + 1)).flatMap (drB (stl s t)) = ((tb none 0 1 s).take i).flatMap (drB (stl s t)) ++ drB (stl s t) r := by rw [ek, List.flatMap_append]; simp
        have ul := hus.len
        have dl := drB_len (stl s t) ((tb none 0 1 s).take i)
        rw [List.length_take] at dl
        have same : drB (stl s t) r = [] → ptVs K G' us (((tb none 0 1 s).take (i + 1)).flatMap (drB (stl s t))) := fun e => by rw [eF, e, List.append_nil]; exact hus
        have hx' := hx2.same s'
        refine ⟨D, _, rfl, DGet.k (k := Sum.inr (mrk r.1)) S'.sw.hd, !decide (mrk r.1 ∈ stl s t), by rw [stK_val], fun e1 => ?_, fun e1 => ⟨ff, fun _ => ⟨_, us, G', rfl, s', same ?_, S'⟩⟩⟩
        · have n1 : mrk r.1 ∉ stl s t := by simpa using e1
          refine ⟨x, dx, _, rfl, S'.st (s' _ _ h1'), (by rw [lk_ne, lk_ne, lk_ne, lk_ne]; rfl), G', x, mrk r.1, s, rfl, S'.1, hx', nds, tx.wide (by decide) (by decide), fun r2 hr2 er2 => ?_, fun hno => absurd (List.mem_map_of_mem rp) hno⟩
          rw [row_uniq nds hr2 rm er2]
          cases hu : r.2.1 with
          | none =>
            rcases tb_at none 0 1 s r rm with ⟨e2, _⟩ | ⟨p, _, _, e2⟩
            · rw [e2] at n1
              exact absurd root n1
            · rw [hu] at e2
              exact nomatch e2
          | some u =>
            refine ⟨D, _, rfl, DGet.k (k := Sum.inr u) S'.sw.hd, decide (u ∈ stl s t), by rw [stK_val], fun e2 => ?_, fun e2 => ⟨_, us, G', rfl, s', same ?_, S'⟩⟩
            · have ed : drB (stl s t) r = [.drop (mrk r.1)] := by
                unfold drB
                rw [hu]
                exact if_pos ⟨n1, of_decide_eq_true e2⟩
              refine ⟨.inl ⟨rfl, _, SqL.of S'.hd⟩, sz, fun p np => ?_⟩
              obtain ⟨G5, s5, S5, h5⟩ := Sep.mk (o := .tup [.str "drop", .str (mrk r.1)]) S' np
              refine ⟨RO, us, _, rfl, rfl, S5.hd, smallL (by omega), _, us ++ [.ref p], G5, rfl, s'.trans s5, ?_, S5.set⟩
              rw [eF, ed]
              exact ptVs.app (dpa_same s5 hus) (dpa_one (.tup (SqT.of h5) (.cons (.str _) (.cons (.str _) .nil))))
            · unfold drB
              rw [hu]
              exact if_neg fun z => of_decide_eq_false e2 z.2
        · have n1 : mrk r.1 ∈ stl s t := by simpa using e1
          unfold drB
          split
          · rfl
          · exact if_neg fun z => z.1 n1
      · obtain ⟨y3, us0, G5, rfl, s5, hus0, S5⟩ := h
        rw [List.length_map, List.length_map, ← tl, List.take_length, drl_rows nds em] at hus0
        have hx5 := hx2.same s5
        have hy5 := hy2.same s5
        have h15 := s5 _ _ h1'
        have h25 := s5 _ _ h2'
        have tot := btw_len nds ndt em
        refine ⟨D, .dK (stK (stl s t)), S5.sw.hd, trivial, fun od => ?_⟩
        have SF := (S5.sw.set (o' := .frz od (.dK (stK (stl s t))))).sw
        refine ⟨D, od, rfl, .inl ⟨stK (stl s t), upd_same, for_it walk_keys (fun i σ H' => ∃ (y3 y5 y6 y7 : Option V) (us : List V) (G' : Hp), σ = [some (.ref x), some (.ref y), some (.ref D), y3, some (.ref RO), y5, y6, y7, none] ∧ Same G5 G' ∧ ptVs K G' us (drl s t ++ ((prl s t).take i).flatMap fun x => ndRows x.1 x.2) ∧ Sep G' ((RO, .lst us) :: (D, .frz od (.dK (stK (stl s t)))) :: M) H')
          ⟨_, _, _, _, us0, G5, rfl, Same.refl _, by simpa using hus0, SF⟩ (fun i σ H' _ h => ?_) (fun i v σ H' H'' hi h hy9 => ?_) (fun σ H' h => ?_)⟩⟩
        · obtain ⟨_, _, _, _, _, _, _, _, _, S'⟩ := h
          exact S'.sw.hd
        · obtain ⟨y3, y5, y6, y7, us, G', rfl, s', hus, S'⟩ := h
          obtain ⟨rfl, k0, v0, hk0, rfl⟩ := hy9
          unfold stK at hk0
          obtain ⟨m, hm, e0⟩ := map_getT hk0
          cases e0
          rw [← prl_stl] at hm
          obtain ⟨⟨p, qq⟩, hpq, rfl⟩ := map_getT hm
          have mem := List.mem_of_getElem? hpq
          obtain ⟨hp, hqq, epq⟩ := prl_in s t em _ mem
          have hp : p ∈ pre s := hp
          have hqq : qq ∈ pre t := hqq
          have epq : mrk p = mrk qq := epq
          have hpt : mrk p ∈ (pre t).map mrk := by rw [epq]; exact List.mem_map_of_mem hqq
          have txp : Tx 0 100 (mrk p) := (gs.ok.tx p hp).1.wide (by decide) (by decide)
          have tlq : Tx 1 20 (lbl qq) := (gt.ok.tx qq hqq).2
          have ek := take_snoc hpq
          have eF : (drl s t ++ ((prl s t).take (i + 1)).flatMap fun x => ndRows x.1 x.2) = (drl s t ++ ((prl s t).take i).flatMap fun x => ndRows x.1 x.2) ++ ndRows p qq := by rw [ek, List.flatMap_append]; simp [List.append_assoc]
          have tot2 : ((drl s t ++ ((prl s t).take i).flatMap fun x => ndRows x.1 x.2) ++ ndRows p qq).length ≤ 240 := by
            rw [← eF]
            have e1 : btw s t = (drl s t ++ ((prl s t).take (i + 1)).flatMap fun x => ndRows x.1 x.2) ++ ((prl s t).drop (i + 1)).flatMap fun x => ndRows x.1 x.2 := by
              unfold btw
              rw [prl_rwl, List.append_assoc, ← List.flatMap_append, List.take_append_drop]
            have e2 := congrArg List.length e1
            rw [List.length_append (bs := List.flatMap _ _)] at e2
            omega
          generalize hB0 : (drl s t ++ ((prl s t).take i).flatMap fun x => ndRows x.1 x.2) = B0 at *
          have eN : ndRows p qq = ((if lbl p = lbl qq then [] else [.say (mrk p) (lbl qq)]) ++ movesK (nowK (kids p) (kids qq)) (wanK (kids p) (kids qq))) ++ putsI (mrk p) (kids p) 0 (kids qq) := rfl
          have ul := hus.len
          -- said
          refine ⟨fun σ H1 => ∃ (us1 : List V) (G1 : Hp), σ = [some (.ref x), some (.ref y), some (.ref D), some (.str (mrk p)), some (.ref RO), y5, y6, y7, none] ∧ Same G5 G1 ∧ ptVs K G1 us1 (B0 ++ (if lbl p = lbl qq then [] else [.say (mrk p) (lbl qq)])) ∧ Sep G1 ((RO, .lst us1) :: (D, .frz od (.dK (stK (stl s t)))) :: M) H1, ?_, fun σ H1 h => ?_⟩
          · refine ⟨x, dx, _, rfl, S'.st (s' _ _ h15), G', x, mrk p, s, rfl, S'.1, hx5.same s', nds, txp, fun p2 v2 hp2 ep2 dv2 => ?_, fun hno => absurd (List.mem_map_of_mem hp) hno⟩
            obtain rfl : p = p2 := (mrk_inj nds hp2 hp ep2).symm
            obtain ⟨pa, pkv, pkus, rfl, hpa, hpkv, hpkus⟩ := node_at dv2
            refine ⟨_, _, .inr (S'.t hpa), atI_nat (j := 1) rfl, y, dy, _, rfl, S'.st (s' _ _ h25), G', y, mrk p, t, rfl, S'.1, hy5.same s', ndt, txp, fun q2 w2 hq2 eq2 dw2 => ?_, fun hno => absurd hpt hno⟩
            obtain rfl : qq = q2 := (mrk_inj ndt hq2 hqq (eq2.trans epq)).symm
            obtain ⟨qa, qkv, qkus, rfl, hqa, hqkv, hqkus⟩ := node_at dw2
            refine ⟨_, _, .inr (S'.t hqa), atI_nat (j := 1) rfl, fun e => ?_, fun e => ?_⟩
            · have ne : ¬ lbl p = lbl qq := fun z => by
                rw [decide_eq_true z] at e
                exact nomatch e
              refine ⟨.inl ⟨rfl, _, SqL.of S'.hd⟩, y, dy, _, rfl, S'.st (s' _ _ h25), G', y, mrk p, t, rfl, S'.1, hy5.same s', ndt, txp, fun q3 w3 hq3 eq3 dw3 => ?_, fun hno => absurd hpt hno⟩
              obtain rfl : qq = q3 := (mrk_inj ndt hq3 hqq (eq3.trans epq)).symm
              obtain ⟨qb, qkv3, qkus3, rfl, hqb, _, _⟩ := node_at dw3
              refine ⟨_, _, .inr (S'.t hqb), atI_nat (j := 1) rfl, sz, fun a8 n8 => ?_⟩
              obtain ⟨G8, s8, S8, h8⟩ := Sep.mk (o := .tup [.str "say", .str (mrk p), .str (lbl qq)]) S' n8
              refine ⟨RO, us, _, rfl, rfl, S8.hd, smallL (by rw [eN] at tot2; simp only [List.length_append] at tot2; omega), us ++ [.ref a8], G8, rfl, s'.trans s8, ?_, S8.set⟩
              rw [if_neg ne]
              exact ptVs.app (dpa_same s8 hus) (dpa_one (.tup (SqT.of h8) (.cons (.str _) (.cons (.str _) (.cons (.str _) .nil)))))
            · have eq0 : lbl p = lbl qq := Classical.byContradiction fun z => by
                rw [decide_eq_false z] at e
                exact nomatch e
              refine ⟨us, G', rfl, s', ?_, S'⟩
              rw [if_pos eq0, List.append_nil]
              exact hus
          · obtain ⟨us1, G1, rfl, s1, hus1, S1⟩ := h
            -- the children that stay, in both orders
            have kp60 : (kids p).length ≤ 60 := by
              have := sub_len hp
              have := many_le (kids p)
              omega
            have kq60 : (kids qq).length ≤ 60 := by
              have := sub_len hqq
              have := many_le (kids qq)
              omega
            refine ⟨x, dx, _, rfl, S1.st (s1 _ _ h15), G1, x, mrk p, s, rfl, S1.1, hx5.same s1, nds, txp, fun p2 v2 hp2 ep2 dv2 => ?_, fun hno => absurd (List.mem_map_of_mem hp) hno⟩
            obtain rfl : p = p2 := (mrk_inj nds hp2 hp ep2).symm
            obtain ⟨pa, pkv, pkus, rfl, hpa, hpkv, hpkus⟩ := node_at dv2
            refine ⟨_, _, .inr (S1.t hpa), atI_nat (j := 2) rfl, pkv, rfl, ⟨pkus, S1.t hpkv⟩, fun L1 nL1 => lc_tup (xs := pkus) (fun j H' => Sep G1 ((L1, .lst (((((kids p).take j).filter fun c => (fndT (kids qq) (mrk c)).isSome).map mrk).map V.str)) :: (RO, .lst us1) :: (D, .frz od (.dK (stK (stl s t)))) :: M) H') (S1.new nL1) (fun j H' _ S' => S'.t hpkv) (fun j z H' hz S' => ?_) (fun H3 S3 => ?_)⟩
            · obtain ⟨dd, hd1, hd2⟩ := dpa_get hpkus hz
              obtain ⟨c, hc, rfl⟩ := map_getT hd1
              have cm := List.mem_of_getElem? hc
              obtain ⟨ca, kvc, kuc, rfl, hca, _⟩ := node_at hd2
              have iff := st_old nds ndt em mem cm
              have fl : ((((kids p).take j).filter fun c => (fndT (kids qq) (mrk c)).isSome).map mrk).length ≤ 60 := by
                rw [List.length_map]
                have := List.length_filter_le (fun c => (fndT (kids qq) (mrk c)).isSome) ((kids p).take j)
                rw [List.length_take] at this
                omega
              refine ⟨rfl, _, _, .inr (S'.t hca), atI_nat (j := 0) rfl, D, _, rfl, dg_frz (S'.at (.tail _ (.tail _ (.head _)))), decide (mrk c ∈ stl s t), by rw [stK_val], ?_⟩
              by_cases hcs : mrk c ∈ stl s t
              · rw [decide_eq_true hcs]
                refine ⟨_, _, .inr (S'.t hca), atI_nat (j := 0) rfl, _, S'.hd, smallL (by rw [List.length_map]; omega), ?_⟩
                rw [take_snoc hc, List.filter_append, List.map_append, List.map_append, List.filter_cons, if_pos (iff.mp hcs)]
                exact S'.set
              · rw [decide_eq_false hcs]
                show Sep _ _ _
                have hn : ¬ (fndT (kids qq) (mrk c)).isSome = true := fun z => hcs (iff.mpr z)
                rw [take_snoc hc, List.filter_append, List.map_append, List.map_append, List.filter_cons, if_neg hn]
                simpa using S'
            have pkl := dpa_len hpkus
            rw [List.length_map] at pkl
            rw [pkl, List.take_length] at S3
            have S3 : Sep G1 ((L1, .lst ((nowK (kids p) (kids qq)).map V.str)) :: (RO, .lst us1) :: (D, .frz od (.dK (stK (stl s t)))) :: M) H3 := S3
            obtain ⟨G4, s4, S4, hL1⟩ := Sep.keep S3
            have s14 := s1.trans s4
            refine ⟨y, dy, _, rfl, S4.st (s14 _ _ h25), G4, y, mrk p, t, rfl, S4.1, hy5.same s14, ndt, txp, fun q2 w2 hq2 eq2 dw2 => ?_, fun hno => absurd hpt hno⟩
            obtain rfl : qq = q2 := (mrk_inj ndt hq2 hqq (eq2.trans epq)).symm
            obtain ⟨qa, qkv, qkus, rfl, hqa, hqkv, hqkus⟩ := node_at dw2
            refine ⟨_, _, .inr (S4.t hqa), atI_nat (j := 2) rfl, qkv, rfl, ⟨qkus, S4.t hqkv⟩, fun L2 nL2 => lc_tup (xs := qkus) (fun j H' => Sep G4 ((L2, .lst (((((kids qq).take j).filter fun c => (fndT (kids p) (mrk c)).isSome).map mrk).map V.str)) :: (RO, .lst us1) :: (D, .frz od (.dK (stK (stl s t)))) :: M) H') (S4.new nL2) (fun j H' _ S' => S'.t hqkv) (fun j z H' hz S' => ?_) (fun H5 S5b => ?_)⟩
            · obtain ⟨dd, hd1, hd2⟩ := dpa_get hqkus hz
              obtain ⟨c, hc, rfl⟩ := map_getT hd1
              have cm := List.mem_of_getElem? hc
              obtain ⟨ca, kvc, kuc, rfl, hca, _⟩ := node_at hd2
              have iff := st_new nds ndt em mem cm
              have fl : ((((kids qq).take j).filter fun c => (fndT (kids p) (mrk c)).isSome).map mrk).length ≤ 60 := by
                rw [List.length_map]
                have := List.length_filter_le (fun c => (fndT (kids p) (mrk c)).isSome) ((kids qq).take j)
                rw [List.length_take] at this
                omega
              refine ⟨rfl, _, _, .inr (S'.t hca), atI_nat (j := 0) rfl, D, _, rfl, dg_frz (S'.at (.tail _ (.tail _ (.head _)))), decide (mrk c ∈ stl s t), by rw [stK_val], ?_⟩
              by_cases hcs : mrk c ∈ stl s t
              · rw [decide_eq_true hcs]
                refine ⟨_, _, .inr (S'.t hca), atI_nat (j := 0) rfl, _, S'.hd, smallL (by rw [List.length_map]; omega), ?_⟩
                rw [take_snoc hc, List.filter_append, List.map_append, List.map_append, List.filter_cons, if_pos (iff.mp hcs)]
                exact S'.set
              · rw [decide_eq_false hcs]
                show Sep _ _ _
                have hn : ¬ (fndT (kids p) (mrk c)).isSome = true := fun z => hcs (iff.mpr z)
                rw [take_snoc hc, List.filter_append, List.map_append, List.map_append, List.filter_cons, if_neg hn]
                simpa using S'
            have qkl := dpa_len hqkus
            rw [List.length_map] at qkl
            rw [qkl, List.take_length] at S5b
            have S5b : Sep G4 ((L2, .lst ((wanK (kids p) (kids qq)).map V.str)) :: (RO, .lst us1) :: (D, .frz od (.dK (stK (stl s t)))) :: M) H5 := S5b
            obtain ⟨G6, s6, S6, hL2⟩ := Sep.keep S5b
            have s16 := s14.trans s6
            have hL1' := s6 _ _ hL1
            have ndk : ((kids p).map mrk).Nodup := kids_nd nds hp
            have ndq : ((kids qq).map mrk).Nodup := kids_nd ndt hqq
            have pw := now_perm ndk ndq
            have ndw : (wanK (kids p) (kids qq)).Nodup := ndq.sublist (List.Sublist.map _ List.filter_sublist)
            have wl := wanK_len (kids p) (kids qq)
            have txw : ∀ z ∈ wanK (kids p) (kids qq), (∀ c ∈ z.cps.toList, c < 128) ∧ z.length ≤ 60 := fun z hz => by
              obtain ⟨d, hd, rfl⟩ := List.mem_map.mp hz
              have := (gt.ok.tx d (pre_trans t hqq (kid_pre (List.mem_filter.mp hd).1))).1
              exact ⟨this.ch, this.hi⟩
            obtain ⟨n1, f1⟩ := strs_fit txw
            obtain ⟨n2, f2⟩ := strs_fit (zs := nowK (kids p) (kids qq)) fun z hz => txw z (pw.mem_iff.mp hz)
            have hus6 : ptVs K G6 us1 (B0 ++ (if lbl p = lbl qq then [] else [.say (mrk p) (lbl qq)])) := dpa_same (s4.trans s6) hus1
            -- moved
            refine ⟨fun σ H1 => ∃ (us2 : List V) (G7 : Hp), σ = [some (.ref x), some (.ref y), some (.ref D), some (.str (mrk p)), some (.ref RO), some (.ref L1), some (.ref L2), y7, none] ∧ Same G6 G7 ∧ ptVs K G7 us2 ((B0 ++ (if lbl p = lbl qq then [] else [.say (mrk p) (lbl qq)])) ++ movesK (nowK (kids p) (kids qq)) (wanK (kids p) (kids qq))) ∧ Sep G7 ((RO, .lst us2) :: (D, .frz od (.dK (stK (stl s t)))) :: M) H1, ?_, fun σ H7 h => ?_⟩
            · refine ⟨_, _, .lst (SqL.of (S6.st hL1')) (strs_dp _), .lst (SqL.of (S6.st hL2)) (strs_dp _), f2.cl, f1.cl, by have := f2.dp; omega, ?_⟩
              rw [eqv_strsL]
              refine ⟨fun e => ?_, fun e => ?_⟩
              · have ne : ¬ nowK (kids p) (kids qq) = wanK (kids p) (kids qq) := fun z => by
                  rw [decide_eq_true z] at e
                  exact nomatch e
                refine ⟨.inl ⟨rfl, _, SqL.of S6.hd⟩, G6, _, L1, L2, _, _, rfl, S6, hL1', hL2, pw, ndw, by omega, fun R us2 G8 H8 s8 hR hus2 S8 => ?_⟩
                have u1 := hus6.len
                have u2 := ptVs.len (K := K) (G := G8) hus2
                have mk : movesK (nowK (kids p) (kids qq)) (wanK (kids p) (kids qq)) = mvR (keptK (nowK (kids p) (kids qq)) (wanK (kids p) (kids qq))) (nowK (kids p) (kids qq)) (wanK (kids p) (kids qq)) (wanK (kids p) (kids qq)).length := if_neg ne
                have tot3 := tot2
                rw [eN, mk] at tot3
                simp only [List.length_append] at tot3 u1
                refine ⟨RO, R, us1, us2, rfl, rfl, S8.hd, S8.st hR, by rw [sizeLine_eq]; omega, us1 ++ us2, G8, rfl, s8, ?_, S8.set⟩
                rw [mk]
                exact ptVs.app (dpa_same s8 hus6) hus2
              · have eq0 : nowK (kids p) (kids qq) = wanK (kids p) (kids qq) := Classical.byContradiction fun z => by
                  rw [decide_eq_false z] at e
                  exact nomatch e
                refine ⟨us1, G6, rfl, Same.refl _, ?_, S6⟩
                unfold movesK
                rw [if_pos eq0, List.append_nil]
                exact hus6
            · obtain ⟨us2, G7, rfl, s7, hus2, S7⟩ := h
              have s17 := s16.trans s7
              -- put
              refine ⟨y, dy, _, rfl, S7.st (s17 _ _ h25), G7, y, mrk p, t, rfl, S7.1, hy5.same s17, ndt, txp, fun q3 w3 hq3 eq3 dw3 => ?_, fun hno => absurd hpt hno⟩
              obtain rfl : qq = q3 := (mrk_inj ndt hq3 hqq (eq3.trans epq)).symm
              obtain ⟨qb, qkv3, qkus3, rfl, hqb, hqkv3, hqkus3⟩ := node_at dw3
              have qkl3 := dpa_len hqkus3
              rw [List.length_map] at qkl3
              refine ⟨_, _, .inr (S7.t hqb), atI_nat (j := 2) rfl, qkus3, .inr (S7.t hqkv3), _, rfl, by omega, by omega, for_range (lo := 0) (n := ((qkus3.length : Nat) : Int).toNat) (fun j σ H' => ∃ (y7 : Option V) (us3 : List V) (G8 : Hp), σ = [some (.ref x), some (.ref y), some (.ref D), some (.str (mrk p)), some (.ref RO), some (.ref L1), some (.ref L2), y7, none] ∧ Same G7 G8 ∧ ptVs K G8 us3 (((B0 ++ (if lbl p = lbl qq then [] else [.say (mrk p) (lbl qq)])) ++ movesK (nowK (kids p) (kids qq)) (wanK (kids p) (kids qq))) ++ putsI (mrk p) (kids p) 0 ((kids qq).take j)) ∧ Sep G8 ((RO, .lst us3) :: (D, .frz od (.dK (stK (stl s t)))) :: M) H')
                ⟨_, us2, G7, rfl, Same.refl _, by simpa [putsI] using hus2, S7⟩ (fun j σ H' hj h => ?_) (fun σ H' h => ?_)⟩
              · obtain ⟨y7', us3, G8, rfl, s8, hus3, S8⟩ := h
                have hj : j < (kids qq).length := by omega
                have s18 := s17.trans s8
                obtain ⟨d, hd⟩ : ∃ d, (kids qq)[j]? = some d := ⟨_, List.getElem?_eq_getElem hj⟩
                have dm := List.mem_of_getElem? hd
                have e0 : (0 + ((j : Nat) : Int)) = ((j : Nat) : Int) := Int.zero_add _
                have iff := st_new nds ndt em mem dm
                have pI : putsI (mrk p) (kids p) 0 ((kids qq).take (j + 1)) = putsI (mrk p) (kids p) 0 ((kids qq).take j) ++ (if (fndT (kids p) (mrk d)).isSome then [] else [.put (mrk p) j d]) := by
                  rw [take_snoc hd, putsI_snoc, List.length_take, Nat.zero_add, show min j (kids qq).length = j by omega]
                have child : ∀ {vs : List V}, DpAll K G8 vs ((kids qq).map toD) → ∃ v, vs[j]? = some v ∧ Dp K G8 v (toD d) := fun hv => dpa_atR hv (by rw [List.getElem?_map, hd]; rfl)
                refine ⟨y, dy, _, rfl, S8.st (s18 _ _ h25), G8, y, mrk p, t, rfl, S8.1, hy5.same s18, ndt, txp, fun q3 w3 hq3 eq3 dw3 => ?_, fun hno => absurd hpt hno⟩
                obtain rfl : qq = q3 := (mrk_inj ndt hq3 hqq (eq3.trans epq)).symm
                obtain ⟨qc, qkv4, qkus4, rfl, hqc, hqkv4, hqkus4⟩ := node_at dw3
                obtain ⟨vd, hvd, dvd⟩ := child hqkus4
                obtain ⟨da, dkv, dkus, rfl, hda, _⟩ := node_at dvd
                have avd : atI qkus4 (0 + ((j : Nat) : Int)) = some (.ref da) := by rw [e0]; exact atI_nat hvd
                refine ⟨_, _, .inr (S8.t hqc), atI_nat (j := 2) rfl, _, _, .inr (S8.t hqkv4), avd, _, _, .inr (S8.t hda), atI_nat (j := 0) rfl, D, _, rfl, dg_frz S8.sw.hd, !decide (mrk d ∈ stl s t), by rw [stK_val], fun e => ?_, fun e => ?_⟩
                · have nS : mrk d ∉ stl s t := by simpa using e
                  have nf : ¬ (fndT (kids p) (mrk d)).isSome = true := fun z => nS (iff.mpr z)
                  refine ⟨.inl ⟨rfl, _, SqL.of S8.hd⟩, y, dy, _, rfl, S8.st (s18 _ _ h25), G8, y, mrk p, t, rfl, S8.1, hy5.same s18, ndt, txp, fun q4 w4 hq4 eq4 dw4 => ?_, fun hno => absurd hpt hno⟩
                  obtain rfl : qq = q4 := (mrk_inj ndt hq4 hqq (eq4.trans epq)).symm
                  obtain ⟨qe, qkv5, qkus5, rfl, hqe, hqkv5, hqkus5⟩ := node_at dw4
                  obtain ⟨ve, hve, dve⟩ := child hqkus5
                  have ave : atI qkus5 (0 + ((j : Nat) : Int)) = some ve := by rw [e0]; exact atI_nat hve
                  refine ⟨_, _, .inr (S8.t hqe), atI_nat (j := 2) rfl, _, _, .inr (S8.t hqkv5), ave, sz, fun a9 n9 => ?_⟩
                  obtain ⟨G9, s9, S9, h9⟩ := Sep.mk (o := .tup [.str "put", .str (mrk p), .int (0 + ((j : Nat) : Int)), ve]) S8 n9
                  have u3 := hus3.len
                  have tot3 := tot2
                  have pl := putsI_len (mrk p) (kids p) ((kids qq).take j) 0
                  rw [List.length_take] at pl
                  rw [eN] at tot3
                  simp only [List.length_append] at tot3 u3
                  refine ⟨RO, us3, _, rfl, rfl, S9.hd, smallL (by omega), _, us3 ++ [.ref a9], G9, rfl, s8.trans s9, ?_, S9.set⟩
                  rw [pI, if_neg nf, ← List.append_assoc]
                  rw [e0] at h9
                  exact ptVs.app (dpa_same s9 hus3) (dpa_one (.tup (SqT.of h9) (.cons (.str _) (.cons (.str _) (.cons (.int _) (.cons (dp_same s9 dve) .nil))))))
                · have yS : mrk d ∈ stl s t := by simpa using e
                  refine ⟨_, us3, G8, rfl, s8, ?_, S8⟩
                  rw [pI, if_pos (iff.mp yS), List.append_nil]
                  exact hus3
              · obtain ⟨y7', us3, G8, rfl, s8, hus3, S8⟩ := h
                rw [show ((qkus3.length : Nat) : Int).toNat = (kids qq).length by omega, List.take_length] at hus3
                refine ⟨_, _, _, _, us3, G8, rfl, s17.trans s8, ?_, S8⟩
                rw [eF, eN]
                simpa only [List.append_assoc] using hus3
        · obtain ⟨y3, y5, y6, y7, us, G', rfl, s', hus, S'⟩ := h
          have kl : (stK (stl s t)).length = (prl s t).length := by
            unfold stK
            rw [List.length_map, ← prl_stl, List.length_map]
          rw [kl, List.take_length, ← prl_rwl] at hus
          refine ⟨S'.sw.hd, ?_⟩
          have SU := (S'.sw.set (o' := .dK (stK (stl s t)))).drop
          obtain ⟨G9, s9, S9, hR9⟩ := Sep.keep SU
          obtain ⟨lead, _⟩ := btw_leads (S := stl s t) hN os ot em (npr_stl nds)
          have hx9 := (hx5.same s').same s9
          refine fun r dr nr ndr ner => ⟨G9, _, r, dr, x, RO, us, s, btw s t, rfl, S9.new2 nr ndr ner, hx9, fun G' H' s' S' => S'.st (s' _ _ hR9), dpa_same s9 hus, lead.chn, by omega, fun G10 H10 s10 hpt S10 => ⟨rfl, ?_⟩⟩
          exact q r G10 _ (s2.trans (s5.trans (s'.trans (s9.trans s10)))) hpt S10.drop

end
end K11
set_option Elab.async false
set_option linter.all false
set_option maxRecDepth 100000
set_option maxHeartbeats 4000000
namespace K11
open PySem PySem.Spec PyProof.Rows L2 XL
section
variable {P : Program} {w : World} {K : PySem.W.Frag} {mg : Str → Option Value} {base : Heap}
/-! ### the law's own staying marks -/
def spLStays (K : PySem.W.Frag) : Sp := fun vs H Q _ => ∃ (G : Hp) (M : List (Addr × HO)) (v u : V) (s t : Tr), vs = [v, u] ∧ Sep G M H ∧ Dp K G v (toD s) ∧ Dp K G u (toD t) ∧ Gt s ∧ Gt t ∧ mrk s = mrk t ∧
  ∀ (l : Addr) (G' H' : Hp), Same G G' → G' l = some (.lst ((stl s t).map V.str)) → Sep G' M H' → Q (.ref l) H'
def rwK (rs : List Rw) : List (Key × V) := rs.map fun r => (Sum.inr (mrk r.1), oV r.2.1)
theorem rwK_keys (rs : List Rw) : (rwK rs).map (·.1) = (rs.map fun r => mrk r.1).map (fun m => (Sum.inr m : Key)) := by
  unfold rwK
  rw [List.map_map, List.map_map]
  rfl
theorem ok_stays (T : Top K mg w) {k : Nat} (G_table : FnOk P w K mg base CX0 k T.a_table T.d_table ["_law_root"] (spTab K)) : FnOk P w K mg base CX0 (k + 1) T.a_stays T.d_stays ["_law_old", "_law_new"] (spLStays K) := by
  refine T.F_stays.ok sc_stays (fun vs H Q E h => ?_) (fun cdv A outer s0 H vs Q E hr h => ?_)
  · obtain ⟨G, M, v, u, s, t, rfl, _⟩ := h
    rfl
  · obtain ⟨G, M, v, u, s, t, rfl, S, hv, hu, gs, gt, em, q⟩ := h
    refine ⟨_, (pss_cons (ps_set (i := 2) sc_stays.nd rfl (.inl rfl) pe_dnewK)
      (pss_cons (ps_for PassesOwn.never rfl (pi_listK K (pe_call G_table (hr.mono (by omega)) (by rfl) T.g_table T.F_table.kp T.b_table .nil pass0 (pa_cons (xv 1) pa_nil))) (pg_tupK K 4 (pgs_cons (pg_name (i := 3) sc_stays.nd rfl (.inl rfl)) (pgs_cons (pg_name (i := 4) sc_stays.nd rfl (.inl rfl)) (pgs_cons (pg_name (i := 5) sc_stays.nd rfl (.inl rfl)) (pgs_cons (pg_name (i := 6) sc_stays.nd rfl (.inl rfl)) pgs_nil)))))
      (pss_one (ps_dput (hu_of hr) (xv 2) (pe_ix (ix_k K) (xv 3) pe_int (fun _ _ => rfl)) (xv 4) rfl)))
      (pss_cons (ps_set (i := 7) sc_stays.nd rfl (.inl rfl) (pe_lst pa_nil))
      (pss_cons (ps_for PassesOwn.never rfl (pi_listK K (pe_call G_table (hr.mono (by omega)) (by rfl) T.g_table T.F_table.kp T.b_table .nil pass0 (pa_cons (xv 0) pa_nil))) (pg_tupK K 4 (pgs_cons (pg_name (i := 3) sc_stays.nd rfl (.inl rfl)) (pgs_cons (pg_name (i := 4) sc_stays.nd rfl (.inl rfl)) (pgs_cons (pg_name (i := 5) sc_stays.nd rfl (.inl rfl)) (pgs_cons (pg_name (i := 6) sc_stays.nd rfl (.inl rfl)) pgs_nil)))))
      (pss_one (xs_if (PW.pt (xw_or (xt_cmp op_isN (xv 4) pe_non (nomark _)) (pw_or1 (PW.pt (xw_and (xt_cmp (in_seqK K) (xv 4) (xv 7) (by rfl)) (xw_and (pt_cmp (pc_din (hu_of hr) (pe_ix (ix_k K) (xv 3) pe_int (fun _ _ => rfl)) (xv 2))) (pw_and1 (xt_cmp (op_eqLK K hr.u190) (pe_dget (hu_of hr) (xv 2) (pe_ix (ix_k K) (xv 3) pe_int (fun _ _ => rfl)) (fun _ _ => rfl)) (xv 4) (nomark _)))))))))
      (pss_one (ps_expr (pe_bmK K PySem.F.plainAttrs_list PySem.F.slot_list_append PySem.F.type_list_append mt_append (xv 7) (pa_cons (pe_ix (ix_k K) (xv 3) pe_int (fun _ _ => rfl)) pa_nil))))
      pss_nil)))
      (pss_one (ps_ret (xv 7))))))), ?_⟩
    have nds := gs.nd
    have ndt := gt.nd
    have l1 := gs.ln
    have l2 := gt.ln
    refine fun D nD => ?_
    have S1 := S.new (o := .dK []) nD
    refine ⟨G, _, u, t, rfl, S1, hu, by omega, fun L us G2 H2 s2 hL hus S2 => ?_⟩
    have ul := prd_len hus
    rw [tb_len] at ul
    refine ⟨L, rfl, ⟨us, SqL.of (S2.st hL)⟩, for_list (xs := us) (fun i σ H' => ∃ (y3 y4 y5 y6 : Option V), σ = [some v, some u, some (.ref D), y3, y4, y5, y6, none] ∧ Sep G2 ((D, .dK (rwK ((tb none 0 1 t).take i))) :: M) H') ⟨_, _, _, _, rfl, S2⟩ (fun i σ H' _ h => ?_) (fun i x σ H' hx h => ?_) (fun σ H' h => ?_)⟩
    · obtain ⟨_, _, _, _, _, S'⟩ := h
      exact SqL.of (S'.st hL)
    · obtain ⟨y3, y4, y5, y6, rfl, S'⟩ := h
      obtain ⟨r, hr1, a, v1, rfl, ha, hv1⟩ := prd_get hus hx
      obtain ⟨na, nkv, nkus, rfl, hna, _⟩ := node_at hv1
      have il := (List.getElem?_eq_some_iff.mp hx).1
      refine ⟨a, _, rfl, SqT.of (S'.st ha), rfl, _, _, rfl, _, _, rfl, _, _, rfl, _, _, rfl, rfl, ?_⟩
      have fresh : (Sum.inr (mrk r.1) : Key) ∉ (rwK ((tb none 0 1 t).take i)).map (·.1) := fun hm => by
        rw [rwK_keys] at hm
        obtain ⟨m, hm1, hm2⟩ := List.mem_map.mp hm
        cases Sum.inr.inj hm2
        have nd := ndt
        rw [← tb_marks, (take_pre hr1).1, List.map_append, List.map_cons] at nd
        exact (List.nodup_append.mp nd).2.2 _ hm1 _ List.mem_cons_self rfl
      refine ⟨_, _, .inr (S'.t hna), atI_nat (j := 0) rfl, D, _, rfl, DPut.k (k := Sum.inr (mrk r.1)) S'.hd (smallL (by unfold rwK; rw [List.length_map, List.length_take]; omega)), ?_⟩
      rw [putK_new (valV_none fresh)]
      refine ⟨_, _, _, _, rfl, ?_⟩
      have e : rwK ((tb none 0 1 t).take (i + 1)) = rwK ((tb none 0 1 t).take i) ++ [(Sum.inr (mrk r.1), oV r.2.1)] := by
        rw [take_snoc hr1]
        unfold rwK
        rw [List.map_append]
        rfl
      rw [e]
      exact S'.set
    · obtain ⟨y3, y4, y5, y6, rfl, S3⟩ := h
      rw [ul, ← tb_len none 0 1 t, List.take_length] at S3
      have ndk : ((rwK (tb none 0 1 t)).map (·.1)).Nodup := by
        rw [rwK_keys, tb_marks]
        exact nd_inr ndt
      obtain ⟨G4, s4, S4, hD⟩ := Sep.keep S3
      refine ⟨sz, fun O nO => ?_⟩
      have S5 := S4.new (o := .lst []) nO
      have s24 := s2.trans s4
      refine ⟨G4, _, v, s, rfl, S5, dp_same s24 hv, by omega, fun L2 ws G6 H6 s6 hL2 hws S6 => ?_⟩
      have wl := prd_len hws
      rw [tb_len] at wl
      have hD6 := s6 _ _ hD
      refine ⟨L2, rfl, ⟨ws, SqL.of (S6.st hL2)⟩, for_list (xs := ws) (fun i σ H' => ∃ (y3 y4 y5 y6 : Option V), σ = [some v, some u, some (.ref D), y3, y4, y5, y6, some (.ref O)] ∧ Sep G6 ((O, .lst ((stF t [] ((tb none 0 1 s).take i)).map V.str)) :: M) H') ⟨_, _, _, _, rfl, S6⟩ (fun i σ H' _ h => ?_) (fun i x σ H' hx h => ?_) (fun σ H' h => ?_)⟩
      · obtain ⟨_, _, _, _, _, S'⟩ := h
        exact SqL.of (S'.st hL2)
      · obtain ⟨y3, y4, y5, y6, rfl, S'⟩ := h
        obtain ⟨r, hr1, a, v1, rfl, ha, hv1⟩ := prd_get hws hx
        obtain ⟨na, nkv, nkus, rfl, hna, _⟩ := node_at hv1
        have il := (List.getElem?_eq_some_iff.mp hx).1
        have rm := List.mem_of_getElem? hr1
        have ek := take_snoc hr1
        have fl := stF_len (t := t) ((tb none 0 1 s).take i) []
        rw [List.length_nil, List.length_take] at fl
        refine ⟨a, _, rfl, SqT.of (S'.st ha), rfl, _, _, rfl, _, _, rfl, _, _, rfl, _, _, rfl, rfl, ?_⟩
        have yes : ∀ {H2 : Hp}, Sep G6 ((O, .lst ((stF t [] ((tb none 0 1 s).take i)).map V.str)) :: M) H2 → stB t (stF t [] ((tb none 0 1 s).take i)) r = true → Sep G6 ((O, .lst ((stF t [] ((tb none 0 1 s).take (i + 1))).map V.str)) :: M) (upd H2 O (.lst ((stF t [] ((tb none 0 1 s).take i)).map V.str ++ [.str (mrk r.1)]))) := fun S2 hb => by
          rw [ek, stF_snoc, hb, if_pos rfl, List.map_append]
          exact S2.set
        have no : stB t (stF t [] ((tb none 0 1 s).take i)) r = false → Sep G6 ((O, .lst ((stF t [] ((tb none 0 1 s).take (i + 1))).map V.str)) :: M) H' := fun hb => by
          rw [ek, stF_snoc, hb, if_neg (by decide)]
          exact S'
        have app : stB t (stF t [] ((tb none 0 1 s).take i)) r = true → ∀ y : Option V, True := fun _ _ => trivial
        cases hu2 : r.2.1 with
        | none =>
          have hb : stB t (stF t [] ((tb none 0 1 s).take i)) r = true := by unfold stB; rw [hu2]
          refine ⟨rfl, fun _ => ⟨fun _ => ?_, tt⟩, fun e => absurd e (by simp [oV])⟩
          exact ⟨.inl ⟨rfl, _, SqL.of S'.hd⟩, _, _, .inr (S'.t hna), atI_nat (j := 0) rfl, O, _, _, rfl, rfl, S'.hd, smallL (by rw [List.length_map]; omega), _, _, _, _, rfl, yes S' hb⟩
        | some up =>
          have hs : stB t (stF t [] ((tb none 0 1 s).take i)) r = (decide (up ∈ stF t [] ((tb none 0 1 s).take i)) && kidB t up (mrk r.1)) := by unfold stB; rw [hu2]
          refine ⟨rfl, fun e => absurd e (by simp [oV]), fun _ => ?_⟩
          refine ⟨O, _, rfl, .inl (SqL.of S'.hd), rfl, strs_flat _, ?_⟩
          refine ⟨fun e1 => ?_, fun e1 => ⟨ff, fun _ => ⟨_, _, _, _, rfl, no ?_⟩⟩⟩
          case refine_2 =>
            have e2 : inV (.str up) ((stF t [] ((tb none 0 1 s).take i)).map V.str) = false := e1
            rw [inV_str] at e2
            rw [hs, e2]
            rfl
          have e2 : inV (.str up) ((stF t [] ((tb none 0 1 s).take i)).map V.str) = true := e1
          rw [inV_str] at e2
          rw [e2, Bool.true_and] at hs
          by_cases hm : mrk r.1 ∈ (pre t).map mrk
          · obtain ⟨p, hp, ep⟩ := List.mem_map.mp hm
            obtain ⟨r3, hr3, rfl⟩ := row_of hp
            have hv3 : valV (rwK (tb none 0 1 t)) (Sum.inr (mrk r.1)) = some (oV r3.2.1) := valV_mem ndk (List.mem_map.mpr ⟨r3, hr3, by rw [ep]⟩)
            have g3 : DGet H' D (.str (mrk r.1)) (some (oV r3.2.1)) := hv3 ▸ DGet.k (k := Sum.inr (mrk r.1)) (S'.st hD6)
            have rk := row_kid (u := up) ndt hr3
            rw [ep] at rk
            rw [rk] at hs
            refine ⟨_, _, .inr (S'.t hna), atI_nat (j := 0) rfl, D, _, rfl, g3, _, rfl, fun _ => ?_, tt⟩
            refine ⟨_, _, .inr (S'.t hna), atI_nat (j := 0) rfl, D, _, rfl, g3, ?_⟩
            cases h3 : r3.2.1 with
            | none =>
              rw [h3] at hs
              exact ⟨rfl, fun e => absurd e (by simp [oV]), fun _ => ⟨_, _, _, _, rfl, no (by rw [hs]; simp)⟩⟩
            | some u' =>
              rw [h3] at hs
              refine ⟨fun e => ?_, fun e => ⟨_, _, _, _, rfl, no ?_⟩⟩
              · exact ⟨.inl ⟨rfl, _, SqL.of S'.hd⟩, _, _, .inr (S'.t hna), atI_nat (j := 0) rfl, O, _, _, rfl, rfl, S'.hd, smallL (by rw [List.length_map]; omega), _, _, _, _, rfl, yes S' (by rw [hs, of_decide_eq_true e]; simp)⟩
              · rw [hs]
                exact decide_eq_false fun z => of_decide_eq_false e (Option.some.inj z)
          · have hvn : valV (rwK (tb none 0 1 t)) (Sum.inr (mrk r.1)) = none := valV_none (by
              rw [rwK_keys, tb_marks]
              intro hx
              obtain ⟨z, hz, e⟩ := List.mem_map.mp hx
              rw [Sum.inr.inj e] at hz
              exact hm hz)
            have g3 : DGet H' D (.str (mrk r.1)) none := hvn ▸ DGet.k (k := Sum.inr (mrk r.1)) (S'.st hD6)
            refine ⟨_, _, .inr (S'.t hna), atI_nat (j := 0) rfl, D, _, rfl, g3, _, rfl, ff, fun _ => ⟨ff, fun _ => ⟨_, _, _, _, rfl, no ?_⟩⟩⟩
            rw [hs]
            cases hk : kidB t up (mrk r.1) with
            | false => rfl
            | true => exact absurd (kid_there hk) hm
      · obtain ⟨y3, y4, y5, y6, rfl, S'⟩ := h
        rw [wl, ← tb_len none 0 1 s, List.take_length, stF_all nds ndt em] at S'
        obtain ⟨G9, s9, S9, h9⟩ := Sep.keep S'
        exact q O G9 _ (s24.trans (s6.trans s9)) h9 S9

end
end K11
set_option Elab.async false
set_option linter.all false
set_option maxRecDepth 100000
set_option maxHeartbeats 4000000
namespace K11
open PySem PySem.Spec PyProof.Rows L2 XL
section
variable {P : Program} {w : World} {K : PySem.W.Frag} {mg : Str → Option Value} {base : Heap}
/-! ### _law_sound of a patch that fits, _law_walked of a row of patches -/
def spSound (K : PySem.W.Frag) : Sp := fun vs H Q _ => ∃ (u : V) (l : Addr) (p : Pt) (ds : List PyData), vs = [u, .ref l] ∧ Dp K H u (ptD p) ∧ Dp K H (.ref l) (.list ds) ∧ PyData.canLayAll0 ds = true ∧ (∀ m i s, p = .put m i s → toD s ∈ ds ∧ (toD s).canLay0 = true ∧ (toD s).depth ≤ 125) ∧ Q (.bl true) H
theorem ok_sound (T : Top K mg w) {k : Nat} (G_number : FnOk P w K mg base CX0 k T.a_number T.d_number ["_law_thing"] spNumber) : FnOk P w K mg base CX0 (k + 1) T.a_sound T.d_sound ["_law_patch", "_law_brought"] (spSound K) := by
  refine T.F_sound.ok sc_sound (fun vs H Q E h => ?_) (fun cdv A outer s H vs Q E hr h => ?_)
  · obtain ⟨u, l, p, ds, rfl, _⟩ := h
    rfl
  · obtain ⟨u, l, p, ds, rfl, hu, hl, cls, hin, q⟩ := h
    obtain ⟨a, ws, rfl, ha, hws⟩ := id (pt_at hu)
    refine ⟨_, (pss_cons (xs_if (PW.pt (xw_or (pt_not (xt_truK K (pe_callB (call_isK K) (by rfl) T.m_isinstance (by decide +kernel) (pa_cons (xv 0) (pa_cons (pe_bltn (v := .ty "tuple") (by rfl) T.m_tuple (by decide +kernel) rfl) pa_nil))))) (xw_or (xt_cmp op_ltY (pe_callB (cr_lenK K) (by rfl) T.m_len (by decide +kernel) (pa_cons (xv 0) pa_nil)) pe_int (nomark _)) (pw_or1 (pt_not (xt_truK K (pe_callB (call_isK K) (by rfl) T.m_isinstance (by decide +kernel) (pa_cons (pe_ix (ix_k K) (xv 0) pe_int (fun _ _ => rfl)) (pa_cons (pe_bltn (v := .ty "str") (by rfl) T.m_str (by decide +kernel) rfl) pa_nil)))))))))
      (pss_one (ps_ret pe_bl))
      pss_nil)
      (pss_cons (xs_if (PW.pt (xw_and (xt_cmp (op_eqLK K hr.u190) (pe_ix (ix_k K) (xv 0) pe_int (fun _ _ => rfl)) pe_str (nomark _)) (pw_and1 (xt_cmp (op_eqLK K hr.u190) (pe_callB (cr_lenK K) (by rfl) T.m_len (by decide +kernel) (pa_cons (xv 0) pa_nil)) pe_int (nomark _)))))
      (pss_one (ps_ret (xe_and (pe_call G_number (hr.mono (by omega)) (by rfl) T.g_number T.F_number.kp T.b_number .nil pass0 (pa_cons (pe_ix (ix_k K) (xv 0) pe_int (fun _ _ => rfl)) pa_nil)) (pe_one (pe_cmpR (in_deepLK K hr.u190) (pe_ix (ix_k K) (xv 0) pe_int (fun _ _ => rfl)) (xv 1) (by rfl))))))
      pss_nil)
      (pss_cons (xs_if (PW.pt (xw_and (xt_cmp (op_eqLK K hr.u190) (pe_ix (ix_k K) (xv 0) pe_int (fun _ _ => rfl)) pe_str (nomark _)) (pw_and1 (xt_cmp (op_eqLK K hr.u190) (pe_callB (cr_lenK K) (by rfl) T.m_len (by decide +kernel) (pa_cons (xv 0) pa_nil)) pe_int (nomark _)))))
      (pss_one (ps_ret (pe_call G_number (hr.mono (by omega)) (by rfl) T.g_number T.F_number.kp T.b_number .nil pass0 (pa_cons (pe_ix (ix_k K) (xv 0) pe_int (fun _ _ => rfl)) pa_nil))))
      pss_nil)
      (pss_cons (xs_if (PW.pt (xw_and (xt_cmp (op_eqLK K hr.u190) (pe_ix (ix_k K) (xv 0) pe_int (fun _ _ => rfl)) pe_str (nomark _)) (pw_and1 (xt_cmp (op_eqLK K hr.u190) (pe_callB (cr_lenK K) (by rfl) T.m_len (by decide +kernel) (pa_cons (xv 0) pa_nil)) pe_int (nomark _)))))
      (pss_one (ps_ret (pe_callB (call_isK K) (by rfl) T.m_isinstance (by decide +kernel) (pa_cons (pe_ix (ix_k K) (xv 0) pe_int (fun _ _ => rfl)) (pa_cons (pe_bltn (v := .ty "str") (by rfl) T.m_str (by decide +kernel) rfl) pa_nil)))))
      pss_nil)
      (pss_one (ps_ret (xe_and (pe_cmpR (op_eqLK K hr.u190) (pe_ix (ix_k K) (xv 0) pe_int (fun _ _ => rfl)) pe_str (nomark _)) (pe_one (pe_cmpR (op_eqLK K hr.u190) (pe_callB (cr_lenK K) (by rfl) T.m_len (by decide +kernel) (pa_cons (xv 0) pa_nil)) pe_int (nomark _)))))))))), ?_⟩
    have wl := dpa_len hws
    refine ⟨_, _, _, _, true, rfl, .ty _, sqT_ty ha, kit_ty (by decide +kernel), ff, fun _ => ?_⟩
    refine ⟨_, .inr ha, fun e => ?_, fun _ => ?_⟩
    · have := of_decide_eq_true e
      simp only [List.length_cons] at this
      omega
    refine ⟨_, _, .inr ha, atI_nat (j := 1) rfl, _, _, _, _, true, rfl, .ty _, .base (.str _), kit_ty (by decide +kernel), ff, fun _ => ?_⟩
    cases p with
    | put m i s =>
      obtain ⟨x1, r1, rfl, h3, h4⟩ := dpa_cons hws
      obtain ⟨x2, r2, rfl, h5, h6⟩ := dpa_cons h4
      cases h6
      cases dp_int h3
      obtain ⟨m1, m2, m3⟩ := hin m i s rfl
      refine ⟨_, _, .inr ha, atI_nat (j := 0) rfl, fun _ => ⟨_, .inr ha, fun _ => ?_, fun e => absurd rfl (of_decide_eq_false e)⟩, fun e => absurd rfl (of_decide_eq_false e)⟩
      refine ⟨_, _, .inr ha, atI_nat (j := 2) rfl, _, rfl, fun _ => ⟨_, _, .inr ha, atI_nat (j := 3) rfl, toD s, ds, h5, hl, m2, by omega, cls, ?_⟩, tt⟩
      rw [show (ds.any fun z => PyData.eqv z (toD s)) = true from List.any_eq_true.mpr ⟨toD s, m1, SeqAt.eqv_refl _ m2⟩]
      exact q
    | move m i =>
      obtain ⟨x1, r1, rfl, h3, h4⟩ := dpa_cons hws
      cases h4
      cases dp_int h3
      refine ⟨_, _, .inr ha, atI_nat (j := 0) rfl, fun e => absurd (of_decide_eq_true e) (show ("move" : Str) ≠ "put" by decide +kernel), fun _ => ⟨ff, fun _ => ?_⟩⟩
      refine ⟨_, _, .inr ha, atI_nat (j := 0) rfl, fun _ => ⟨_, .inr ha, fun _ => ?_, fun e => absurd rfl (of_decide_eq_false e)⟩, fun e => absurd rfl (of_decide_eq_false e)⟩
      exact ⟨_, _, .inr ha, atI_nat (j := 2) rfl, _, rfl, q⟩
    | say m l2 =>
      obtain ⟨x1, r1, rfl, h3, h4⟩ := dpa_cons hws
      cases h4
      cases dp_str h3
      refine ⟨_, _, .inr ha, atI_nat (j := 0) rfl, fun e => absurd (of_decide_eq_true e) (show ("say" : Str) ≠ "put" by decide +kernel), fun _ => ⟨ff, fun _ => ?_⟩⟩
      refine ⟨_, _, .inr ha, atI_nat (j := 0) rfl, fun e => absurd (of_decide_eq_true e) (show ("say" : Str) ≠ "move" by decide +kernel), fun _ => ⟨ff, fun _ => ?_⟩⟩
      refine ⟨_, _, .inr ha, atI_nat (j := 0) rfl, fun _ => ⟨_, .inr ha, fun _ => ?_, fun e => absurd rfl (of_decide_eq_false e)⟩, fun e => absurd rfl (of_decide_eq_false e)⟩
      exact ⟨_, _, .inr ha, atI_nat (j := 2) rfl, _, _, _, _, true, rfl, .ty _, .base (.str _), kit_ty (by decide +kernel), q⟩
    | drop m =>
      cases hws
      refine ⟨_, _, .inr ha, atI_nat (j := 0) rfl, fun e => absurd (of_decide_eq_true e) (show ("drop" : Str) ≠ "put" by decide +kernel), fun _ => ⟨ff, fun _ => ?_⟩⟩
      refine ⟨_, _, .inr ha, atI_nat (j := 0) rfl, fun e => absurd (of_decide_eq_true e) (show ("drop" : Str) ≠ "move" by decide +kernel), fun _ => ⟨ff, fun _ => ?_⟩⟩
      refine ⟨_, _, .inr ha, atI_nat (j := 0) rfl, fun e => absurd (of_decide_eq_true e) (show ("drop" : Str) ≠ "say" by decide +kernel), fun _ => ⟨ff, fun _ => ?_⟩⟩
      refine ⟨_, _, .inr ha, atI_nat (j := 0) rfl, fun _ => ⟨_, .inr ha, q⟩, fun e => absurd rfl (of_decide_eq_false e)⟩
theorem put_in {t s : Tr} {m : Str} {i : Nat} (g : Gt t) (f : Fits (.put m i s) t) : s ∈ pre (aft (.put m i s) t) := by
  obtain ⟨q, hq, em, _⟩ := f
  obtain ⟨π, hπ⟩ := pre_sub t hq
  have e := aft_node (p := .put m i s) (.inl ⟨_, _, _, rfl⟩) g.nd hπ em
  have hs := sub_set (.node (mrk q) (lbP (.put m i s) (mrk q) (lbl q)) (ksP (.put m i s) (mrk q) (kids q))) hπ
  rw [← e] at hs
  have hk : s ∈ kids (.node (mrk q) (lbP (.put m i s) (mrk q) (lbl q)) (ksP (.put m i s) (mrk q) (kids q))) := by
    rw [show kids (.node (mrk q) (lbP (.put m i s) (mrk q) (lbl q)) (ksP (.put m i s) (mrk q) (kids q))) = insT (kids q) i s from if_pos em]
    exact (ins_perm _ i s).mem_iff.mpr List.mem_cons_self
  exact pre_trans _ (sub_mem hs) (kid_pre hk)
theorem fits_bnd {t : Tr} {p : Pt} (g : Gt t) (ft : Fits p t) : (∀ m i s, p = .put m i s → i ≤ 2000) ∧ (∀ m i, p = .move m i → i ≤ 2000) := by
  have gl := g.ln
  refine ⟨fun m i s e => ?_, fun m i e => ?_⟩
  · subst e
    obtain ⟨q1, h1, _, h3, _⟩ := ft
    have h5 := sub_len h1
    have h6 := many_le (kids q1)
    omega
  · subst e
    obtain ⟨q1, h1, _, _, _, h3⟩ := ft
    have h5 := sub_len h1
    have h6 := many_le (kids q1)
    omega

/-! ### the node of a mark -/
def spNode (K : PySem.W.Frag) : Sp := fun vs H Q _ => ∃ (G : Hp) (M : List (Addr × HO)) (v : V) (m : Str) (t : Tr), vs = [v, .str m] ∧ Sep G M H ∧ Dp K G v (toD t) ∧ (pre t).length ≤ 1000 ∧ m ∈ (pre t).map mrk ∧
  ∀ (u : V) (q : Tr) (G' H' : Hp), Same G G' → Dp K G' u (toD q) → q ∈ pre t → mrk q = m → Sep G' M H' → Q u H'
theorem ok_node (T : Top K mg w) {k : Nat} (G_table : FnOk P w K mg base CX0 k T.a_table T.d_table ["_law_root"] (spTab K)) : FnOk P w K mg base CX0 (k + 1) T.a_node T.d_node ["_law_root", "_law_mark"] (spNode K) := by
  refine T.F_node.ok sc_node (fun vs H Q E h => ?_) (fun cdv A outer s H vs Q E hr h => ?_)
  · obtain ⟨G, M, v, m, t, rfl, _⟩ := h
    rfl
  · obtain ⟨G, M, v, m, t, rfl, S, hv, pl, hm, q⟩ := h
    refine ⟨_, (pss_one (ps_ret (pe_ix (ix_k K) (pe_lc (own := [("_law_row", 2)]) (by rfl) sc_node.nd (pi_listK K (pe_call G_table (hr.mono (by omega)) (by rfl) T.g_table T.F_table.kp T.b_table .nil pass0 (pa_cons (xv 0) pa_nil))) (blkOk_by (N := ["_law_root", "_law_mark", "_law_row"]) (sc := defScope s_node) (by decide +kernel)) (fun _ _ _ _ _ => (pg_name (i := 2) sc_node.nd rfl (.inl rfl))) (fun _ _ _ _ _ => (pts_one (xt_cmp (op_eqLK K hr.u190) (pe_ix (ix_k K) (pe_ix (ix_k K) (xv 2) pe_int (fun _ _ => rfl)) pe_int (fun _ _ => rfl)) (xv 1) (nomark _)))) (fun _ _ _ _ _ => (pe_ix (ix_k K) (xv 2) pe_int (fun _ _ => rfl)))) pe_int (fun _ _ => rfl)))), ?_⟩
    refine ⟨G, M, v, t, rfl, S, hv, pl, fun l us G1 H1 s1 hl hus S1 => ⟨l, rfl, ⟨_, SqL.of (S1.st hl)⟩, fun D nD => lc_list (xs := us) (fun i H' => ∃ (vs : List V) (ts : List Tr), vs.length ≤ i ∧ DpAll K G1 vs (ts.map toD) ∧ (∀ c ∈ ts, c ∈ pre t ∧ mrk c = m) ∧ ((∃ c ∈ (pre t).take i, mrk c = m) → ts ≠ []) ∧ Sep G1 ((D, .lst vs) :: M) H') ⟨[], [], Nat.le_refl _, .nil, (fun c h => nomatch h), (fun ⟨c, h, _⟩ => by simp at h), S1.new nD⟩ (fun i H' _ pv => ?_) (fun i y H' hy pv => ⟨rfl, ?_⟩) (fun H' pv => ?_)⟩⟩
    · obtain ⟨_, _, _, _, _, _, S'⟩ := pv
      exact SqL.of (S'.st hl)
    · obtain ⟨vs, ts, vl, hvs, hts, hne, S2⟩ := pv
      obtain ⟨r, hr', a, v1, rfl, ha, hv1⟩ := prd_get hus hy
      have hc : (pre t)[i]? = some r.1 := by
        rw [← tb_pre none 0 1 t, List.getElem?_map, hr']
        rfl
      obtain ⟨a0, kv, kus, rfl, ha0, hkv, hkus⟩ := id (node_at hv1)
      have il := (List.getElem?_eq_some_iff.mp hc).1
      refine ⟨_, _, .inr (SqT.of (S2.st ha)), atI_nat (j := 0) rfl, _, _, .inr (S2.t ha0), atI_nat (j := 0) rfl, tst (fun e => ?_) (fun e => ?_)⟩
      · refine ⟨_, _, .inr (SqT.of (S2.st ha)), atI_nat (j := 0) rfl, vs, S2.hd, smallL (by omega), vs ++ [.ref a0], ts ++ [r.1], by rw [List.length_append]; exact Nat.succ_le_succ vl, by rw [List.map_append]; exact dpa_app hvs (dpa_one hv1), fun c hc2 => ?_, fun _ => by simp, S2.set⟩
        rcases List.mem_append.mp hc2 with h | h
        · exact hts c h
        · rw [List.mem_singleton.mp h]
          exact ⟨List.mem_of_getElem? hc, of_decide_eq_true e⟩
      · refine ⟨vs, ts, by omega, hvs, hts, fun ⟨c, h1, h2⟩ => hne ⟨c, ?_, h2⟩, S2⟩
        rw [take_snoc hc] at h1
        rcases List.mem_append.mp h1 with h | h
        · exact h
        · rw [List.mem_singleton.mp h] at h2
          exact absurd h2 (of_decide_eq_false e)
    · obtain ⟨vs, ts, vl, hvs, hts, hne, S2⟩ := pv
      have ul := prd_len hus
      rw [tb_len] at ul
      obtain ⟨c0, hc0, e0⟩ := List.mem_map.mp hm
      have n0 := hne ⟨c0, by rw [List.take_of_length_le (by omega)]; exact hc0, e0⟩
      obtain ⟨c, cr, rfl⟩ := List.exists_cons_of_ne_nil n0
      obtain ⟨x, xr, rfl, hx, _⟩ := dpa_cons hvs
      obtain ⟨h1, h2⟩ := hts c List.mem_cons_self
      exact ⟨_, x, .inl (SqL.of S2.hd), atI_nat (j := 0) rfl, q x c G1 _ s1 hx h1 h2 S2.drop⟩

/-! ### the law's own leading -/
theorem Ld.at {S : List Str} {t : Tr} {p : Pt} : ∀ {xs ys : List Pt} {T : Tr}, Ld S t (xs ++ p :: ys) T → Gt (runs xs T) ∧ Fits p (runs xs T) ∧ (∀ m, p = .drop m → ∀ n ∈ pre (runs xs T), mrk n = m → ∀ z ∈ mks n, z ∉ S) ∧ (∀ m i s, p = .put m i s → s ∈ pre t)
  | [], ys, T, h => ⟨h.1, h.2.1, h.2.2.1, h.2.2.2.1⟩
  | x :: xs, ys, T, h => Ld.at (xs := xs) (ys := ys) h.2.2.2.2
theorem runs_take {ps : List Pt} {i : Nat} {p : Pt} {T : Tr} (h : ps[i]? = some p) : runs (ps.take (i + 1)) T = aft p (runs (ps.take i) T) := by
  rw [take_snoc h, runs_app]
  rfl
theorem layAllD : ∀ {ds : List PyData}, (∀ d ∈ ds, d.canLay0 = true) → PyData.canLayAll0 ds = true
  | [], _ => by simp only [PyData.canLayAll0]
  | d :: r, h => by
    simp only [PyData.canLayAll0, h d List.mem_cons_self, layAllD fun x hx => h x (List.mem_cons_of_mem _ hx), Bool.and_self]
def spLeads (K : PySem.W.Frag) : Sp := fun vs H Q _ => ∃ (G : Hp) (M : List (Addr × HO)) (v u : V) (l : Addr) (us : List V) (s t : Tr) (ps : List Pt), vs = [v, u, .ref l] ∧ Sep G M H ∧ Dp K G v (toD s) ∧ Dp K G u (toD t) ∧ G l = some (.lst us) ∧ DpAll K G us (ps.map ptD) ∧ Gt s ∧ Gt t ∧ mrk s = mrk t ∧ Ld (stl s t) t ps s ∧ runs ps s = t ∧
  ∀ (G' H' : Hp), Same G G' → Sep G' M H' → Q (.bl true) H'
theorem ok_leads (T : Top K mg w) {k : Nat} (G_stays : FnOk P w K mg base CX0 k T.a_stays T.d_stays ["_law_old", "_law_new"] (spLStays K)) (G_table : FnOk P w K mg base CX0 k T.a_table T.d_table ["_law_root"] (spTab K)) (G_sound : FnOk P w K mg base CX0 k T.a_sound T.d_sound ["_law_patch", "_law_brought"] (spSound K))
    (G_due : FnOk P w K mg base CX0 k T.a_due T.d_due ["_law_root", "_law_patch"] (spDueOk K)) (G_marked : FnOk P w K mg base CX0 k T.a_marked T.d_marked ["_law_root"] (spMarked K)) (G_node : FnOk P w K mg base CX0 k T.a_node T.d_node ["_law_root", "_law_mark"] (spNode K)) (G_after : FnOk P w K mg base CX0 k T.a_after T.d_after ["_law_node_here", "_law_patch"] (spAft K 60)) :
    FnOk P w K mg base CX0 (k + 1) T.a_leads T.d_leads ["_law_old", "_law_new", "_law_rows"] (spLeads K) := by
  refine T.F_leads.ok sc_leads (fun vs H Q E h => ?_) (fun cdv A outer s0 H vs Q E hr h => ?_)
  · obtain ⟨G, M, v, u, l, us, s, t, ps, rfl, _⟩ := h
    rfl
  · obtain ⟨G, M, v, u, l, us, s, t, ps, rfl, S, hv, hu, hl, hus, gs, gt, em, ld, ru, q⟩ := h
    refine ⟨_, (pss_cons (ps_set (i := 3) sc_leads.nd rfl (.inr rfl) (pe_call G_stays (hr.mono (by omega)) (by rfl) T.g_stays T.F_stays.kp T.b_stays .nil pass0 (pa_cons (xv 0) (pa_cons (xv 1) pa_nil))))
      (pss_cons (ps_setLc (i := 4) (own := [("_law_row", 7)]) (by rfl) sc_leads.nd rfl rfl (sw_true rfl rfl rfl (by decide +kernel)) (pi_listK K (pe_call G_table (hr.mono (by omega)) (by rfl) T.g_table T.F_table.kp T.b_table .nil pass0 (pa_cons (xv 1) pa_nil))) (blkOk_by (N := ["_law_old", "_law_new", "_law_rows", "_law_stays_here", "_law_brought", "_law_root", "_law_patch", "_law_row", "_law_mark"]) (sc := defScope s_leads) (by decide +kernel)) (fun _ _ _ _ _ => (pg_name (i := 7) sc_leads.nd rfl (.inl rfl))) (fun _ _ _ _ _ => pts_nil) (fun _ _ _ _ _ => (pe_ix (ix_k K) (xv 7) pe_int (fun _ _ => rfl))))
      (pss_cons (ps_set (i := 5) sc_leads.nd rfl (.inl rfl) (xv 0))
      (pss_cons (ps_for PassesOwn.never rfl (pi_listK K (xv 2)) (pg_name (i := 6) sc_leads.nd rfl (.inl rfl))
      (pss_cons (xs_if (PW.pt (xw_or (pt_not (xt_truK K (pe_call G_sound (hr.mono (by omega)) (by rfl) T.g_sound T.F_sound.kp T.b_sound .nil pass0 (pa_cons (xv 6) (pa_cons (xv 4) pa_nil))))) (pw_or1 (xt_cmp (op_neLK K hr.u190) (pe_ix (ix_k K) (pe_call G_due (hr.mono (by omega)) (by rfl) T.g_due T.F_due.kp T.b_due .nil pass0 (pa_cons (xv 5) (pa_cons (xv 6) pa_nil))) pe_int (fun _ _ => rfl)) pe_str (nomark _)))))
      (pss_one (ps_ret pe_bl))
      pss_nil)
      (xss_cut (xs_if (PW.pt (xw_and (xt_cmp (op_eqLK K hr.u190) (pe_ix (ix_k K) (xv 6) pe_int (fun _ _ => rfl)) pe_str (nomark _)) (pw_and1 (xt_cmp (op_neLK K hr.u190) (pe_lc (own := [("_law_mark", 8)]) (by rfl) sc_leads.nd (pi_listK K (pe_call G_marked (hr.mono (by omega)) (by rfl) T.g_marked T.F_marked.kp T.b_marked .nil pass0 (pa_cons (pe_call G_node (hr.mono (by omega)) (by rfl) T.g_node T.F_node.kp T.b_node .nil pass0 (pa_cons (xv 5) (pa_cons (pe_ix (ix_k K) (xv 6) pe_int (fun _ _ => rfl)) pa_nil))) pa_nil))) (blkOk_by (N := ["_law_old", "_law_new", "_law_rows", "_law_stays_here", "_law_brought", "_law_root", "_law_patch", "_law_row", "_law_mark"]) (sc := defScope s_leads) (by decide +kernel)) (fun _ _ _ _ _ => (pg_name (i := 8) sc_leads.nd rfl (.inl rfl))) (fun _ _ _ _ _ => (pts_one (xt_cmp (in_seqK K) (xv 8) (xv 3) (by rfl)))) (fun _ _ _ _ _ => (xv 8))) (pe_lst pa_nil) (nomark _)))))
      (pss_one (ps_ret pe_bl))
      pss_nil)
      (pss_one (ps_set (i := 5) sc_leads.nd rfl (.inl rfl) (pe_call G_after (hr.mono (by omega)) (by rfl) T.g_after T.F_after.kp T.b_after .nil pass0 (pa_cons (xv 5) (pa_cons (xv 6) pa_nil))))))))
      (pss_one (ps_ret (pe_cmpR (op_eqLK K hr.u190) (xv 5) (xv 1) (nomark _)))))))), ?_⟩
    have l1 := gs.ln
    have l2 := gt.ln
    refine ⟨G, M, v, u, s, t, rfl, S, hv, hu, gs, gt, em, fun O G2 H2 s2 hO S2 => ?_⟩
    refine ⟨G2, M, u, t, rfl, S2, dp_same s2 hu, by omega, fun L ws G3 H3 s3 hL hws S3 => ?_⟩
    have wl := prd_len hws
    rw [tb_len] at wl
    refine ⟨L, rfl, ⟨ws, SqL.of (S3.st hL)⟩, fun B nB => lc_at (xs := ws) (fun i H' => ∃ vs : List V, DpAll K G3 vs (((pre t).take i).map toD) ∧ Sep G3 ((B, .lst vs) :: M) H') ⟨[], .nil, S3.new nB⟩ (fun i H' h => ?_) (fun _ => rfl) (fun i y H' hy h => ?_) (fun H4 h => ?_)⟩
    · obtain ⟨_, _, S'⟩ := h
      exact SqL.of (S'.st hL)
    · obtain ⟨vs, hvs, S'⟩ := h
      obtain ⟨r, hr1, a, v1, rfl, ha, hv1⟩ := prd_get hws hy
      have vl := dpa_len hvs
      have hp : (pre t)[i]? = some r.1 := by rw [← tb_pre none 0 1 t, List.getElem?_map, hr1]; rfl
      have il := (List.getElem?_eq_some_iff.mp hp).1
      rw [List.length_map, List.length_take] at vl
      refine ⟨_, _, .inr (SqT.of (S'.st ha)), atI_nat (j := 0) rfl, _, S'.hd, smallL (by omega), vs ++ [v1], ?_, S'.set⟩
      rw [take_snoc hp, List.map_append]
      exact dpa_app hvs (dpa_one hv1)
    obtain ⟨bs, hbs, S4⟩ := h
    rw [wl, List.take_length] at hbs
    obtain ⟨G5, s5, S5, hB⟩ := Sep.keep S4
    have s25 := s3.trans s5
    have s05 := s2.trans s25
    have hus5 := dpa_same s05 hus
    have usl := dpa_len hus5
    rw [List.length_map] at usl
    refine ⟨l, rfl, ⟨us, SqL.of (S5.st (s05 _ _ hl))⟩, for_list (xs := us) (fun i σ H' => ∃ (y6 : Option V) (vr : V) (G' : Hp), σ = [some v, some u, some (.ref l), some (.ref O), some (.ref B), some vr, y6, none, none] ∧ Same G5 G' ∧ Dp K G' vr (toD (runs (ps.take i) s)) ∧ Sep G' M H') ⟨_, v, G5, rfl, Same.refl _, dp_same s05 hv, S5⟩ (fun i σ H' _ h => ?_) (fun i x σ H' hx h => ?_) (fun σ H' h => ?_)⟩
    · obtain ⟨_, _, G', _, s', _, S'⟩ := h
      exact SqL.of (S'.st (s' _ _ (s05 _ _ hl)))
    · obtain ⟨y6, vr, G', rfl, s', hvr, S'⟩ := h
      obtain ⟨d, hd1, hd2⟩ := dpa_get hus5 hx
      obtain ⟨p, hp, rfl⟩ := map_getT hd1
      have ld2 := ld
      rw [(take_pre hp).1] at ld2
      obtain ⟨gr, fit, dropc, putc⟩ := ld2.at
      have hd3 := dp_same s' hd2
      have gl := gr.ln
      have hbs' := dpa_same (s5.trans s') hbs
      have hB' := s' _ _ hB
      refine ⟨x, B, p, (pre t).map toD, rfl, dp_same S'.1 hd3, dp_same S'.1 (.lst (SqL.of hB') hbs'), ?_, fun m i s e => ?_, ?_⟩
      · refine layAllD fun d hd => ?_
        obtain ⟨z, hz, rfl⟩ := List.mem_map.mp hd
        exact ok_lay (gt.ok.sub hz)
      · have hs := putc m i s e
        exact ⟨List.mem_map_of_mem hs, ok_lay (gt.ok.sub hs), by have := ok_dep (gt.ok.sub hs); omega⟩
      refine ⟨ff, fun _ => ?_⟩
      refine ⟨G', M, vr, x, _, p, rfl, S', hvr, hd3, gr, fit, fun rd G6 H6 s6 hrd S6 => ?_⟩
      refine ⟨_, _, .inr (SqT.of (S6.st hrd)), atI_nat (j := 0) rfl, fun e => absurd e (by decide +kernel), fun _ => ?_⟩
      have hd6 := dp_same s6 hd3
      have hvr6 := dp_same s6 hvr
      have hO6 := s6 _ _ (s' _ _ (s25 _ _ hO))
      refine ⟨fun σ H7 => ∃ (G7 : Hp), σ = [some v, some u, some (.ref l), some (.ref O), some (.ref B), some vr, some x, none, none] ∧ Same G6 G7 ∧ Sep G7 M H7, ?_, fun σ H7 h => ?_⟩
      · obtain ⟨pa, pws, rfl, hpa, hpws⟩ := id (pt_at hd6)
        refine ⟨_, _, .inr (S6.t hpa), atI_nat (j := 0) rfl, fun e => ?_, fun _ => ⟨ff, fun _ => ⟨G6, rfl, Same.refl _, S6⟩⟩⟩
        have ew : wd p = "drop" := of_decide_eq_true e
        obtain ⟨m, rfl⟩ : ∃ m, p = .drop m := by
          cases p with
          | drop m => exact ⟨m, rfl⟩
          | put m i s => exact absurd ew (show ("put" : Str) ≠ "drop" by decide +kernel)
          | move m i => exact absurd ew (show ("move" : Str) ≠ "drop" by decide +kernel)
          | say m l => exact absurd ew (show ("say" : Str) ≠ "drop" by decide +kernel)
        refine ⟨_, _, .inr (S6.t hpa), atI_nat (j := 1) rfl, G6, M, vr, m, _, rfl, S6, hvr6, by omega, fit.1, fun un qn G7 H7 s7 hun hqn eqn S7 => ?_⟩
        have okq := gr.ok.sub hqn
        have lq : (pre qn).length ≤ 400 := by
          have h1 := sub_len hqn
          have h2 := congrArg List.length (pre_eq qn)
          rw [List.length_cons] at h2
          have h3 : (pre qn).length ≤ (pre (runs (ps.take i) s)).length := by
            by_cases e0 : qn = runs (ps.take i) s
            · rw [e0]; exact Nat.le_refl _
            · obtain ⟨π, hπ⟩ := pre_sub _ hqn
              obtain ⟨R, r1, _⟩ := ml_set hπ
              have := r1.length_eq
              unfold ml at this
              rw [List.length_append, List.length_map, List.length_map] at this
              omega
          omega
        refine ⟨G7, M, un, qn, rfl, S7, hun, by omega, fun lm G8 H8 s8 hlm S8 => ?_⟩
        have hO8 := (s7.trans s8) _ _ hO6
        refine ⟨lm, rfl, ⟨_, SqL.of (S8.st hlm)⟩, fun DD nDD => lc_list (xs := ((pre qn).map mrk).map V.str) (fun j H' => Sep G8 ((DD, .lst []) :: M) H') (S8.new nDD) (fun j H' _ S' => SqL.of (S'.st hlm)) (fun j z H' hz S' => ?_) (fun H9 S9 => ?_)⟩
        · obtain ⟨zm, hzm, rfl⟩ := map_getT hz
          have nz : zm ∉ stl s t := dropc m rfl qn hqn eqn zm (by rw [mks_eq]; exact List.mem_of_getElem? hzm)
          refine ⟨rfl, O, _, rfl, .inl (SqL.of (S'.st hO8)), rfl, strs_flat _, ?_⟩
          have e2 : inV (.str zm) ((stl s t).map V.str) = false := by
            rw [inV_str]
            exact decide_eq_false nz
          rw [e2]
          exact S'
        · refine ⟨sz, fun EE nEE => ?_⟩
          have S10 := S9.new (o := .lst []) nEE
          refine ⟨.list [], .list [], .lst (SqL.of S10.sw.hd) .nil, .lst (SqL.of S10.hd) .nil, by simp [PyData.canLay0, PyData.canLayAll0], by simp [PyData.canLay0, PyData.canLayAll0], by simp [PyData.depth, PyData.depthAll], ?_⟩
          rw [SeqAt.eqv_refl _ (by simp [PyData.canLay0, PyData.canLayAll0])]
          exact ⟨ff, fun _ => ⟨G8, rfl, s7.trans s8, S10.drop.drop⟩⟩
      · obtain ⟨G7, rfl, s7, S7⟩ := h
        refine ⟨G7, M, vr, x, _, p, rfl, S7, dp_same s7 hvr6, dp_same s7 hd6, by omega, gr.ok.hg, (fits_bnd gr fit).1, (fits_bnd gr fit).2, fun x2 G8 H8 s8 hx2 S8 => ?_⟩
        refine ⟨_, x2, G8, rfl, s'.trans (s6.trans (s7.trans s8)), ?_, S8⟩
        rw [runs_take hp]
        exact hx2
    · obtain ⟨y6, vr, G', rfl, s', hvr, S'⟩ := h
      rw [usl, List.take_length, ru] at hvr
      obtain ⟨ra, rkv, rkus, rfl, _⟩ := node_at hvr
      have hu' := dp_same (s05.trans s') hu
      obtain ⟨ua, ukv, ukus, rfl, _⟩ := node_at hu'
      refine ⟨toD t, toD t, dp_same S'.1 hvr, dp_same S'.1 hu', ok_lay gt.ok, ok_lay gt.ok, by have := ok_dep gt.ok; omega, ?_⟩
      rw [eqv_self gt.ok]
      exact q G' H' (s05.trans s') S'

end
end K11
set_option Elab.async false
set_option linter.all false
set_option maxRecDepth 100000
set_option maxHeartbeats 4000000
namespace K11
open PySem PySem.Spec PyProof.Rows L2 XL
section
variable {P : Program} {w : World} {K : PySem.W.Frag} {mg : Str → Option Value} {base : Heap}
/-! ### pages of two roots are refused -/
def spRootsX (K : PySem.W.Frag) (C Ce : Addr) : Sp := fun vs H _ E => ∃ (G : Hp) (x y : Addr) (s t : Tr), vs = [.ref x, .ref y] ∧ Same G H ∧ PgAt K C G x s ∧ PgAt K C G y t ∧ mrk s ≠ mrk t ∧ Tx 0 100 (mrk t) ∧ ∀ dd, H dd = none → E (.ref Ce) (some dd) (upd H dd (.xd [("mark", .str (mrk t))]))
theorem ok_check_rootsX (T : Top K mg w) (pf : PySem.XExc.PF P T.x_file) {k : Nat} (G_Page_top : FnOk P w K mg base CX0 k T.a_Page_top T.d_Page_top ["self"] (spTop K T.C_Page)) : FnOk P w K mg base (L2.CX P w) (k + 2) T.a_check_roots T.d_check_roots ["old", "new"] (spRootsX K T.C_Page T.C_NotOnePage) := by
  refine T.F_check_roots.okX sc_check_roots (fun vs H Q E h => ?_) (fun cdv A outer s H vs Q E hr h => ?_)
  · obtain ⟨G, x, y, s, t, rfl, _⟩ := h
    rfl
  · obtain ⟨G, x, y, s, t, rfl, s0, hx, hy, ne, tx, q⟩ := h
    refine ⟨_, (pss_one (xs_if (xt_cmp (op_neLK K hr.u190) (pe_ix (ix_k K) (pe_prop (xv 0) T.cl_Page T.pr_Page_top G_Page_top (hr.mono (by omega)) T.b_Page_top .nil pass0 rfl) pe_int (fun _ _ => rfl)) (pe_ix (ix_k K) (pe_prop (xv 1) T.cl_Page T.pr_Page_top G_Page_top (hr.mono (by omega)) T.b_Page_top .nil pass0 rfl) pe_int (fun _ _ => rfl)) (nomark _))
      (pss_one (ps_raiseX (k := 0) rfl (T.x_NotOnePage P pf) (hr.mono (by omega)) (takes_of rfl rfl rfl rfl) (pa_cons (pe_ix (ix_k K) (pe_prop (xv 1) T.cl_Page T.pr_Page_top G_Page_top (hr.mono (by omega)) T.b_Page_top .nil pass0 rfl) pe_int (fun _ _ => rfl)) pa_nil)))
      pss_nil)), ?_⟩
    obtain ⟨dx, _, _, _, _, _, _, h1, _⟩ := id hx.ex
    obtain ⟨dy, _, _, _, _, _, _, h2, _⟩ := id hy.ex
    refine ⟨x, dx, _, rfl, s0 _ _ h1, G, x, s, rfl, s0, hx, fun v hv => ?_⟩
    obtain ⟨a, kv, kus, rfl, ha, _⟩ := node_at hv
    refine ⟨_, _, .inr (same_t s0 ha), atI_nat (j := 0) rfl, y, dy, _, rfl, s0 _ _ h2, G, y, t, rfl, s0, hy, fun v2 hv2 => ?_⟩
    obtain ⟨b, kv2, kus2, rfl, hb, _⟩ := node_at hv2
    refine ⟨_, _, .inr (same_t s0 hb), atI_nat (j := 0) rfl, fun _ => ?_, fun e => ?_⟩
    · refine ⟨y, dy, _, rfl, s0 _ _ h2, G, y, t, rfl, s0, hy, fun v3 hv3 => ?_⟩
      obtain ⟨c, kv3, kus3, rfl, hc, _⟩ := node_at hv3
      exact ⟨_, _, .inr (same_t s0 hc), atI_nat (j := 0) rfl, _, rfl, tx.rp (by decide), fun dd ndd => q dd ndd⟩
    · have e : (!decide (mrk s = mrk t)) = false := e
      rw [decide_eq_false ne] at e
      exact nomatch e
def spStayX (K : PySem.W.Frag) (C Ce : Addr) : Sp := fun vs H _ E => ∃ (G : Hp) (M : List (Addr × HO)) (x y : Addr) (s t : Tr), vs = [.ref x, .ref y] ∧ Sep G M H ∧ PgAt K C G x s ∧ PgAt K C G y t ∧ mrk s ≠ mrk t ∧ Tx 0 100 (mrk t) ∧ ∀ (dd : Addr) (G' H' : Hp), Same G G' → Sep G' M H' → H' dd = none → E (.ref Ce) (some dd) (upd H' dd (.xd [("mark", .str (mrk t))]))
theorem ok_stayingX (T : Top K mg w) {k : Nat} (G_check_roots : FnOk P w K mg base (L2.CX P w) k T.a_check_roots T.d_check_roots ["old", "new"] (spRootsX K T.C_Page T.C_NotOnePage)) (G_Page_iter : FnY P w K mg base CX0 k T.a_Page_iter T.d_Page_iter ["self"] (spPgIter K T.C_Page))
    (G_Page_parent : FnOk P w K mg base (L2.CX P w) k T.a_Page_parent T.d_Page_parent ["self", "mark"] (spPgPar K T.C_Page T.C_NoNode)) (G_Page_contains : FnOk P w K mg base CX0 k T.a_Page_contains T.d_Page_contains ["self", "mark"] (spPgIn K T.C_Page)) :
    FnOk P w K mg base (L2.CX P w) (k + 1) T.a_staying T.d_staying ["old", "new"] (spStayX K T.C_Page T.C_NotOnePage) := by
  refine T.F_staying.okX sc_staying (fun vs H Q E h => ?_) (fun cdv A outer s0 H vs Q E hr h => ?_)
  · obtain ⟨G, M, x, y, s, t, rfl, _⟩ := h
    rfl
  · obtain ⟨G, M, x, y, s, t, rfl, S, hx, hy, ne, tx, q⟩ := h
    refine ⟨_, (pss_cons (ps_expr (pe_call G_check_roots (hr.mono (by omega)) (by rfl) T.g_check_roots T.F_check_roots.kp T.b_check_roots .nil (passO (takes_of rfl rfl rfl rfl)) (pa_cons (xv 0) (pa_cons (xv 1) pa_nil))))
      (pss_cons (ps_set (i := 2) sc_staying.nd rfl (.inl rfl) pe_dnewK)
      (pss_cons (ps_for (passes_of rfl) rfl (pi_ownLK K (xv 0) G_Page_iter T.sp_Page_iter.1 T.sp_Page_iter.2 T.b_Page_iter pass0 (hr.mono (by omega))) (pg_name (i := 3) sc_staying.nd rfl (.inl rfl))
      (pss_cons (ps_set (i := 4) sc_staying.nd rfl (.inl rfl) (pe_meth (xv 0) T.cl_Page T.me_Page_parent G_Page_parent (hr.mono (by omega)) T.b_Page_parent .nil (passO (takes_of rfl rfl rfl rfl)) (pa_cons (xv 3) pa_nil)))
      (pss_one (xs_if (PW.pt (xw_or (xt_cmp op_isN (xv 4) pe_non (nomark _)) (pw_or1 (PW.pt (xw_and (pt_cmp (pc_din (hu_of hr) (xv 4) (xv 2))) (xw_and (xt_cmp (op_inO G_Page_contains T.sp_Page_contains.1 T.sp_Page_contains.2 T.b_Page_contains pass0 (hr.mono (by omega))) (xv 3) (xv 1) (by rfl)) (pw_and1 (xt_cmp (op_eqLK K hr.u190) (pe_meth (xv 1) T.cl_Page T.me_Page_parent G_Page_parent (hr.mono (by omega)) T.b_Page_parent .nil (passO (takes_of rfl rfl rfl rfl)) (pa_cons (xv 3) pa_nil)) (xv 4) (nomark _)))))))))
      (pss_one (ps_dput (hu_of hr) (xv 2) (xv 3) pe_bl rfl))
      pss_nil))))
      (pss_one (ps_ret (pe_callTy (call_tupleK K) (by rfl) T.m_tuple (by decide +kernel) (pa_cons (pe_callTy (call_list_dK rfl) (by rfl) T.m_list (by decide +kernel) (pa_cons (xv 2) pa_nil)) pa_nil))))))), ?_⟩
    exact ⟨G, x, y, s, t, rfl, S.1, hx, hy, ne, tx, fun dd ndd => q dd G H (Same.refl _) S ndd⟩
theorem ok_betweenX (T : Top K mg w) {k : Nat} (G_staying : FnOk P w K mg base (L2.CX P w) k T.a_staying T.d_staying ["old", "new"] (spStayX K T.C_Page T.C_NotOnePage)) (G_moves_between : FnOk P w K mg base CX0 k T.a_moves_between T.d_moves_between ["now", "wanted"] (spMvs K)) (G_Page_iter : FnY P w K mg base CX0 k T.a_Page_iter T.d_Page_iter ["self"] (spPgIter K T.C_Page))
    (G_Page_parent : FnOk P w K mg base (L2.CX P w) k T.a_Page_parent T.d_Page_parent ["self", "mark"] (spPgPar K T.C_Page T.C_NoNode)) (G_Page_getitem : FnOk P w K mg base (L2.CX P w) k T.a_Page_getitem T.d_Page_getitem ["self", "mark"] (spPgGet K T.C_Page T.C_NoNode))
    (G_Patches_init : FnOk P w K mg base CX0 k T.a_Patches_init T.d_Patches_init ["self", "page", "rows"] (spPtc K T.C_Patches T.C_Page)) :
    FnOk P w K mg base (L2.CX P w) (k + 3) T.a_between T.d_between ["old", "new"] (spStayX K T.C_Page T.C_NotOnePage) := by
  refine T.F_between.okX sc_between (fun vs H Q E h => ?_) (fun cdv A outer s0 H vs Q E hr h => ?_)
  · obtain ⟨G, M, x, y, s, t, rfl, _⟩ := h
    rfl
  · obtain ⟨G, M, x, y, s, t, rfl, S, hx, hy, ne, tx, q⟩ := h
    refine ⟨_, (pss_cons (ps_set (i := 2) sc_between.nd rfl (.inr rfl) pe_dnewK)
      (pss_cons (ps_for (passes_of rfl) rfl (pi_tupK K (pe_call G_staying (hr.mono (by omega)) (by rfl) T.g_staying T.F_staying.kp T.b_staying .nil (passO (takes_of rfl rfl rfl rfl)) (pa_cons (xv 0) (pa_cons (xv 1) pa_nil)))) (pg_name (i := 3) sc_between.nd rfl (.inl rfl))
      (pss_one (ps_dput (hu_of hr) (xv 2) (xv 3) pe_bl rfl)))
      (pss_cons (ps_set (i := 4) sc_between.nd rfl (.inl rfl) (pe_lst pa_nil))
      (pss_cons (ps_for (passes_of rfl) rfl (pi_ownLK K (xv 0) G_Page_iter T.sp_Page_iter.1 T.sp_Page_iter.2 T.b_Page_iter pass0 (hr.mono (by omega))) (pg_name (i := 3) sc_between.nd rfl (.inl rfl))
      (pss_one (xs_if (PW.pt (xw_and (pt_cmp (pc_dnotin (hu_of hr) (xv 3) (xv 2))) (pw_and1 (pt_cmp (pc_din (hu_of hr) (pe_meth (xv 0) T.cl_Page T.me_Page_parent G_Page_parent (hr.mono (by omega)) T.b_Page_parent .nil (passO (takes_of rfl rfl rfl rfl)) (pa_cons (xv 3) pa_nil)) (xv 2))))))
      (pss_one (ps_expr (pe_bmK K PySem.F.plainAttrs_list PySem.F.slot_list_append PySem.F.type_list_append mt_append (xv 4) (pa_cons (pe_tup (pa_cons pe_str (pa_cons (xv 3) pa_nil))) pa_nil))))
      pss_nil)))
      (pss_cons (ps_lock (ps_for (passes_of rfl) rfl (pi_keys (xv 2)) (pg_name (i := 3) sc_between.nd rfl (.inl rfl))
      (xss_cut (xs_if (xt_cmp (op_neLK K hr.u190) (pe_ix (ix_k K) (pe_ixO (xv 0) (xv 3) G_Page_getitem T.sp_Page_getitem.1 T.sp_Page_getitem.2.2 T.sp_Page_getitem.2.1 T.b_Page_getitem (passO (takes_of rfl rfl rfl rfl)) (hr.mono (by omega))) pe_int (fun _ _ => rfl)) (pe_ix (ix_k K) (pe_ixO (xv 1) (xv 3) G_Page_getitem T.sp_Page_getitem.1 T.sp_Page_getitem.2.2 T.sp_Page_getitem.2.1 T.b_Page_getitem (passO (takes_of rfl rfl rfl rfl)) (hr.mono (by omega))) pe_int (fun _ _ => rfl)) (nomark _))
      (pss_one (ps_expr (pe_bmK K PySem.F.plainAttrs_list PySem.F.slot_list_append PySem.F.type_list_append mt_append (xv 4) (pa_cons (pe_tup (pa_cons pe_str (pa_cons (xv 3) (pa_cons (pe_ix (ix_k K) (pe_ixO (xv 1) (xv 3) G_Page_getitem T.sp_Page_getitem.1 T.sp_Page_getitem.2.2 T.sp_Page_getitem.2.1 T.b_Page_getitem (passO (takes_of rfl rfl rfl rfl)) (hr.mono (by omega))) pe_int (fun _ _ => rfl)) pa_nil)))) pa_nil))))
      pss_nil)
      (pss_cons (ps_setLc (i := 5) (own := [("below", 8)]) (by rfl) sc_between.nd rfl rfl (sw_true rfl rfl rfl (by decide +kernel)) (pi_tupK K (pe_ix (ix_k K) (pe_ixO (xv 0) (xv 3) G_Page_getitem T.sp_Page_getitem.1 T.sp_Page_getitem.2.2 T.sp_Page_getitem.2.1 T.b_Page_getitem (passO (takes_of rfl rfl rfl rfl)) (hr.mono (by omega))) pe_int (fun _ _ => rfl))) (blkOk_by (N := ["old", "new", "stays", "mark", "rows", "now", "wanted", "at", "below"]) (sc := defScope s_between) (by decide +kernel)) (fun _ _ _ _ _ => (pg_name (i := 8) sc_between.nd rfl (.inl rfl))) (fun _ _ _ _ _ => (pts_one (pt_cmp (pc_din (hu_of hr) (pe_ix (ix_k K) (xv 8) pe_int (fun _ _ => rfl)) (xv 2))))) (fun _ _ _ _ _ => (pe_ix (ix_k K) (xv 8) pe_int (fun _ _ => rfl))))
      (pss_cons (ps_setLc (i := 6) (own := [("below", 8)]) (by rfl) sc_between.nd rfl rfl (sw_true rfl rfl rfl (by decide +kernel)) (pi_tupK K (pe_ix (ix_k K) (pe_ixO (xv 1) (xv 3) G_Page_getitem T.sp_Page_getitem.1 T.sp_Page_getitem.2.2 T.sp_Page_getitem.2.1 T.b_Page_getitem (passO (takes_of rfl rfl rfl rfl)) (hr.mono (by omega))) pe_int (fun _ _ => rfl))) (blkOk_by (N := ["old", "new", "stays", "mark", "rows", "now", "wanted", "at", "below"]) (sc := defScope s_between) (by decide +kernel)) (fun _ _ _ _ _ => (pg_name (i := 8) sc_between.nd rfl (.inl rfl))) (fun _ _ _ _ _ => (pts_one (pt_cmp (pc_din (hu_of hr) (pe_ix (ix_k K) (xv 8) pe_int (fun _ _ => rfl)) (xv 2))))) (fun _ _ _ _ _ => (pe_ix (ix_k K) (xv 8) pe_int (fun _ _ => rfl))))
      (xss_cut (xs_if (xt_cmp (op_neLK K hr.u190) (xv 5) (xv 6) (nomark _))
      (pss_one (ps_expr (pe_bmK K PySem.F.plainAttrs_list PySem.F.slot_list_extend PySem.F.type_list_extend mt_extend (xv 4) (pa_cons (pe_call G_moves_between (hr.mono (by omega)) (by rfl) T.g_moves_between T.F_moves_between.kp T.b_moves_between .nil pass0 (pa_cons (xv 5) (pa_cons (xv 6) pa_nil))) pa_nil))))
      pss_nil)
      (pss_one (ps_for (passes_of rfl) rfl (pi_range1 (by rfl) T.m_range (pa_cons (pe_callB (cr_lenK K) (by rfl) T.m_len (by decide +kernel) (pa_cons (pe_ix (ix_k K) (pe_ixO (xv 1) (xv 3) G_Page_getitem T.sp_Page_getitem.1 T.sp_Page_getitem.2.2 T.sp_Page_getitem.2.1 T.b_Page_getitem (passO (takes_of rfl rfl rfl rfl)) (hr.mono (by omega))) pe_int (fun _ _ => rfl)) pa_nil)) pa_nil)) (pg_name (i := 7) sc_between.nd rfl (.inl rfl))
      (pss_one (xs_if (pt_cmp (pc_dnotin (hu_of hr) (pe_ix (ix_k K) (pe_ix (ix_k K) (pe_ix (ix_k K) (pe_ixO (xv 1) (xv 3) G_Page_getitem T.sp_Page_getitem.1 T.sp_Page_getitem.2.2 T.sp_Page_getitem.2.1 T.b_Page_getitem (passO (takes_of rfl rfl rfl rfl)) (hr.mono (by omega))) pe_int (fun _ _ => rfl)) (xv 7) (fun _ _ => rfl)) pe_int (fun _ _ => rfl)) (xv 2)))
      (pss_one (ps_expr (pe_bmK K PySem.F.plainAttrs_list PySem.F.slot_list_append PySem.F.type_list_append mt_append (xv 4) (pa_cons (pe_tup (pa_cons pe_str (pa_cons (xv 3) (pa_cons (xv 7) (pa_cons (pe_ix (ix_k K) (pe_ix (ix_k K) (pe_ixO (xv 1) (xv 3) G_Page_getitem T.sp_Page_getitem.1 T.sp_Page_getitem.2.2 T.sp_Page_getitem.2.1 T.b_Page_getitem (passO (takes_of rfl rfl rfl rfl)) (hr.mono (by omega))) pe_int (fun _ _ => rfl)) (xv 7) (fun _ _ => rfl)) pa_nil))))) pa_nil))))
      pss_nil))))))))))
      (pss_one (ps_ret (pe_make T.mk_Patches G_Patches_init (hr.mono (by omega)) (by rfl) T.g_Patches T.b_Patches_init .nil pass0 (pa_cons (xv 0) (pa_cons (xv 4) pa_nil)))))))))), ?_⟩
    refine fun D nD => ?_
    have S1 := S.new (o := .dK []) nD
    exact ⟨G, _, x, y, s, t, rfl, S1, hx, hy, ne, tx, fun dd G' H' s' S' nd => q dd G' H' s' S'.drop nd⟩
theorem ok_Page_topQ (T : Top K mg w) {k : Nat} : FnQ P w K mg base (k + 1) T.a_Page_top T.d_Page_top ["self"] (spTop K T.C_Page) := by
  refine okQ T.F_Page_top sc_Page_top (fun vs H Q E h => ?_) (fun cdv A outer s H vs Q E p hr h => ?_)
  · obtain ⟨G, p, t, rfl, _⟩ := h
    rfl
  · obtain ⟨G, p, t, rfl, S, pg, q⟩ := h
    obtain ⟨dx, N, A', O, v, us, kn, h1, h2, _⟩ := pg.ex
    refine ⟨_, (pss_one (ps_ret (pe_fldK K (xv 0)))), ?_⟩
    exact ⟨p, T.C_Page, dx, _, _, rfl, S _ _ h1, T.cl_Page, T.na_Page_tree, lk_eq, q v h2⟩
def spRef11 (K : PySem.W.Frag) (C : Addr) : Sp := fun vs H Q _ => ∃ (G : Hp) (M : List (Addr × HO)) (x y : Addr) (s t : Tr) (i : Int), vs = [.ref x, .ref y, .int i] ∧ Sep G M H ∧ PgAt K C G x s ∧ PgAt K C G y t ∧ mrk s ≠ mrk t ∧ Tx 0 100 (mrk t) ∧ ∀ (G' H' : Hp), Same G G' → Sep G' M H' → Q (.bl true) H'
theorem ok_refused (T : Top K mg w) (pf : PySem.XExc.PF P T.x_file) {k : Nat} (G_between : FnOk P w K mg base (L2.CX P w) k T.a_between T.d_between ["old", "new"] (spStayX K T.C_Page T.C_NotOnePage)) (G_staying : FnOk P w K mg base (L2.CX P w) k T.a_staying T.d_staying ["old", "new"] (spStayX K T.C_Page T.C_NotOnePage)) (H_Page_top : FnQ P w K mg base k T.a_Page_top T.d_Page_top ["self"] (spTop K T.C_Page)) :
    FnOk P w K mg base CX0 (k + 2) T.a_refused T.d_refused ["_law_old", "_law_new", "_law_way"] (spRef11 K T.C_Page) := by
  refine T.F_refused.ok sc_refused (fun vs H Q E h => ?_) (fun cdv A outer s0 H vs Q E hr h => ?_)
  · obtain ⟨G, M, x, y, s, t, i, rfl, _⟩ := h
    rfl
  · obtain ⟨G, M, x, y, s, t, i, rfl, S, hx, hy, ne, tx, q⟩ := h
    refine ⟨_, (pss_cons (ps_try_as (i := 4) (Wout := fun _ _ _ _ => False) rfl rfl sc_refused.nd rfl rfl ⟨rfl, by decide, Or.inl T.g_ScreenError⟩ takes0
      (fun W pn xe tk _ => (pss_one (ps_set (i := 3) sc_refused.nd rfl (.inl rfl) (xe_if (xt_cmp (op_eqLK K hr.u190) (xv 2) pe_int (nomark _)) (pe_callS G_between (hr.mono (by omega)) (by rfl) T.g_between T.F_between.kp T.b_between (fun σ => passAt tk σ) (pa_cons (xv 0) (pa_cons (xv 1) pa_nil))) (pe_callS G_staying (hr.mono (by omega)) (by rfl) T.g_staying T.F_staying.kp T.b_staying (fun σ => passAt tk σ) (pa_cons (xv 0) (pa_cons (xv 1) pa_nil)))))))
      (fun a oe cls d pn hz hf => (pss_cons (ps_set (i := 3) sc_refused.nd rfl (.inl rfl) (pe_lst (pa_cons (pe_callB (call_isX hz hf) (by rfl) T.m_isinstance (by decide +kernel) (pa_cons (xv 4) (pa_cons (pe_glob (v := .ref T.C_BadPatch) (by rfl) T.g_BadPatch rfl) pa_nil))) (pa_cons (pe_callB (call_isX hz hf) (by rfl) T.m_isinstance (by decide +kernel) (pa_cons (xv 4) (pa_cons (pe_glob (v := .ref T.C_NoNode) (by rfl) T.g_NoNode rfl) pa_nil))) (pa_cons (pe_callB (call_isX hz hf) (by rfl) T.m_isinstance (by decide +kernel) (pa_cons (xv 4) (pa_cons (pe_glob (v := .ref T.C_RootStays) (by rfl) T.g_RootStays rfl) pa_nil))) (pa_cons (pe_callB (call_isX hz hf) (by rfl) T.m_isinstance (by decide +kernel) (pa_cons (xv 4) (pa_cons (pe_glob (v := .ref T.C_TwiceMarked) (by rfl) T.g_TwiceMarked rfl) pa_nil))) pa_nil))))))
      (pss_one (ps_ret (xe_and (pe_callB (call_isX hz hf) (by rfl) T.m_isinstance (by decide +kernel) (pa_cons (xv 4) (pa_cons (pe_glob (v := .ref T.C_NotOnePage) (by rfl) T.g_NotOnePage rfl) pa_nil))) (xe_and (pe_cmpR (notin_seqK K) pe_bl (xv 3) (by rfl)) (xe_and (pe_callB (call_isX hz hf) (by rfl) T.m_isinstance (by decide +kernel) (pa_cons (xv 4) (pa_cons (pe_bltn (v := .ty "ValueError") (by rfl) T.m_ValueError (by decide +kernel) rfl) pa_nil))) (pe_one (pe_cmpR (op_eqLK K hr.u190) (pe_xf T.xf_NotOnePage (T.x_NotOnePage P pf).noN hz hf (xv 4)) (pe_ix (ix_k K) (pe_propQ (xv 1) T.cl_Page T.pr_Page_top H_Page_top (roomQ hr (by omega)) ⟨_, List.mem_cons_self⟩ T.b_Page_top pass0 rfl) pe_int (fun _ _ => rfl)) (nomark _)))))))))))
      (pss_one (ps_ret pe_bl))), ?_⟩
    refine ⟨fun _ => ⟨G, M, x, y, s, t, rfl, S, hx, hy, ne, tx, fun dd G1 H1 s1 S1 ndd => ?_⟩, fun _ => ⟨G, M, x, y, s, t, rfl, S, hx, hy, ne, tx, fun dd G1 H1 s1 S1 ndd => ?_⟩⟩
    all_goals
      have S2 := S1.newG (o := .xd [("mark", .str (mrk t))]) ndd
      have s2 := S1.grow (o := .xd [("mark", .str (mrk t))]) ndd
      have hd1 : (upd G1 dd (.xd [("mark", .str (mrk t))])) dd = some (.xd [("mark", .str (mrk t))]) := upd_same
      refine ⟨true, T.em_NotOnePage_ScreenError, fun _ a na => ?_, tt⟩
      refine ⟨T.C_NotOnePage, dd, _, false, rfl, rfl, S2.st hd1, T.xc_NotOnePage, .inl ⟨_, _, rfl, fun u r => r, T.ki_NotOnePage_BadPatch⟩, ?_⟩
      refine ⟨T.C_NotOnePage, dd, _, false, rfl, rfl, S2.st hd1, T.xc_NotOnePage, .inl ⟨_, _, rfl, fun u r => r, T.ki_NotOnePage_NoNode⟩, ?_⟩
      refine ⟨T.C_NotOnePage, dd, _, false, rfl, rfl, S2.st hd1, T.xc_NotOnePage, .inl ⟨_, _, rfl, fun u r => r, T.ki_NotOnePage_RootStays⟩, ?_⟩
      refine ⟨T.C_NotOnePage, dd, _, false, rfl, rfl, S2.st hd1, T.xc_NotOnePage, .inl ⟨_, _, rfl, fun u r => r, T.ki_NotOnePage_TwiceMarked⟩, ?_⟩
      refine ⟨sz, fun L nL => ?_⟩
      obtain ⟨G3, s3, S3, h3⟩ := Sep.mk (o := .lst [.bl false, .bl false, .bl false, .bl false]) S2 nL
      have hd3 := s3 _ _ hd1
      refine ⟨T.C_NotOnePage, dd, _, true, rfl, rfl, S3.st hd3, T.xc_NotOnePage, .inl ⟨_, _, rfl, fun u r => r, if_pos (beq_self_eq_true _)⟩, fun _ => ?_, tt⟩
      refine ⟨L, _, rfl, .inl (SqL.of (S3.st h3)), rfl, by decide, ?_⟩
      rw [show (if true = true then !inV (.bl true) [V.bl false, .bl false, .bl false, .bl false] else inV (.bl true) [V.bl false, .bl false, .bl false, .bl false]) = true by decide +kernel]
      refine ⟨fun _ => ?_, tt⟩
      refine ⟨T.C_NotOnePage, dd, _, true, rfl, rfl, S3.st hd3, T.xc_NotOnePage, .inl ⟨_, _, rfl, fun u r => r, T.kv_NotOnePage⟩, fun _ => ?_, tt⟩
      have hy3 := hy.same (s1.trans (s2.trans s3))
      obtain ⟨dy, _, _, _, _, _, _, h2, _⟩ := id hy3.ex
      refine ⟨rfl, rfl, dd, _, _, rfl, S3.st hd3, lk_eq, y, dy, _, rfl, S3.st h2, G3, y, t, rfl, S3.1, hy3, fun v2 hv2 => ?_⟩
      obtain ⟨b, kv2, kus2, rfl, hb, _⟩ := node_at hv2
      refine ⟨_, _, .inr (S3.t hb), atI_nat (j := 0) rfl, ?_⟩
      have fin := q G3 _ (s1.trans (s2.trans s3)) S3
      show Q (.bl (decide (mrk t = mrk t))) _
      rw [decide_eq_true rfl]
      exact fin

end
end K11
set_option Elab.async false
set_option linter.all false
set_option maxRecDepth 100000
set_option maxHeartbeats 4000000
namespace K11
open PySem PySem.Spec PyProof.Rows L2 XL
/-! ### numbers above: no way round -/
theorem cnt_le {α : Type} {f g : α → Bool} : ∀ {xs : List α}, (∀ x ∈ xs, f x = true → g x = true) → xs.countP f ≤ xs.countP g
  | [], _ => Nat.le_refl _
  | a :: r, h => by
    have ih := cnt_le (xs := r) fun x hx => h x (List.mem_cons_of_mem _ hx)
    have ha := h a List.mem_cons_self
    rw [List.countP_cons, List.countP_cons]
    cases hf : f a with
    | false => simp only [Bool.false_eq_true, if_false]; split <;> omega
    | true => rw [ha hf]; simp only [if_true]; omega
theorem cnt_lt {α : Type} {f g : α → Bool} {p : α} : ∀ {xs : List α}, (∀ x ∈ xs, f x = true → g x = true) → p ∈ xs → g p = true → f p = false → xs.countP f < xs.countP g
  | [], _, hp, _, _ => absurd hp (by simp)
  | a :: r, h, hp, hg, hf => by
    have le := cnt_le (xs := r) fun x hx => h x (List.mem_cons_of_mem _ hx)
    rw [List.countP_cons, List.countP_cons]
    rcases List.mem_cons.mp hp with rfl | hp
    · rw [hg, hf]; simp only [if_true, Bool.false_eq_true, if_false]; omega
    · have ih := cnt_lt (xs := r) (fun x hx => h x (List.mem_cons_of_mem _ hx)) hp hg hf
      have ha := h a List.mem_cons_self
      cases hfa : f a with
      | false => simp only [Bool.false_eq_true, if_false]; split <;> omega
      | true => rw [ha hfa]; simp only [if_true]; omega
/-- steps that go down, within n -/
def dcount (dep : Nat → Nat) (n j : Nat) : Nat := (List.range n).countP fun i => decide (dep i < dep j)
theorem dcount_le (dep : Nat → Nat) (n j : Nat) : dcount dep n j ≤ n := by
  have := List.countP_le_length (p := fun i => decide (dep i < dep j)) (l := List.range n)
  rw [List.length_range] at this
  exact this
theorem dcount_lt {dep : Nat → Nat} {n p j : Nat} (hp : p < n) (h : dep p < dep j) : dcount dep n p < dcount dep n j :=
  cnt_lt (fun x _ e => decide_eq_true (Nat.lt_trans (of_decide_eq_true e) h)) (List.mem_range.mpr hp) (decide_eq_true h) (decide_eq_false (Nat.lt_irrefl _))
structure Acy (ps : List Nat) : Prop where
  p0 : ps[0]? = some 0
  lt : ∀ j p : Nat, ps[j]? = some p → p < ps.length
  dp : ∃ dep : Nat → Nat, ∀ j p : Nat, 0 < j → ps[j]? = some p → dep p < dep j
theorem Acy.bd {ps : List Nat} (h : Acy ps) : ∃ dep : Nat → Nat, (∀ j, dep j ≤ ps.length) ∧ ∀ j p : Nat, 0 < j → ps[j]? = some p → dep p < dep j := by
  obtain ⟨dep, hd⟩ := h.dp
  exact ⟨dcount dep ps.length, fun j => dcount_le _ _ _, fun j p h0 e => dcount_lt (h.lt j p e) (hd j p h0 e)⟩
theorem Acy.ne {ps : List Nat} (h : Acy ps) : 0 < ps.length := (List.getElem?_eq_some_iff.mp h.p0).1
theorem Acy.zeros {n : Nat} (h : 0 < n) : Acy (List.replicate n 0) := by
  have e : ∀ j p, (List.replicate n 0)[j]? = some p → p = 0 := fun j p hp => by
    have := List.mem_of_getElem? hp
    exact (List.mem_replicate.mp this).2
  refine ⟨?_, fun j p hp => ?_, fun j => j, fun j p h0 hp => ?_⟩
  · rw [List.getElem?_replicate, if_pos h]
  · rw [e j p hp, List.length_replicate]; exact h
  · rw [e j p hp]; exact h0
theorem Acy.par {ps lv : List Nat} (h : Par ps lv) : Acy ps := by
  refine ⟨h.ps0, fun j p hp => ?_, fun j => j, fun j p h0 hp => (h.up j p h0 hp).1⟩
  have hj := (List.getElem?_eq_some_iff.mp hp).1
  by_cases h0 : 0 < j
  · have := (h.up j p h0 hp).1; omega
  · have e : j = 0 := by omega
    subst e
    rw [h.ps0] at hp
    cases hp
    exact hj
/-- i steps up -/
def upn (ps : List Nat) : Nat → Nat → Nat
  | 0, j => j
  | i + 1, j => ps.getD (upn ps i j) 0
theorem upn_next (ps : List Nat) : ∀ i j, upn ps (i + 1) j = upn ps i (ps.getD j 0)
  | 0, _ => rfl
  | i + 1, j => by
    rw [upn, upn_next ps i j]
    rfl
theorem getD_of {ps : List Nat} {j p : Nat} (h : ps[j]? = some p) : ps.getD j 0 = p := by
  rw [List.getD_eq_getElem?_getD, h]; rfl
theorem Acy.upn_lt {ps : List Nat} (h : Acy ps) {s : Nat} (hs : s < ps.length) : ∀ i, upn ps i s < ps.length
  | 0 => hs
  | i + 1 => by
    have ih := h.upn_lt hs i
    have e := List.getElem?_eq_getElem ih
    rw [upn, getD_of e]
    exact h.lt _ _ e
theorem Acy.upn0 {ps : List Nat} (h : Acy ps) : ∀ i, upn ps i 0 = 0
  | 0 => rfl
  | i + 1 => by rw [upn, h.upn0 i, getD_of h.p0]
theorem Acy.top {ps : List Nat} (h : Acy ps) {s : Nat} (hs : s < ps.length) {i : Nat} (hi : ps.length ≤ i) : upn ps i s = 0 := by
  obtain ⟨dep, hb, hd⟩ := h.bd
  have step : ∀ i, upn ps i s = 0 ∨ dep (upn ps i s) + i ≤ dep s := by
    intro i
    induction i with
    | zero => exact .inr (Nat.le_refl _)
    | succ i ih =>
      rcases ih with e | e
      · left; rw [upn, e, getD_of h.p0]
      · by_cases z : upn ps i s = 0
        · left; rw [upn, z, getD_of h.p0]
        · right
          have e2 := List.getElem?_eq_getElem (h.upn_lt hs i)
          have := hd _ _ (by omega) e2
          rw [upn, getD_of e2]
          omega
  rcases step i with e | e
  · exact e
  · by_cases z : upn ps i s = 0
    · exact z
    · have e2 := List.getElem?_eq_getElem (h.upn_lt hs i)
      have := hd _ _ (by omega) e2
      have := hb s
      omega
open Classical in
theorem Acy.put {ps : List Nat} (h : Acy ps) {k s : Nat} (k0 : 0 < k) (hk : k < ps.length) (hs : s < ps.length) (no : ∀ i, i ≤ ps.length → upn ps i s ≠ k) : Acy (ps.set k s) := by
  have no' : ∀ i, upn ps i s ≠ k := fun i => by
    by_cases e : i ≤ ps.length
    · exact no i e
    · rw [h.top hs (by omega)]; omega
  obtain ⟨dep, hd⟩ := h.dp
  refine ⟨?_, fun j p hp => ?_, fun j => if ∃ i, upn ps i j = k then dep j + dep s + 1 else dep j, fun j p h0 hp => ?_⟩
  · rw [List.getElem?_set_ne (by omega)]; exact h.p0
  · rw [List.length_set]
    by_cases e : k = j
    · subst e
      rw [List.getElem?_set_self hk] at hp
      cases hp
      exact hs
    · rw [List.getElem?_set_ne e] at hp
      exact h.lt j p hp
  · by_cases e : k = j
    · subst e
      rw [List.getElem?_set_self hk] at hp
      cases hp
      have a : ¬ ∃ i, upn ps i s = k := fun ⟨i, hi⟩ => no' i hi
      have b : ∃ i, upn ps i k = k := ⟨0, rfl⟩
      simp only [if_neg a, if_pos b]
      omega
    · rw [List.getElem?_set_ne e] at hp
      have lt := hd j p h0 hp
      have iff : (∃ i, upn ps i j = k) ↔ ∃ i, upn ps i p = k := by
        constructor
        · rintro ⟨i, hi⟩
          cases i with
          | zero => exact absurd hi.symm e
          | succ i => exact ⟨i, by rw [upn_next, getD_of hp] at hi; exact hi⟩
        · rintro ⟨i, hi⟩
          exact ⟨i + 1, by rw [upn_next, getD_of hp]; exact hi⟩
      by_cases a : ∃ i, upn ps i p = k
      · simp only [if_pos a, if_pos (iff.mpr a)]; omega
      · simp only [if_neg a, if_neg (fun z => a (iff.mp z))]; exact lt
/-! ### what stands, and a tree over it -/
structure Stn (ab : List (Option Nat)) : Prop where
  dp : ∃ dep : Nat → Nat, (∀ j, dep j ≤ ab.length) ∧ ∀ j a : Nat, ab[j]? = some (some a) → a < ab.length ∧ dep a < dep j
inductive Anc (ab : List (Option Nat)) (k : Nat) : Nat → Prop
  | self : Anc ab k k
  | up {i a : Nat} : ab[i]? = some (some a) → Anc ab k a → Anc ab k i
theorem Anc.dep {ab : List (Option Nat)} {dep : Nat → Nat} (hd : ∀ j a : Nat, ab[j]? = some (some a) → a < ab.length ∧ dep a < dep j) {k i : Nat} (h : Anc ab k i) : dep k ≤ dep i := by
  induction h with
  | self => exact Nat.le_refl _
  | up e _ ih => have := (hd _ _ e).2; omega
theorem Anc.trans {ab : List (Option Nat)} {k j i : Nat} (h : Anc ab k j) (h2 : Anc ab j i) : Anc ab k i := by
  induction h2 with
  | self => exact h
  | up e _ ih => exact .up e ih
theorem Anc.either {ab : List (Option Nat)} {j1 j2 i : Nat} (h1 : Anc ab j1 i) (h2 : Anc ab j2 i) : Anc ab j1 j2 ∨ Anc ab j2 j1 := by
  induction h1 with
  | self => exact .inr h2
  | up e h ih =>
    cases h2 with
    | self => exact .inl (.up e h)
    | up e2 h2 =>
      rw [e] at e2
      cases e2
      exact ih h2
theorem Anc.sib {ab : List (Option Nat)} (st : Stn ab) {k j1 j2 : Nat} (e1 : ab[j1]? = some (some k)) (e2 : ab[j2]? = some (some k)) (ne : j1 ≠ j2) (h : Anc ab j1 j2) : False := by
  obtain ⟨dep, _, hd⟩ := st.dp
  cases h with
  | self => exact ne rfl
  | up e h =>
    rw [e2] at e
    cases e
    have := h.dep hd
    have := (hd _ _ e1).2
    omega
theorem mls_one (t : Tr) : mls [t] = ml t := by
  rw [mls_cons]
  show ml t ++ [] = ml t
  rw [List.append_nil]
theorem nd_mapOn {α β : Type} {f : α → β} {l : List α} (h : l.Nodup) (hf : ∀ a ∈ l, ∀ b ∈ l, f a = f b → a = b) : (l.map f).Nodup :=
  List.pairwise_map.mpr (List.Pairwise.imp_of_mem (fun ha hb ne e => ne (hf _ ha _ hb e)) h)
def mlAt (ms ls : List Str) (i : Nat) : Str × Str := (ms.getD i "", ls.getD i "")
structure Grt (ab : List (Option Nat)) (ms ls : List Str) (k : Nat) (t : Tr) (ix : List Nat) : Prop where
  me : ml t = ix.map (mlAt ms ls)
  rt : mrk t = ms.getD k ""
  nd : ix.Nodup
  an : ∀ i ∈ ix, i < ab.length ∧ Anc ab k i
structure Grl (ab : List (Option Nat)) (ms ls : List Str) (js : List Nat) (ts : List Tr) (ix : List Nat) : Prop where
  me : mls ts = ix.map (mlAt ms ls)
  nd : ix.Nodup
  an : ∀ i ∈ ix, i < ab.length ∧ ∃ j ∈ js, Anc ab j i
theorem Grl.nil {ab : List (Option Nat)} {ms ls : List Str} : Grl ab ms ls [] [] [] := ⟨rfl, .nil, fun i hi => absurd hi (by simp)⟩
theorem Grl.snoc {ab : List (Option Nat)} {ms ls : List Str} (st : Stn ab) {k : Nat} {js : List Nat} {ts : List Tr} {ix ix2 : List Nat} {j : Nat} {t : Tr} (h : Grl ab ms ls js ts ix) (h2 : Grt ab ms ls j t ix2) (hk : ∀ x ∈ js, ab[x]? = some (some k)) (hj : ab[j]? = some (some k)) (nj : j ∉ js) :
    Grl ab ms ls (js ++ [j]) (ts ++ [t]) (ix ++ ix2) := by
  refine ⟨?_, ?_, fun i hi => ?_⟩
  · rw [mls_app, List.map_append, h.me, ← h2.me]
    congr 1
    exact mls_one t
  · refine List.nodup_append.mpr ⟨h.nd, h2.nd, fun a ha b hb e => ?_⟩
    subst e
    obtain ⟨_, x, hx, ax⟩ := h.an a ha
    have aj := (h2.an a hb).2
    have ne : x ≠ j := fun e => nj (e ▸ hx)
    rcases ax.either aj with z | z
    · exact Anc.sib st (hk x hx) hj ne z
    · exact Anc.sib st hj (hk x hx) ne.symm z
  · rcases List.mem_append.mp hi with hi | hi
    · obtain ⟨h1, x, hx, ax⟩ := h.an i hi
      exact ⟨h1, x, List.mem_append_left _ hx, ax⟩
    · obtain ⟨h1, ax⟩ := h2.an i hi
      exact ⟨h1, j, List.mem_append_right _ List.mem_cons_self, ax⟩
theorem Grl.node {ab : List (Option Nat)} {ms ls : List Str} (st : Stn ab) {k : Nat} {js : List Nat} {ts : List Tr} {ix : List Nat} (h : Grl ab ms ls js ts ix) (hk : ∀ x ∈ js, ab[x]? = some (some k)) (kn : k < ab.length) :
    Grt ab ms ls k (.node (ms.getD k "") (ls.getD k "") ts) (k :: ix) := by
  refine ⟨?_, rfl, List.nodup_cons.mpr ⟨fun hi => ?_, h.nd⟩, fun i hi => ?_⟩
  · rw [List.map_cons, ← h.me]
    rfl
  · obtain ⟨_, x, hx, ax⟩ := h.an k hi
    obtain ⟨dep, _, hd⟩ := st.dp
    have := ax.dep hd
    have := (hd _ _ (hk x hx)).2
    omega
  · rcases List.mem_cons.mp hi with rfl | hi
    · exact ⟨kn, .self⟩
    · obtain ⟨h1, x, hx, ax⟩ := h.an i hi
      exact ⟨h1, (Anc.up (hk x hx) .self).trans ax⟩
theorem Grt.ov {ab : List (Option Nat)} {ms ls : List Str} {k : Nat} {t : Tr} {ix : List Nat} (h : Grt ab ms ls k t ix) (hm : Mks ab.length ms) (hl : ls.length = ab.length) (tl : ∀ z ∈ ls, Tx 1 20 z) : Ov ms (ml t) := by
  rw [h.me]
  have gm : ∀ i (hi : i < ms.length), ms.getD i "" = ms[i] := fun i hi => by rw [List.getD_eq_getElem?_getD, List.getElem?_eq_getElem hi]; rfl
  have gl : ∀ i (hi : i < ls.length), ls.getD i "" = ls[i] := fun i hi => by rw [List.getD_eq_getElem?_getD, List.getElem?_eq_getElem hi]; rfl
  have ln := hm.ln
  refine ⟨?_, fun z hz => ?_⟩
  · rw [List.map_map]
    refine nd_mapOn h.nd fun a ha b hb e => ?_
    have la := (h.an a ha).1
    have lb := (h.an b hb).1
    have e : ms.getD a "" = ms.getD b "" := e
    rw [gm a (by omega), gm b (by omega)] at e
    exact (List.getElem_inj hm.nd).mp e
  · obtain ⟨i, hi, rfl⟩ := List.mem_map.mp hz
    have li := (h.an i hi).1
    refine ⟨?_, ?_, ?_⟩
    · show ms.getD i "" ∈ ms
      rw [gm i (by omega)]; exact List.getElem_mem _
    · show Tx 1 60 (ms.getD i "")
      rw [gm i (by omega)]; exact (hm.tx _ (List.getElem_mem _)).wide (by decide) (by decide)
    · show Tx 1 20 (ls.getD i "")
      rw [gl i (by omega)]; exact tl _ (List.getElem_mem _)
theorem Grt.pos {ab : List (Option Nat)} {ms ls : List Str} {k : Nat} {t : Tr} {ix : List Nat} (h : Grt ab ms ls k t ix) : 0 < ab.length := by
  cases ix with
  | nil =>
    have := h.me
    cases t
    cases this
  | cons i r =>
    have := (h.an i List.mem_cons_self).1
    omega

section
variable {P : Program} {w : World} {K : PySem.W.Frag} {mg : Str → Option Value} {base : Heap}
end
end K11
set_option Elab.async false
set_option linter.all false
set_option maxRecDepth 100000
set_option maxHeartbeats 4000000
namespace K11
open PySem PySem.Spec PyProof.Rows L2 XL
section
variable {P : Program} {w : World} {K : PySem.W.Frag} {mg : Str → Option Value} {base : Heap}
/-! ### _law_sorted -/
def RJ (G : Hp) (v : V) (j : Nat) : Prop := ∃ a r, v = .ref a ∧ G a = some (.tup [.int r, nv j])
theorem RJ.same {G G' : Hp} {v : V} {j : Nat} (e : Same G G') (h : RJ G v j) : RJ G' v j := by
  obtain ⟨a, r, h1, h2⟩ := h
  exact ⟨a, r, h1, e _ _ h2⟩
theorem prd_dropS {α β : Type} {F : α → β → Prop} : ∀ {xs : List α} {ys : List β} (n : Nat), Paired F xs ys → Paired F (xs.drop n) (ys.drop n)
  | _, _, 0, h => h
  | _, _, n + 1, .nil => .nil
  | _, _, n + 1, .cons _ h => prd_dropS n h
theorem prd_ins {α β : Type} {F : α → β → Prop} {xs : List α} {ys : List β} {x : α} {y : β} (h : Paired F xs ys) (hx : F x y) (i : Nat) : Paired F (xs.take i ++ [x] ++ xs.drop i) (ys.take i ++ [y] ++ ys.drop i) :=
  prd_app (prd_app (prd_take i h) (.cons hx .nil)) (prd_dropS i h)
theorem perm_ins {α : Type} (xs : List α) (x : α) (i : Nat) : (xs.take i ++ [x] ++ xs.drop i).Perm (xs ++ [x]) := by
  have h : (xs.take i ++ [x] ++ xs.drop i).Perm (xs.take i ++ (xs.drop i ++ [x])) := by
    rw [List.append_assoc]
    exact List.Perm.append_left _ List.perm_append_comm
  rw [← List.append_assoc, List.take_append_drop] at h
  exact h
def spSorted (K : PySem.W.Frag) : Sp := fun vs H Q _ => ∃ (G : Hp) (M : List (Addr × HO)) (l : Addr) (us : List V) (js : List Nat), vs = [.ref l] ∧ Sep G M H ∧ G l = some (.lst us) ∧ Paired (RJ G) us js ∧ us.length ≤ 1000 ∧
  ∀ (r : Addr) (us' : List V) (js' : List Nat) (G' H' : Hp), Same G G' → G' r = some (.lst us') → Paired (RJ G') us' js' → js'.Perm js → Sep G' M H' → Q (.ref r) H'
theorem ok_sorted (T : Top K mg w) {k : Nat} : FnOk P w K mg base CX0 (k + 1) T.a_sorted T.d_sorted ["_law_things"] (spSorted K) := by
  refine T.F_sorted.ok sc_sorted (fun vs H Q E h => ?_) (fun cdv A outer s0 H vs Q E hr h => ?_)
  · obtain ⟨G, M, l, us, js, rfl, _⟩ := h
    rfl
  · obtain ⟨G, M, l, us, js, rfl, S, hl, pj, ul, q⟩ := h
    refine ⟨_, (pss_cons (ps_set (i := 1) sc_sorted.nd rfl (.inl rfl) (pe_lst pa_nil))
      (pss_cons (ps_for PassesOwn.never rfl (pi_listK K (xv 0)) (pg_name (i := 2) sc_sorted.nd rfl (.inl rfl))
      (pss_cons (ps_set (i := 3) sc_sorted.nd rfl (.inl rfl) pe_int)
      (pss_cons (xs_while PassesOwn.never (PW.pt (xw_and (xt_cmp op_ltY (xv 3) (pe_callB (cr_lenK K) (by rfl) T.m_len (by decide +kernel) (pa_cons (xv 1) pa_nil)) (nomark _)) (pw_and1 (xt_cmp (op_leTK K hr.units) (pe_ix (ix_k K) (xv 1) (xv 3) (fun _ _ => rfl)) (xv 2) (nomark _)))))
      (pss_one (ps_aug (i := 3) sc_sorted.nd rfl (.inl rfl) pe_int ip_add)))
      (pss_one (ps_expr (pe_bmK K PySem.F.plainAttrs_list PySem.F.slot_list_insert PySem.F.type_list_insert mt_insert (xv 1) (pa_cons (xv 3) (pa_cons (xv 2) pa_nil))))))))
      (pss_one (ps_ret (xv 1))))), ?_⟩
    refine ⟨sz, fun O nO => ?_⟩
    have S1 := S.new (o := .lst []) nO
    have jl := prd_len pj
    refine ⟨l, rfl, ⟨us, SqL.of (S1.st hl)⟩, for_list (xs := us) (fun i σ H' => ∃ (y2 y3 : Option V) (os : List V) (ns : List Nat), σ = [some (.ref l), some (.ref O), y2, y3] ∧ Paired (RJ G) os ns ∧ ns.Perm (js.take i) ∧ Sep G ((O, .lst os) :: M) H') ⟨_, _, [], [], rfl, .nil, List.Perm.refl _, S1⟩ (fun i σ H' _ h => ?_) (fun i x σ H' hx h => ?_) (fun σ H' h => ?_)⟩
    · obtain ⟨_, _, _, _, _, _, _, S'⟩ := h
      exact SqL.of (S'.st hl)
    · obtain ⟨y2, y3, os, ns, rfl, po, pm, S'⟩ := h
      obtain ⟨j, hj, hxj⟩ := prd_get pj hx
      have ol := prd_len po
      have nl := pm.length_eq
      rw [List.length_take] at nl
      refine ⟨fun m σ H2 => ∃ (at' : Nat), σ = [some (.ref l), some (.ref O), some x, some (.int (at' : Nat))] ∧ at' ≤ os.length ∧ m = os.length - at' ∧ H2 = H', ⟨_, 0, rfl, Nat.zero_le _, rfl, rfl⟩, fun m σ H2 h => ?_⟩
      obtain ⟨at', rfl, al, rfl, rfl⟩ := h
      obtain ⟨a, r, rfl, ha⟩ := id hxj
      have pi := prd_ins po hxj at'
      have pp : (ns.take at' ++ [j] ++ ns.drop at').Perm (js.take (i + 1)) := by
        rw [take_snoc hj]
        exact (perm_ins ns j at').trans (pm.append_right [j])
      refine ⟨_, .inl (SqL.of S'.hd), fun e => ?_, fun e => ?_⟩
      · have lt := of_decide_eq_true e
        have lt : at' < os.length := by omega
        have eo := List.getElem?_eq_getElem lt
        obtain ⟨j2, hj2, b, r2, eb, hb⟩ := prd_get po eo
        rw [eb] at eo
        refine ⟨_, _, .inl (SqL.of S'.hd), atI_nat eo, b, a, [r2, (j2 : Nat)], [r, (j : Nat)], rfl, rfl, SqT.of (S'.st hb), SqT.of (S'.st ha), ?_⟩
        refine ⟨fun _ => ?_, fun _ => ?_⟩
        · exact ⟨_, rfl, _, _, rfl, rfl, os.length - (at' + 1), by omega, at' + 1, rfl, by omega, rfl, rfl⟩
        · exact ⟨.inl ⟨rfl, _, SqL.of S'.hd⟩, O, os, (at' : Nat), .ref a, rfl, rfl, S'.hd, smallL (by omega), by omega, by omega, _, _, _, _, rfl, pi, pp, S'.set⟩
      · exact ⟨ff, fun _ => ⟨.inl ⟨rfl, _, SqL.of S'.hd⟩, O, os, (at' : Nat), .ref a, rfl, rfl, S'.hd, smallL (by omega), by omega, by omega, _, _, _, _, rfl, pi, pp, S'.set⟩⟩
    · obtain ⟨y2, y3, os, ns, rfl, po, pm, S'⟩ := h
      obtain ⟨G2, s2, S2, h2⟩ := Sep.keep S'
      rw [jl, List.take_length] at pm
      exact q O os ns G2 _ s2 h2 (prd_imp (fun _ _ => RJ.same s2) po) pm S2

end
end K11
set_option Elab.async false
set_option linter.all false
set_option maxRecDepth 100000
set_option maxHeartbeats 4000000
namespace K11
open PySem PySem.Spec PyProof.Rows L2 XL
section
variable {P : Program} {w : World} {K : PySem.W.Frag} {mg : Str → Option Value} {base : Heap}
/-! ### _law_moved_parents -/
def spMovedP : Sp := fun vs H Q _ => ∃ (G : Hp) (M : List (Addr × HO)) (b l : Addr) (o : HO) (ps : List Nat), vs = [.ref b, .ref l] ∧ Sep G ((b, o) :: M) H ∧ Bag G o ∧ G l = some (.lst (ps.map nv)) ∧ Acy ps ∧ ps.length ≤ 1000 ∧
  ∀ (r : Addr) (ps' : List Nat) (o' : HO) (G' H' : Hp), Same G G' → G' r = some (.lst (ps'.map nv)) → ps'.length = ps.length → Acy ps' → Bag G' o' → Sep G' ((b, o') :: M) H' → Q (.ref r) H'
theorem ok_moved_parents (T : Top K mg w) {k : Nat} (G_pick : FnOk P w K mg base CX0 k T.a_pick T.d_pick ["_law_bag_here", "_law_many"] spPick) : FnOk P w K mg base CX0 (k + 1) T.a_moved_parents T.d_moved_parents ["_law_bag_here", "_law_parents_here"] spMovedP := by
  refine T.F_moved_parents.ok sc_moved_parents (fun vs H Q E h => ?_) (fun cdv A outer s0 H vs Q E hr h => ?_)
  · obtain ⟨G, M, b, l, o, ps, rfl, _⟩ := h
    rfl
  · obtain ⟨G, M, b, l, o, ps, rfl, S, B, hl, ac, pl, q⟩ := h
    refine ⟨_, (pss_cons (ps_set (i := 2) sc_moved_parents.nd rfl (.inl rfl) (pe_callTy (call_listK K) (by rfl) T.m_list (by decide +kernel) (pa_cons (xv 1) pa_nil)))
      (pss_cons (ps_for PassesOwn.never rfl (pi_range2 (by rfl) T.m_range (pa_cons pe_int (pa_cons (pe_callB (cr_lenK K) (by rfl) T.m_len (by decide +kernel) (pa_cons (xv 1) pa_nil)) pa_nil))) (pg_name (i := 3) sc_moved_parents.nd rfl (.inl rfl))
      (pss_one (xs_if (xt_cmp (op_eqLK K hr.u190) (pe_call G_pick (hr.mono (by omega)) (by rfl) T.g_pick T.F_pick.kp T.b_pick .nil pass0 (pa_cons (xv 0) (pa_cons pe_int pa_nil))) pe_int (nomark _))
      (pss_cons (ps_set (i := 4) sc_moved_parents.nd rfl (.inl rfl) (pe_call G_pick (hr.mono (by omega)) (by rfl) T.g_pick T.F_pick.kp T.b_pick .nil pass0 (pa_cons (xv 0) (pa_cons (pe_callB (cr_lenK K) (by rfl) T.m_len (by decide +kernel) (pa_cons (xv 1) pa_nil)) pa_nil))))
      (pss_cons (ps_set (i := 5) sc_moved_parents.nd rfl (.inl rfl) (pe_lst (pa_cons (xv 4) pa_nil)))
      (pss_cons (ps_for PassesOwn.never rfl (pi_range1 (by rfl) T.m_range (pa_cons (pe_callB (cr_lenK K) (by rfl) T.m_len (by decide +kernel) (pa_cons (xv 1) pa_nil)) pa_nil)) (pg_name (i := 6) sc_moved_parents.nd rfl (.inl rfl))
      (pss_one (ps_expr (pe_bmK K PySem.F.plainAttrs_list PySem.F.slot_list_append PySem.F.type_list_append mt_append (xv 5) (pa_cons (pe_ix (ix_k K) (xv 2) (pe_ix (ix_k K) (xv 5) (xv 6) (fun _ _ => rfl)) (fun _ _ => rfl)) pa_nil)))))
      (pss_one (xs_if (xt_cmp (notin_seqK K) (xv 3) (xv 5) (by rfl))
      (pss_one (ps_asg (xv 4) (pg_sub (xv 2) (xv 3) set_list)))
      pss_nil)))))
      pss_nil)))
      (pss_one (ps_ret (xv 2))))), ?_⟩
    refine ⟨l, _, rfl, .inl (SqL.of (S.st hl)), fun O nO => ?_⟩
    have S1 := S.new (o := .lst (ps.map nv)) nO
    have pn := ac.ne
    refine ⟨_, .inl (SqL.of (S1.st hl)), ?_⟩
    rw [List.length_map]
    refine ⟨_, _, rfl, ⟨by omega, by omega, by omega, by omega⟩, for_range (lo := 1) (n := ((ps.length : Nat) - 1 : Int).toNat) (fun i σ H' => ∃ (y3 y4 y5 y6 : Option V) (o' : HO) (qs : List Nat), σ = [some (.ref b), some (.ref l), some (.ref O), y3, y4, y5, y6] ∧
      qs.length = ps.length ∧ Acy qs ∧ Bag G o' ∧ Sep G ((O, .lst (qs.map nv)) :: (b, o') :: M) H') ⟨_, _, _, _, o, ps, rfl, rfl, ac, B, S1⟩ (fun i σ H' hi h => ?_) (fun σ H' h => ?_)⟩
    · obtain ⟨y3, y4, y5, y6, o', qs, rfl, ql, aq, B', S'⟩ := h
      have ek : (1 : Int) + (i : Nat) = ((i + 1 : Nat) : Int) := by omega
      rw [ek]
      have hi : i + 1 < ps.length := by omega
      refine ⟨G, _, b, o', _, rfl, S'.sw, B', by omega, by omega, fun r o2 H2 r0 r1 B2 S2 => ⟨fun e => ?_, fun e => ?_⟩⟩
      · refine ⟨_, .inl (SqL.of (S2.st hl)), ?_⟩
        rw [List.length_map]
        refine ⟨G, _, b, o2, _, rfl, S2, B2, by omega, by omega, fun s o3 H3 s0 s1 B3 S3 => ?_⟩
        obtain ⟨s, rfl⟩ := Int.eq_ofNat_of_zero_le s0
        have hs : s < ps.length := by omega
        refine ⟨sz, fun L nL => ?_⟩
        have S4 := S3.new (o := .lst [nv s]) nL
        refine ⟨_, .inl (SqL.of (S4.st hl)), ?_⟩
        rw [List.length_map]
        refine ⟨_, rfl, by omega, by omega, for_range (lo := 0) (n := ((ps.length : Nat) : Int).toNat) (fun m σ H' => ∃ (y6 : Option V), σ = [some (.ref b), some (.ref l), some (.ref O), some (.int ((i + 1 : Nat) : Int)), some (.int (s : Nat)), some (.ref L), y6] ∧
          Sep G ((L, .lst (((List.range (m + 1)).map (fun c => upn qs c s)).map nv)) :: (b, o3) :: (O, .lst (qs.map nv)) :: M) H') ⟨_, rfl, S4⟩ (fun m σ H5 hm h => ?_) (fun σ H5 h => ?_)⟩
        · obtain ⟨y6, rfl, S5⟩ := h
          have e0 : (0 + ((m : Nat) : Int)) = ((m : Nat) : Int) := Int.zero_add _
          rw [e0]
          have g1 : (((List.range (m + 1)).map (fun c => upn qs c s)).map nv)[m]? = some (.int ((upn qs m s : Nat) : Int)) := by
            rw [List.getElem?_map, List.getElem?_map, List.getElem?_range (by omega)]
            rfl
          have lt := aq.upn_lt (show s < qs.length by omega) m
          have e2 := List.getElem?_eq_getElem lt
          have g2 : qs[upn qs m s]? = some (upn qs (m + 1) s) := by
            rw [upn, getD_of e2]
            exact e2
          have S6 := S5.perm (List.Perm.trans (List.Perm.cons _ (List.Perm.swap _ _ _)) (List.Perm.swap _ _ _))
          refine ⟨.inl ⟨rfl, _, SqL.of S5.hd⟩, _, _, .inl (SqL.of S5.hd), atI_nat g1, _, _, .inl (SqL.of S6.hd), atI_nat (nv_get g2), L, _, _, rfl, rfl, S5.hd, by rw [List.length_map, List.length_map, List.length_range]; exact smallL (by omega), ?_⟩
          refine ⟨_, rfl, ?_⟩
          rw [List.range_succ (n := m + 1), List.map_append, List.map_append]
          exact S5.set
        · obtain ⟨y6, rfl, S5⟩ := h
          refine ⟨L, _, rfl, .inl (SqL.of S5.hd), rfl, nvs_flat _, ?_⟩
          rw [inV_nv]
          have S6 := S5.drop
          refine ⟨fun e => ?_, fun e => ?_⟩
          · have hK : i + 1 ∉ (List.range (((ps.length : Nat) : Int).toNat + 1)).map (fun c => upn qs c s) := fun h => by
              rw [decide_eq_true h] at e
              exact nomatch e
            have no : ∀ c, c ≤ qs.length → upn qs c s ≠ i + 1 := fun c hc e => hK (List.mem_map.mpr ⟨c, List.mem_range.mpr (by omega), e⟩)
            have ap := aq.put (by omega) (by omega) (show s < qs.length by omega) no
            have S7 := S6.sw
            refine ⟨O, _, _, i + 1, rfl, rfl, S7.hd, ?_, ?_⟩
            · rw [List.length_map]
              unfold ixN
              rw [if_pos (show (0 : Int) ≤ ((i + 1 : Nat) : Int) by omega), Int.toNat_natCast, if_pos (show ((i + 1 : Nat) : Int) < ((qs.length : Nat) : Int) by omega)]
            · refine ⟨_, _, _, _, o3, qs.set (i + 1) s, rfl, by rw [List.length_set]; exact ql, ap, B3, ?_⟩
              rw [List.map_set]
              exact S7.set
          · exact ⟨_, _, _, _, o3, qs, rfl, ql, aq, B3, S6.sw⟩
      · exact ⟨_, _, _, _, o2, qs, rfl, ql, aq, B2, S2.sw⟩
    · obtain ⟨y3, y4, y5, y6, o', qs, rfl, ql, aq, B', S'⟩ := h
      obtain ⟨G2, s2, S2, h2⟩ := Sep.keep S'
      exact q O qs o' G2 _ s2 h2 ql aq (B'.same s2) S2

end
end K11
set_option Elab.async false
set_option linter.all false
set_option maxRecDepth 100000
set_option maxHeartbeats 4000000
namespace K11
open PySem PySem.Spec PyProof.Rows L2 XL
section
variable {P : Program} {w : World} {K : PySem.W.Frag} {mg : Str → Option Value} {base : Heap}
/-! ### _law_ranks -/
theorem ints_ex : ∀ {ys : List V}, (∀ y ∈ ys, ∃ i, y = .int i) → ∃ rs : List Int, ys = rs.map V.int
  | [], _ => ⟨[], rfl⟩
  | y :: r, h => by
    obtain ⟨i, rfl⟩ := h y List.mem_cons_self
    obtain ⟨rs, rfl⟩ := ints_ex (ys := r) fun z hz => h z (List.mem_cons_of_mem _ hz)
    exact ⟨i :: rs, rfl⟩
def spRanks : Sp := fun vs H Q _ => ∃ (G : Hp) (M : List (Addr × HO)) (b : Addr) (o : HO) (n : Nat), vs = [.ref b, .int (n : Nat)] ∧ Sep G ((b, o) :: M) H ∧ Bag G o ∧ 1 ≤ n ∧ n ≤ 1000 ∧
  ∀ (r : Addr) (rs : List Int) (o' : HO) (G' H' : Hp), Same G G' → G' r = some (.lst (rs.map V.int)) → rs.length = n → Bag G' o' → Sep G' ((b, o') :: M) H' → Q (.ref r) H'
theorem ok_ranks (T : Top K mg w) {k : Nat} (G_pick : FnOk P w K mg base CX0 k T.a_pick T.d_pick ["_law_bag_here", "_law_many"] spPick) (G_mingled : FnOk P w K mg base CX0 k T.a_mingled T.d_mingled ["_law_bag_here", "_law_things"] (spMingled K)) : FnOk P w K mg base CX0 (k + 1) T.a_ranks T.d_ranks ["_law_bag_here", "_law_many"] spRanks := by
  refine T.F_ranks.ok sc_ranks (fun vs H Q E h => ?_) (fun cdv A outer s0 H vs Q E hr h => ?_)
  · obtain ⟨G, M, b, o, n, rfl, _⟩ := h
    rfl
  · obtain ⟨G, M, b, o, n, rfl, S, B, n1, n5, q⟩ := h
    refine ⟨_, (pss_cons (ps_set (i := 2) sc_ranks.nd rfl (.inl rfl) (pe_call G_pick (hr.mono (by omega)) (by rfl) T.g_pick T.F_pick.kp T.b_pick .nil pass0 (pa_cons (xv 0) (pa_cons pe_int pa_nil))))
      (pss_cons (xs_if (xt_cmp (op_eqLK K hr.u190) (xv 2) pe_int (nomark _))
      (pss_one (ps_ret (pe_call G_mingled (hr.mono (by omega)) (by rfl) T.g_mingled T.F_mingled.kp T.b_mingled .nil pass0 (pa_cons (xv 0) (pa_cons (pe_listRg rfl (by rfl) T.m_list (prg_1 (by rfl) T.m_range (xv 1))) pa_nil)))))
      pss_nil)
      (pss_cons (xs_if (xt_cmp (op_eqLK K hr.u190) (xv 2) pe_int (nomark _))
      (pss_one (ps_ret (pe_lc (own := [("_law_k", 5)]) (by rfl) sc_ranks.nd (pi_range1 (by rfl) T.m_range (pa_cons (xv 1) pa_nil)) (blkOk_by (N := ["_law_bag_here", "_law_many", "_law_way", "_law_out", "_law_step", "_law_k"]) (sc := defScope s_ranks) (by decide +kernel)) (fun _ _ _ _ _ => (pg_name (i := 5) sc_ranks.nd rfl (.inl rfl))) (fun _ _ _ _ _ => pts_nil) (fun _ _ _ _ _ => (pe_op op_subY (xv 1) (xv 5))))))
      pss_nil)
      (pss_cons (ps_setLc (i := 3) (own := [("_law_k", 5)]) (by rfl) sc_ranks.nd rfl rfl (sw_true rfl rfl rfl (by decide +kernel)) (pi_range1 (by rfl) T.m_range (pa_cons (xv 1) pa_nil)) (blkOk_by (N := ["_law_bag_here", "_law_many", "_law_way", "_law_out", "_law_step", "_law_k"]) (sc := defScope s_ranks) (by decide +kernel)) (fun _ _ _ _ _ => (pg_name (i := 5) sc_ranks.nd rfl (.inl rfl))) (fun _ _ _ _ _ => pts_nil) (fun _ _ _ _ _ => (pe_op op_mulY pe_int (xv 5))))
      (pss_cons (xs_if (xt_cmp op_gtY (xv 2) pe_int (nomark _))
      (pss_one (ps_for PassesOwn.never rfl (pi_range1 (by rfl) T.m_range (pa_cons (pe_op op_addY pe_int (pe_call G_pick (hr.mono (by omega)) (by rfl) T.g_pick T.F_pick.kp T.b_pick .nil pass0 (pa_cons (xv 0) (pa_cons pe_int pa_nil)))) pa_nil)) (pg_name (i := 4) sc_ranks.nd rfl (.inl rfl))
      (pss_one (ps_asg (pe_op op_subY (pe_op op_mulY pe_int (pe_call G_pick (hr.mono (by omega)) (by rfl) T.g_pick T.F_pick.kp T.b_pick .nil pass0 (pa_cons (xv 0) (pa_cons (xv 1) pa_nil)))) pe_int) (pg_sub (xv 3) (pe_call G_pick (hr.mono (by omega)) (by rfl) T.g_pick T.F_pick.kp T.b_pick .nil pass0 (pa_cons (xv 0) (pa_cons (xv 1) pa_nil))) set_list)))))
      pss_nil)
      (pss_one (ps_ret (xv 3)))))))), ?_⟩
    refine ⟨G, M, b, o, 5, rfl, S, B, by decide, by decide, fun r o1 H1 r0 r1 B1 S1 => ?_⟩
    refine ⟨fun e => ?_, fun e => ⟨fun e => ?_, fun e => ?_⟩⟩
    · refine ⟨n, rfl, RgOk.of_le (by omega) (by omega) (by omega) (by omega), fun L nL => ?_⟩
      obtain ⟨G2, s2, S2, h2⟩ := Sep.mk (o := .lst (rgV 0 n)) S1 nL
      refine ⟨G2, M, b, o1, L, _, rfl, S2, B1.same s2, SqL.of h2, by rw [rgV_length]; omega, fun p ys o' G' H' s' hp pm B' S' => ?_⟩
      obtain ⟨rs, rfl⟩ : ∃ rs : List Int, ys = rs.map V.int := by
        refine ints_ex fun y hy => ?_
        obtain ⟨i, _, rfl⟩ := List.mem_map.mp (pm.mem_iff.mp hy)
        exact ⟨_, rfl⟩
      have el := pm.length_eq
      rw [rgV_length, List.length_map] at el
      exact q p rs o' G' H' (s2.trans s') hp (by omega) B' S'
    · refine ⟨_, rfl, by omega, by omega, fun D nD => lc_range (lo := 0) (n := ((n : Nat) : Int).toNat) (fun i H' => Sep G ((D, .lst (((List.range i).map (fun j : Nat => ((n : Nat) : Int) - ((j : Nat) : Int))).map V.int)) :: (b, o1) :: M) H') (S1.new nD) (fun i H' hi S' => ?_) (fun H' S' => ?_)⟩
      · refine ⟨rfl, _, S'.hd, by rw [List.length_map, List.length_map, List.length_range]; exact smallL (by omega), ?_⟩
        rw [List.range_succ, List.map_append, List.map_append, show (0 + ((i : Nat) : Int)) = ((i : Nat) : Int) from Int.zero_add _]
        exact S'.set
      · obtain ⟨G2, s2, S2, h2⟩ := Sep.keep S'
        exact q D _ o1 G2 _ s2 h2 (by rw [List.length_map, List.length_range]; omega) (B1.same s2) S2
    · refine ⟨_, rfl, by omega, by omega, fun D nD => lc_range (lo := 0) (n := ((n : Nat) : Int).toNat) (fun i H' => Sep G ((D, .lst (((List.range i).map (fun j : Nat => 2 * ((j : Nat) : Int))).map V.int)) :: (b, o1) :: M) H') (S1.new nD) (fun i H' hi S' => ?_) (fun H' S' => ?_)⟩
      · refine ⟨rfl, .inl ⟨by decide, by decide⟩, _, S'.hd, by rw [List.length_map, List.length_map, List.length_range]; exact smallL (by omega), ?_⟩
        rw [List.range_succ, List.map_append, List.map_append, show (0 + ((i : Nat) : Int)) = ((i : Nat) : Int) from Int.zero_add _]
        exact S'.set
      · refine ⟨fun e => ?_, fun e => ?_⟩
        · refine ⟨G, _, b, o1, 3, rfl, S'.sw, B1, by decide, by decide, fun r3 o3 H3 r30 r31 B3 S3 => ?_⟩
          refine ⟨_, rfl, by omega, by omega, for_range (lo := 0) (n := (1 + r3).toNat) (fun i σ H' => ∃ (y5 : Option V) (o' : HO) (rs : List Int), σ = [some (.ref b), some (.int (n : Nat)), some (.int r), some (.ref D), y5, none] ∧ rs.length = n ∧ Bag G o' ∧ Sep G ((D, .lst (rs.map V.int)) :: (b, o') :: M) H') ⟨_, o3, _, rfl, by rw [List.length_map, List.length_range]; omega, B3, S3.sw⟩ (fun i σ H' hi h => ?_) (fun σ H' h => ?_)⟩
          · obtain ⟨y5, o', rs, rfl, rl, B', S4⟩ := h
            refine ⟨G, _, b, o', _, rfl, S4.sw, B', by omega, by omega, fun r5 o5 H5 r50 r51 B5 S5 => ?_⟩
            refine ⟨.inl ⟨by decide, by decide⟩, G, _, b, o5, _, rfl, S5, B5, by omega, by omega, fun r6 o6 H6 r60 r61 B6 S6 => ?_⟩
            obtain ⟨c, rfl⟩ := Int.eq_ofNat_of_zero_le r60
            have S7 := S6.sw
            refine ⟨D, _, _, c, rfl, rfl, S7.hd, ?_, ?_⟩
            · rw [List.length_map]
              unfold ixN
              rw [if_pos (show (0 : Int) ≤ ((c : Nat) : Int) by omega), Int.toNat_natCast, if_pos (show ((c : Nat) : Int) < ((rs.length : Nat) : Int) by omega)]
            · refine ⟨_, o6, rs.set c (2 * r5 - 1), rfl, by rw [List.length_set]; exact rl, B6, ?_⟩
              rw [List.map_set]
              exact S7.set
          · obtain ⟨y5, o', rs, rfl, rl, B', S4⟩ := h
            obtain ⟨G2, s2, S2, h2⟩ := Sep.keep S4
            exact q D _ o' G2 _ s2 h2 rl (B'.same s2) S2
        · obtain ⟨G2, s2, S2, h2⟩ := Sep.keep S'
          exact q D _ o1 G2 _ s2 h2 (by rw [List.length_map, List.length_range]; omega) (B1.same s2) S2
/-! ### _law_standing -/
def onv : Option Nat → V
  | some a => nv a
  | none => .non
def spStanding : Sp := fun vs H Q _ => ∃ (G : Hp) (M : List (Addr × HO)) (b l : Addr) (o : HO) (ps : List Nat), vs = [.ref b, .ref l] ∧ Sep G ((b, o) :: M) H ∧ Bag G o ∧ G l = some (.lst (ps.map nv)) ∧ Acy ps ∧ ps.length ≤ 1000 ∧
  ∀ (r : Addr) (ab : List (Option Nat)) (o' : HO) (G' H' : Hp), Same G G' → G' r = some (.lst (ab.map onv)) → ab.length = ps.length → Stn ab → Bag G' o' → Sep G' ((b, o') :: M) H' → Q (.ref r) H'
theorem ok_standing (T : Top K mg w) {k : Nat} (G_pick : FnOk P w K mg base CX0 k T.a_pick T.d_pick ["_law_bag_here", "_law_many"] spPick) : FnOk P w K mg base CX0 (k + 1) T.a_standing T.d_standing ["_law_bag_here", "_law_parents_here"] spStanding := by
  refine T.F_standing.ok sc_standing (fun vs H Q E h => ?_) (fun cdv A outer s0 H vs Q E hr h => ?_)
  · obtain ⟨G, M, b, l, o, ps, rfl, _⟩ := h
    rfl
  · obtain ⟨G, M, b, l, o, ps, rfl, S, B, hl, ac, pl, q⟩ := h
    refine ⟨_, (pss_cons (ps_setLc (i := 3) (own := [("_law_k", 2)]) (by rfl) sc_standing.nd rfl rfl (sw_true rfl rfl rfl (by decide +kernel)) (pi_listK K (xv 1)) (blkOk_by (N := ["_law_bag_here", "_law_parents_here", "_law_k", "_law_there", "_law_out", "_law_above"]) (sc := defScope s_standing) (by decide +kernel)) (fun _ _ _ _ _ => (pg_name (i := 2) sc_standing.nd rfl (.inl rfl))) (fun _ _ _ _ _ => pts_nil) (fun _ _ _ _ _ => pe_bl))
      (pss_cons (ps_for PassesOwn.never rfl (pi_range2 (by rfl) T.m_range (pa_cons pe_int (pa_cons (pe_callB (cr_lenK K) (by rfl) T.m_len (by decide +kernel) (pa_cons (xv 1) pa_nil)) pa_nil))) (pg_name (i := 2) sc_standing.nd rfl (.inl rfl))
      (pss_one (xs_if (xt_cmp (op_eqLK K hr.u190) (pe_call G_pick (hr.mono (by omega)) (by rfl) T.g_pick T.F_pick.kp T.b_pick .nil pass0 (pa_cons (xv 0) (pa_cons pe_int pa_nil))) pe_int (nomark _))
      (pss_one (ps_asg pe_bl (pg_sub (xv 3) (xv 2) set_list)))
      pss_nil)))
      (pss_cons (ps_set (i := 4) sc_standing.nd rfl (.inl rfl) (pe_lst (pa_cons pe_non pa_nil)))
      (pss_cons (ps_for PassesOwn.never rfl (pi_range2 (by rfl) T.m_range (pa_cons pe_int (pa_cons (pe_callB (cr_lenK K) (by rfl) T.m_len (by decide +kernel) (pa_cons (xv 1) pa_nil)) pa_nil))) (pg_name (i := 2) sc_standing.nd rfl (.inl rfl))
      (pss_cons (ps_set (i := 5) sc_standing.nd rfl (.inl rfl) (pe_ix (ix_k K) (xv 1) (xv 2) (fun _ _ => rfl)))
      (pss_cons (xs_while PassesOwn.never (pt_not (xt_truK K (pe_ix (ix_k K) (xv 3) (xv 5) (fun _ _ => rfl))))
      (pss_one (ps_set (i := 5) sc_standing.nd rfl (.inl rfl) (pe_ix (ix_k K) (xv 1) (xv 5) (fun _ _ => rfl)))))
      (pss_one (ps_expr (pe_bmK K PySem.F.plainAttrs_list PySem.F.slot_list_append PySem.F.type_list_append mt_append (xv 4) (pa_cons (xe_if (xt_truK K (pe_ix (ix_k K) (xv 3) (xv 2) (fun _ _ => rfl))) (xv 5) pe_non) pa_nil)))))))
      (pss_one (ps_ret (xv 4))))))), ?_⟩
    have pn := ac.ne
    refine ⟨l, rfl, ⟨_, SqL.of (S.st hl)⟩, fun L nL => lc_at (xs := ps.map nv) (fun i H' => Sep G ((L, .lst ((List.replicate i true).map V.bl)) :: (b, o) :: M) H') (S.new nL) (fun i H' S' => SqL.of (S'.st hl)) (fun _ => rfl) (fun i y H' hy S' => ?_) (fun H1 S1 => ?_)⟩
    · have il := (List.getElem?_eq_some_iff.mp hy).1
      rw [List.length_map] at il
      refine ⟨_, S'.hd, by rw [List.length_map, List.length_replicate]; exact smallL (by omega), ?_⟩
      rw [List.replicate_succ', List.map_append]
      exact S'.set
    rw [List.length_map] at S1
    refine ⟨_, .inl (SqL.of (S1.st hl)), ?_⟩
    rw [List.length_map]
    refine ⟨_, _, rfl, ⟨by omega, by omega, by omega, by omega⟩, for_range (lo := 1) (n := ((ps.length : Nat) - 1 : Int).toNat) (fun i σ H' => ∃ (y2 : Option V) (o' : HO) (ts : List Bool), σ = [some (.ref b), some (.ref l), y2, some (.ref L), none, none] ∧
      ts.length = ps.length ∧ ts[0]? = some true ∧ Bag G o' ∧ Sep G ((L, .lst (ts.map V.bl)) :: (b, o') :: M) H') ⟨_, o, _, rfl, List.length_replicate, by rw [List.getElem?_replicate, if_pos pn], B, S1⟩ (fun i σ H' hi h => ?_) (fun σ H' h => ?_)⟩
    · obtain ⟨y2, o', ts, rfl, tl, t0, B', S'⟩ := h
      have ek : (1 : Int) + (i : Nat) = ((i + 1 : Nat) : Int) := by omega
      rw [ek]
      refine ⟨G, _, b, o', _, rfl, S'.sw, B', by omega, by omega, fun r o2 H2 r0 r1 B2 S2 => ⟨fun e => ?_, fun e => ?_⟩⟩
      · have S3 := S2.sw
        refine ⟨L, _, _, i + 1, rfl, rfl, S3.hd, ?_, ?_⟩
        · rw [List.length_map]
          unfold ixN
          rw [if_pos (show (0 : Int) ≤ ((i + 1 : Nat) : Int) by omega), Int.toNat_natCast, if_pos (show ((i + 1 : Nat) : Int) < ((ts.length : Nat) : Int) by omega)]
        · refine ⟨_, o2, ts.set (i + 1) false, rfl, by rw [List.length_set]; exact tl, by rw [List.getElem?_set_ne (by omega)]; exact t0, B2, ?_⟩
          rw [List.map_set]
          exact S3.set
      · exact ⟨_, o2, ts, rfl, tl, t0, B2, S2.sw⟩
    · obtain ⟨y2, o', ts, rfl, tl, t0, B', S'⟩ := h
      obtain ⟨G2, s2, S2, hL⟩ := Sep.keep S'
      have B2 := B'.same s2
      have hl2 := s2 _ _ hl
      obtain ⟨dep, db, dd⟩ := ac.bd
      refine ⟨sz, fun O nO => ?_⟩
      have S3 := S2.new (o := .lst [.non]) nO
      refine ⟨_, .inl (SqL.of (S3.st hl2)), ?_⟩
      rw [List.length_map]
      refine ⟨_, _, rfl, ⟨by omega, by omega, by omega, by omega⟩, for_range (lo := 1) (n := ((ps.length : Nat) - 1 : Int).toNat) (fun i σ H' => ∃ (y2 y5 : Option V) (ab : List (Option Nat)), σ = [some (.ref b), some (.ref l), y2, some (.ref L), some (.ref O), y5] ∧
        ab.length = i + 1 ∧ (∀ j a : Nat, ab[j]? = some (some a) → a < ps.length ∧ dep a < dep j) ∧ Sep G2 ((O, .lst (ab.map onv)) :: (b, o') :: M) H') ⟨_, _, [none], rfl, rfl, fun j a h => ?_, S3⟩ (fun i σ H' hi h => ?_) (fun σ H' h => ?_)⟩
      · cases j <;> simp at h
      · obtain ⟨y2, y5, ab, rfl, al, hab, S4⟩ := h
        have ek : (1 : Int) + (i : Nat) = ((i + 1 : Nat) : Int) := by omega
        rw [ek]
        have hi : i + 1 < ps.length := by omega
        obtain ⟨p, hp⟩ : ∃ p, ps[i + 1]? = some p := ⟨_, List.getElem?_eq_getElem hi⟩
        refine ⟨_, _, .inl (SqL.of (S4.st hl2)), atI_nat (nv_get hp), ?_⟩
        refine ⟨fun m σ H2 => ∃ (a : Nat), σ = [some (.ref b), some (.ref l), some (.int ((i + 1 : Nat) : Int)), some (.ref L), some (.ref O), some (.int (a : Nat))] ∧ a < ps.length ∧ dep a < dep (i + 1) ∧ m = dep a ∧ H2 = H', ⟨_, p, rfl, ac.lt _ _ hp, dd _ _ (by omega) hp, rfl, rfl⟩, fun m σ H2 h => ?_⟩
        obtain ⟨a, rfl, la, da, rfl, rfl⟩ := h
        obtain ⟨tv, htv⟩ : ∃ tv, ts[a]? = some tv := ⟨_, List.getElem?_eq_getElem (by omega)⟩
        have gt : (ts.map V.bl)[a]? = some (.bl tv) := by rw [List.getElem?_map, htv]; rfl
        refine ⟨_, _, .inl (SqL.of (S4.st hL)), atI_nat gt, ?_⟩
        show (_ → _) ∧ (_ → _)
        refine ⟨fun e => ?_, fun e => ?_⟩
        · have e : (!tv) = true := e
          have tf : tv = false := by simpa using e
          subst tf
          have a0 : 0 < a := Nat.pos_of_ne_zero fun z => by
            rw [z, t0] at htv
            cases htv
          obtain ⟨p2, hp2⟩ : ∃ p2, ps[a]? = some p2 := ⟨_, List.getElem?_eq_getElem la⟩
          exact ⟨_, _, .inl (SqL.of (S4.st hl2)), atI_nat (nv_get hp2), dep p2, dd _ _ a0 hp2, p2, rfl, ac.lt _ _ hp2, by have := dd _ _ a0 hp2; omega, rfl, rfl⟩
        · obtain ⟨tk, htk⟩ : ∃ tk, ts[i + 1]? = some tk := ⟨_, List.getElem?_eq_getElem (by omega)⟩
          have gk : (ts.map V.bl)[i + 1]? = some (.bl tk) := by rw [List.getElem?_map, htk]; rfl
          refine ⟨.inl ⟨rfl, _, SqL.of S4.hd⟩, _, _, .inl (SqL.of (S4.st hL)), atI_nat gk, ?_⟩
          show (_ → _) ∧ (_ → _)
          have fin : ∀ (v : Option Nat), (∀ x, v = some x → x < ps.length ∧ dep x < dep (i + 1)) → ∃ (y2 y5 : Option V) (ab' : List (Option Nat)), [some (.ref b), some (.ref l), some (.int ((i + 1 : Nat) : Int)), some (.ref L), some (.ref O), some (.int (a : Nat))] = [some (.ref b), some (.ref l), y2, some (.ref L), some (.ref O), y5] ∧
              ab'.length = i + 1 + 1 ∧ (∀ j a : Nat, ab'[j]? = some (some a) → a < ps.length ∧ dep a < dep j) ∧ Sep G2 ((O, .lst (ab'.map onv)) :: (b, o') :: M) (upd H2 O (.lst (ab.map onv ++ [onv v]))) := fun v hv => by
            refine ⟨_, _, ab ++ [v], rfl, by rw [List.length_append, al]; rfl, fun j x hj => ?_, ?_⟩
            · by_cases lt : j < ab.length
              · rw [List.getElem?_append_left lt] at hj
                exact hab j x hj
              · rw [List.getElem?_append_right (by omega)] at hj
                have lj := (List.getElem?_eq_some_iff.mp hj).1
                rw [List.length_singleton] at lj
                have ej : j = i + 1 := by omega
                subst ej
                rw [show i + 1 - ab.length = 0 by omega] at hj
                cases hj
                exact hv x rfl
            · rw [List.map_append]
              exact S4.set
          refine ⟨fun e => ?_, fun e => ?_⟩
          · exact ⟨O, _, _, rfl, rfl, S4.hd, by rw [List.length_map]; exact smallL (by omega), fin (some a) fun x hx => by cases hx; exact ⟨la, da⟩⟩
          · exact ⟨O, _, _, rfl, rfl, S4.hd, by rw [List.length_map]; exact smallL (by omega), fin none fun x hx => nomatch hx⟩
      · obtain ⟨y2, y5, ab, rfl, al, hab, S4⟩ := h
        obtain ⟨G5, s5, S5, h5⟩ := Sep.keep S4
        have el : ab.length = ps.length := by omega
        exact q O ab o' G5 _ (s2.trans s5) h5 el ⟨dcount dep ab.length, fun j => dcount_le _ _ _, fun j a e => ⟨by have := (hab j a e).1; omega, dcount_lt (by have := (hab j a e).1; omega) (hab j a e).2⟩⟩ (B2.same s5) S5

end
end K11
set_option Elab.async false
set_option linter.all false
set_option maxRecDepth 100000
set_option maxHeartbeats 4000000
namespace K11
open PySem PySem.Spec PyProof.Rows L2 XL
section
variable {P : Program} {w : World} {K : PySem.W.Frag} {mg : Str → Option Value} {base : Heap}
section
variable {K : PySem.W.Frag} {a : Addr} {xs : List V} {σ : L2.St}
/-- [e for .. in xs], any target -/
theorem lc_tg {g : TG} {te : TE} {vs : List Nat} {H1 : Hp} {L : Addr} {Qd : Hp → Prop} (Pv : Nat → Hp → Prop) (h0 : Pv 0 (upd H1 L (.lst []))) (hl : ∀ k H, Pv k H → SqL K H a xs)
    (hs : ∀ k x H, xs[k]? = some x → Pv k H → g x (wipe σ vs) H fun σ2 H2 => wipe σ2 vs = wipe σ vs ∧ te σ2 H2 fun y H4 => ∃ acc, H4 L = some (.lst acc) ∧ acc.length < sizeLine ∧ Pv (k + 1) (upd H4 L (.lst (acc ++ [y])))) (hd : ∀ H, Pv xs.length H → Qd H)
    (hg : ∀ x σ H Q Q', (∀ σ' H', Q σ' H' → Q' σ' H') → g x σ H Q → g x σ H Q') :
    ∃ W : Nat → Nat → Hp → Prop, (∃ m, W 0 m (upd H1 L (.lst []))) ∧ ∀ k m H, W k m H →
      ((Itl K a).stop k H ∧ Qd H) ∨ ((Itl K a).go k H ∧ ∃ Nx : Hp → Prop, (∀ H', Nx H' → ∃ m', m' < m ∧ W (k + 1) m' H') ∧ ∀ x H', (Itl K a).yld k H x H' → g x (wipe σ vs) H' fun σ2 H2 => wipe σ2 vs = wipe σ vs ∧ tYes σ2 H2 fun b H3 =>
        if b = true then te σ2 H3 fun y H4 => ∃ acc, H4 L = some (.lst acc) ∧ acc.length < sizeLine ∧ Nx (upd H4 L (.lst (acc ++ [y]))) else Nx H3) := by
  refine loopL (a := a) (B := fun x H' Nx => g x (wipe σ vs) H' fun σ2 H2 => wipe σ2 vs = wipe σ vs ∧ tYes σ2 H2 fun b H3 => if b = true then te σ2 H3 fun y H4 => ∃ acc, H4 L = some (.lst acc) ∧ acc.length < sizeLine ∧ Nx (upd H4 L (.lst (acc ++ [y]))) else Nx H3) Pv h0 hl (fun k x H hx p => ?_) hd
  exact hg _ _ _ _ _ (fun σ' H' q => ⟨q.1, by
    unfold tYes
    dsimp only
    rw [if_pos rfl]
    exact q.2⟩) (hs k x H hx p)
end
theorem gT2_mono {K : PySem.W.Frag} {i j : Nat} : ∀ x σ H (Q Q' : L2.St → Hp → Prop), (∀ σ' H', Q σ' H' → Q' σ' H') → gTup K 2 (gCons (gName i) (gCons (gName j) gNil)) x σ H Q → gTup K 2 (gCons (gName i) (gCons (gName j) gNil)) x σ H Q' := by
  rintro x σ H Q Q' hq ⟨a, ys, h1, h2, h3, x1, r1, h4, x2, r2, h5, h6, h7⟩
  exact ⟨a, ys, h1, h2, h3, x1, r1, h4, x2, r2, h5, h6, hq _ _ h7⟩

/-! ### _law_grown -/
theorem at_strs {zs : List Str} {k : Nat} (h : k < zs.length) : atI (zs.map V.str) ((k : Nat) : Int) = some (.str (zs.getD k "")) := by
  refine atI_nat ?_
  rw [List.getElem?_map, List.getElem?_eq_getElem h, List.getD_eq_getElem?_getD, List.getElem?_eq_getElem h]
  rfl
def sel (ab : List (Option Nat)) (k i : Nat) : List Nat := (List.range i).filter fun j => decide (ab[j]? = some (some k))
theorem sel_succ (ab : List (Option Nat)) (k i : Nat) : sel ab k (i + 1) = sel ab k i ++ (if ab[i]? = some (some k) then [i] else []) := by
  unfold sel
  rw [List.range_succ, List.filter_append]
  congr 1
  by_cases h : ab[i]? = some (some k)
  · rw [if_pos h, List.filter_cons, if_pos (by exact decide_eq_true h)]; rfl
  · rw [if_neg h, List.filter_cons, if_neg (by rw [decide_eq_false h]; decide)]; rfl
theorem sel_nd (ab : List (Option Nat)) (k i : Nat) : (sel ab k i).Nodup := List.Nodup.sublist List.filter_sublist List.nodup_range
theorem mem_sel {ab : List (Option Nat)} {k i j : Nat} (h : j ∈ sel ab k i) : j < i ∧ ab[j]? = some (some k) := by
  unfold sel at h
  rw [List.mem_filter, List.mem_range] at h
  exact ⟨h.1, of_decide_eq_true h.2⟩
theorem sel_len (ab : List (Option Nat)) (k i : Nat) : (sel ab k i).length ≤ i := by
  have := List.length_filter_le (fun j => decide (ab[j]? = some (some k))) (List.range i)
  rw [List.length_range] at this
  exact this
/-- the five lists of _law_grown -/
structure Gro (G : Hp) (LM LL LA LR : Addr) (ms ls : List Str) (ab : List (Option Nat)) (rs : List Int) : Prop where
  m : G LM = some (.lst (ms.map V.str))
  l : G LL = some (.lst (ls.map V.str))
  a : G LA = some (.lst (ab.map onv))
  r : G LR = some (.lst (rs.map V.int))
  ml : ms.length = ab.length
  ll : ls.length = ab.length
  rl : rs.length = ab.length
  n : ab.length ≤ 1000
theorem Gro.same {G G' : Hp} {LM LL LA LR : Addr} {ms ls : List Str} {ab : List (Option Nat)} {rs : List Int} (e : Same G G') (h : Gro G LM LL LA LR ms ls ab rs) : Gro G' LM LL LA LR ms ls ab rs :=
  ⟨e _ _ h.m, e _ _ h.l, e _ _ h.a, e _ _ h.r, h.ml, h.ll, h.rl, h.n⟩
def spGrown (K : PySem.W.Frag) (f : Nat) : Sp := fun vs H Q _ => ∃ (G : Hp) (M : List (Addr × HO)) (LM LL LA LR : Addr) (ms ls : List Str) (ab : List (Option Nat)) (rs : List Int) (k : Nat) (dep : Nat → Nat), vs = [.int (k : Nat), .ref LM, .ref LL, .ref LA, .ref LR] ∧ Sep G M H ∧ Gro G LM LL LA LR ms ls ab rs ∧ k < ab.length ∧ (∀ j, dep j ≤ ab.length) ∧ (∀ j a : Nat, ab[j]? = some (some a) → a < ab.length ∧ dep a < dep j) ∧ ab.length + 1 ≤ f + dep k ∧
  ∀ (v : V) (t : Tr) (ix : List Nat) (G' H' : Hp), Same G G' → Dp K G' v (toD t) → Grt ab ms ls k t ix → Sep G' M H' → Q v H'
theorem ok_grown (T : Top K mg w) : ∀ f, FnOk P w K mg base CX0 (f + 2) T.a_grown T.d_grown ["_law_k", "_law_marks_here", "_law_labels", "_law_above", "_law_ranks_here"] (spGrown K f) := by
  intro f
  induction f with
  | zero =>
    refine T.F_grown.ok sc_grown (fun vs H Q E h => ?_) (fun cdv A outer s0 H vs Q E hr h => ?_)
    · obtain ⟨G, M, LM, LL, LA, LR, ms, ls, ab, rs, k, dep, rfl, _⟩ := h
      rfl
    · obtain ⟨G, M, LM, LL, LA, LR, ms, ls, ab, rs, k, dep, rfl, S, gr, kn, hb, hd, le, q⟩ := h
      have := hb k
      omega
  | succ f ih =>
    have G_sorted := ok_sorted (P := P) (w := w) (K := K) (mg := mg) (base := base) T (k := f + 1)
    have G_grown := ih
    refine T.F_grown.ok sc_grown (fun vs H Q E h => ?_) (fun cdv A outer s0 H vs Q E hr h => ?_)
    · obtain ⟨G, M, LM, LL, LA, LR, ms, ls, ab, rs, k, dep, rfl, _⟩ := h
      rfl
    · obtain ⟨G, M, LM, LL, LA, LR, ms, ls, ab, rs, k, dep, rfl, S, gr, kn, hb, hd, le, q⟩ := h
      refine ⟨_, (pss_cons (ps_set (i := 5) sc_grown.nd rfl (.inl rfl) (pe_call G_sorted (hr.mono (by omega)) (by rfl) T.g_sorted T.F_sorted.kp T.b_sorted .nil pass0 (pa_cons (pe_lc (own := [("_law_j", 6)]) (by rfl) sc_grown.nd (pi_range1 (by rfl) T.m_range (pa_cons (pe_callB (cr_lenK K) (by rfl) T.m_len (by decide +kernel) (pa_cons (xv 3) pa_nil)) pa_nil)) (blkOk_by (N := ["_law_k", "_law_marks_here", "_law_labels", "_law_above", "_law_ranks_here", "_law_below", "_law_j", "_law_rank"]) (sc := defScope s_grown) (by decide +kernel)) (fun _ _ _ _ _ => (pg_name (i := 6) sc_grown.nd rfl (.inl rfl))) (fun _ _ _ _ _ => (pts_one (xt_cmp (op_eqLK K hr.u190) (pe_ix (ix_k K) (xv 3) (xv 6) (fun _ _ => rfl)) (xv 0) (nomark _)))) (fun _ _ _ _ _ => (pe_tup (pa_cons (pe_ix (ix_k K) (xv 4) (xv 6) (fun _ _ => rfl)) (pa_cons (xv 6) pa_nil))))) pa_nil)))
      (pss_one (ps_ret (pe_tup (pa_cons (pe_ix (ix_k K) (xv 1) (xv 0) (fun _ _ => rfl)) (pa_cons (pe_ix (ix_k K) (xv 2) (xv 0) (fun _ _ => rfl)) (pa_cons (pe_callTy (call_tupleK K) (by rfl) T.m_tuple (by decide +kernel) (pa_cons (pe_lc (own := [("_law_rank", 7), ("_law_j", 6)]) (by rfl) sc_grown.nd (pi_listK K (xv 5)) (blkOk_by (N := ["_law_k", "_law_marks_here", "_law_labels", "_law_above", "_law_ranks_here", "_law_below", "_law_j", "_law_rank"]) (sc := defScope s_grown) (by decide +kernel)) (fun _ _ _ _ _ => (pg_tupK K 2 (pgs_cons (pg_name (i := 7) sc_grown.nd rfl (.inl rfl)) (pgs_cons (pg_name (i := 6) sc_grown.nd rfl (.inl rfl)) pgs_nil)))) (fun _ _ _ _ _ => pts_nil) (fun _ _ _ _ _ => (pe_call G_grown (hr.mono (by omega)) (by rfl) T.g_grown T.F_grown.kp T.b_grown .nil pass0 (pa_cons (xv 6) (pa_cons (xv 1) (pa_cons (xv 2) (pa_cons (xv 3) (pa_cons (xv 4) pa_nil)))))))) pa_nil)) pa_nil))))))), ?_⟩
      refine ⟨_, .inl (SqL.of (S.st gr.a)), ?_⟩
      have n5 := gr.n
      rw [List.length_map]
      refine ⟨_, rfl, by omega, by omega, fun D nD => lc_range (lo := 0) (n := ((ab.length : Nat) : Int).toNat) (fun i H' => ∃ (us : List V) (G' : Hp), Same G G' ∧ Paired (RJ G') us (sel ab k i) ∧ Sep G' ((D, .lst us) :: M) H') ⟨[], G, Same.refl _, .nil, S.new nD⟩ (fun i H' hi h => ?_) (fun H' h => ?_)⟩
      · obtain ⟨us, G1, s1, pu, S1⟩ := h
        have hi : i < ab.length := by omega
        have ul := prd_len pu
        have sl := sel_len ab k i
        obtain ⟨v, hv⟩ : ∃ v, ab[i]? = some v := ⟨_, List.getElem?_eq_getElem hi⟩
        have gv : (ab.map onv)[i]? = some (onv v) := by rw [List.getElem?_map, hv]; rfl
        have gr1 := gr.same s1
        rw [show (0 + ((i : Nat) : Int)) = ((i : Nat) : Int) from Int.zero_add _]
        refine ⟨rfl, _, _, .inl (SqL.of (S1.st gr1.a)), atI_nat gv, ?_⟩
        have ri : ∃ r, rs[i]? = some r := ⟨_, List.getElem?_eq_getElem (by rw [gr.rl]; exact hi)⟩
        obtain ⟨r, hr1⟩ := ri
        have gr' : (rs.map V.int)[i]? = some (.int r) := by rw [List.getElem?_map, hr1]; rfl
        have en := sel_succ ab k i
        have yes : v = some k → sel ab k (i + 1) = sel ab k i ++ [i] := fun e => by rw [en, if_pos (by rw [hv, e])]
        have no : v ≠ some k → sel ab k (i + 1) = sel ab k i := fun e => by rw [en, if_neg (by rw [hv]; exact fun h => e (Option.some.inj h)), List.append_nil]
        cases v with
        | none =>
          refine ⟨rfl, ?_⟩
          refine tst (fun e => ?_) (fun e => ?_)
          · have e2 : V.non = V.int ((k : Nat) : Int) := of_decide_eq_true e
            exact nomatch e2
          · exact ⟨us, G1, s1, by rw [no (fun e => nomatch e)]; exact pu, S1⟩
        | some a =>
          refine tst (fun e => ?_) (fun e => ?_)
          · have e := of_decide_eq_true e
            have ea : a = k := by omega
            refine ⟨_, _, .inl (SqL.of (S1.st gr1.r)), atI_nat gr', sz, fun p np => ?_⟩
            obtain ⟨G2, s2, S2, h2⟩ := Sep.mk (o := .tup [.int r, .int ((i : Nat) : Int)]) S1 np
            refine ⟨us, S2.hd, smallL (by omega), us ++ [.ref p], G2, s1.trans s2, ?_, S2.set⟩
            rw [yes (by rw [ea])]
            exact prd_app (prd_imp (fun _ _ => RJ.same s2) pu) (.cons ⟨p, r, rfl, h2⟩ .nil)
          · have e := of_decide_eq_false e
            exact ⟨us, G1, s1, by rw [no (fun h => e (by cases h; rfl))]; exact pu, S1⟩
      · obtain ⟨us, G1, s1, pu, S1⟩ := h
        have ul := prd_len pu
        rw [show (((ab.length : Nat) : Int).toNat) = ab.length by omega] at pu ul
        have sl := sel_len ab k ab.length
        obtain ⟨G2, s2, S2, h2⟩ := Sep.keep S1
        refine ⟨G2, M, D, us, _, rfl, S2, h2, prd_imp (fun _ _ => RJ.same s2) pu, by omega, fun B us' js G3 H3 s3 hB pj pm S3 => ?_⟩
        have s03 := s1.trans (s2.trans s3)
        have gr3 := gr.same s03
        have ml := gr.ml
        have ll := gr.ll
        have jl := prd_len pj
        have pl := pm.length_eq
        have hj : ∀ x ∈ js, x < ab.length ∧ ab[x]? = some (some k) := fun x hx => mem_sel (pm.mem_iff.mp hx)
        have nj : js.Nodup := pm.nodup_iff.mpr (sel_nd ab k ab.length)
        have st : Stn ab := ⟨dep, hb, hd⟩
        refine ⟨_, _, .inl (SqL.of (S3.st gr3.m)), at_strs (by omega), _, _, .inl (SqL.of (S3.st gr3.l)), at_strs (by omega), ?_⟩
        refine ⟨B, rfl, ⟨us', SqL.of (S3.st hB)⟩, fun Z nZ => lc_tg (xs := us') (fun i H' => ∃ (ws : List V) (ts : List Tr) (ix : List Nat) (G' : Hp), Same G3 G' ∧ ws.length = i ∧ DpAll K G' ws (ts.map toD) ∧ Grl ab ms ls (js.take i) ts ix ∧ Sep G' ((Z, .lst ws) :: M) H') ⟨[], [], [], G3, Same.refl _, rfl, .nil, Grl.nil, S3.new nZ⟩ (fun i H' h => ?_) (fun i u H' hu h => ?_) (fun H5 h => ?_) gT2_mono⟩
        · obtain ⟨ws, ts, ix, G4, s4, _, _, _, S4⟩ := h
          exact SqL.of (S4.st (s4 _ _ hB))
        · obtain ⟨ws, ts, ix, G4, s4, wl, hws, gl, S4⟩ := h
          obtain ⟨j, hj1, a, r, rfl, ha⟩ := prd_get pj hu
          have jm := List.mem_of_getElem? hj1
          obtain ⟨jn, ja⟩ := hj j jm
          have gr4 := gr3.same s4
          have lt := (hd j k ja).2
          have il := (List.getElem?_eq_some_iff.mp hu).1
          refine ⟨a, _, rfl, SqT.of (S4.st (s4 _ _ ha)), rfl, _, _, rfl, _, _, rfl, rfl, rfl, G4, _, LM, LL, LA, LR, ms, ls, ab, rs, j, dep, rfl, S4, gr4, jn, hb, hd, by omega, fun v t ix2 G5 H5 s5 hv gt S5 => ?_⟩
          refine ⟨ws, S5.hd, smallL (by omega), ws ++ [v], ts ++ [t], ix ++ ix2, G5, s4.trans s5, by rw [List.length_append, wl]; rfl, ?_, ?_, S5.set⟩
          · rw [List.map_append]
            exact dpa_app (dpa_same s5 hws) (dpa_one hv)
          · rw [take_snoc hj1]
            refine gl.snoc st gt (fun x hx => (hj x (List.mem_of_mem_take hx)).2) ja fun h => ?_
            have e := (take_pre hj1).1
            rw [e] at nj
            exact (List.nodup_append.mp nj).2.2 j h j List.mem_cons_self rfl
        · obtain ⟨ws, ts, ix, G4, s4, wl, hws, gl, S4⟩ := h
          rw [jl, List.take_length] at gl
          refine ⟨Z, ws, rfl, .inl ⟨SqL.of S4.hd, fun p7 np7 => ?_⟩⟩
          obtain ⟨G7, s7, S7, h7⟩ := Sep.mk (o := .tup ws) S4.drop np7
          refine ⟨sz, fun p8 np8 => ?_⟩
          obtain ⟨G8, s8, S8, h8⟩ := Sep.mk (o := .tup [.str (ms.getD k ""), .str (ls.getD k ""), .ref p7]) S7 np8
          refine q _ _ _ G8 _ (s03.trans (s4.trans (s7.trans s8))) ?_ (gl.node st (fun x hx => (hj x hx).2) kn) S8
          simp only [toD, toDs_eq]
          exact .tup (SqT.of h8) (.cons (.str _) (.cons (.str _) (.cons (.tup (SqT.of (s8 _ _ h7)) (dpa_same (s7.trans s8) hws)) .nil)))

end
end K11
set_option Elab.async false
set_option linter.all false
set_option maxRecDepth 100000
set_option maxHeartbeats 4000000
namespace K11
open PySem PySem.Spec PyProof.Rows L2 XL
section
variable {P : Program} {w : World} {K : PySem.W.Frag} {mg : Str → Option Value} {base : Heap}
/-! ### _law_pair -/
def spPair11 (K : PySem.W.Frag) : Sp := fun vs H Q _ => ∃ (G : Hp) (M : List (Addr × HO)) (b : Addr) (o : HO) (n : Nat), vs = [.ref b, .int (n : Nat)] ∧ Sep G ((b, o) :: M) H ∧ Bag G o ∧ 1 ≤ n ∧ n ≤ 32 ∧
  ∀ (p : Addr) (u v : V) (s t : Tr) (ms : List Str) (o' : HO) (G' H' : Hp), Same G G' → G' p = some (.tup [u, v]) → Dp K G' u (toD s) → Dp K G' v (toD t) → Ov ms (ml s) → Ov ms (ml t) → Mks n ms → mrk s = mrk t → Bag G' o' → Sep G' ((b, o') :: M) H' → Q (.ref p) H'
theorem ok_pair (T : Top K mg w) {k : Nat} (G_pick : FnOk P w K mg base CX0 k T.a_pick T.d_pick ["_law_bag_here", "_law_many"] spPick) (G_marks : FnOk P w K mg base CX0 k T.a_marks T.d_marks ["_law_bag_here", "_law_count"] spMarks) (G_label : FnOk P w K mg base CX0 k T.a_label T.d_label ["_law_bag_here"] spLab) (G_parents : FnOk P w K mg base CX0 k T.a_parents T.d_parents ["_law_bag_here", "_law_count"] spPar) (G_ranks : FnOk P w K mg base CX0 k T.a_ranks T.d_ranks ["_law_bag_here", "_law_many"] spRanks)
    (G_grown : FnOk P w K mg base CX0 k T.a_grown T.d_grown ["_law_k", "_law_marks_here", "_law_labels", "_law_above", "_law_ranks_here"] (spGrown K 33)) (G_standing : FnOk P w K mg base CX0 k T.a_standing T.d_standing ["_law_bag_here", "_law_parents_here"] spStanding) (G_moved_parents : FnOk P w K mg base CX0 k T.a_moved_parents T.d_moved_parents ["_law_bag_here", "_law_parents_here"] spMovedP) :
    FnOk P w K mg base CX0 (k + 1) T.a_pair T.d_pair ["_law_bag_here", "_law_many"] (spPair11 K) := by
  refine T.F_pair.ok sc_pair (fun vs H Q E h => ?_) (fun cdv A outer s0 H vs Q E hr h => ?_)
  · obtain ⟨G, M, b, o, n, rfl, _⟩ := h
    rfl
  · obtain ⟨G, M, b, o, n, rfl, S, B, n1, n5, q⟩ := h
    refine ⟨_, (pss_cons (ps_set (i := 2) sc_pair.nd rfl (.inl rfl) (pe_call G_marks (hr.mono (by omega)) (by rfl) T.g_marks T.F_marks.kp T.b_marks .nil pass0 (pa_cons (xv 0) (pa_cons (xv 1) pa_nil))))
      (pss_cons (ps_setLc (i := 3) (own := [("_law_mark", 7)]) (by rfl) sc_pair.nd rfl rfl (sw_true rfl rfl rfl (by decide +kernel)) (pi_listK K (xv 2)) (blkOk_by (N := ["_law_bag_here", "_law_many", "_law_marks_here", "_law_labels", "_law_parents_here", "_law_ranks_here", "_law_old", "_law_mark", "_law_label_here"]) (sc := defScope s_pair) (by decide +kernel)) (fun _ _ _ _ _ => (pg_name (i := 7) sc_pair.nd rfl (.inl rfl))) (fun _ _ _ _ _ => pts_nil) (fun _ _ _ _ _ => (pe_call G_label (hr.mono (by omega)) (by rfl) T.g_label T.F_label.kp T.b_label .nil pass0 (pa_cons (xv 0) pa_nil))))
      (xss_cut (ps_set (i := 4) sc_pair.nd rfl (.inl rfl) (xe_if (xt_cmp (op_eqLK K hr.u190) (pe_call G_pick (hr.mono (by omega)) (by rfl) T.g_pick T.F_pick.kp T.b_pick .nil pass0 (pa_cons (xv 0) (pa_cons pe_int pa_nil))) pe_int (nomark _)) (pe_lc (own := [("_law_mark", 7)]) (by rfl) sc_pair.nd (pi_listK K (xv 2)) (blkOk_by (N := ["_law_bag_here", "_law_many", "_law_marks_here", "_law_labels", "_law_parents_here", "_law_ranks_here", "_law_old", "_law_mark", "_law_label_here"]) (sc := defScope s_pair) (by decide +kernel)) (fun _ _ _ _ _ => (pg_name (i := 7) sc_pair.nd rfl (.inl rfl))) (fun _ _ _ _ _ => pts_nil) (fun _ _ _ _ _ => pe_int)) (pe_call G_parents (hr.mono (by omega)) (by rfl) T.g_parents T.F_parents.kp T.b_parents .nil pass0 (pa_cons (xv 0) (pa_cons (xv 1) pa_nil)))))
      (pss_cons (ps_set (i := 5) sc_pair.nd rfl (.inl rfl) (pe_call G_ranks (hr.mono (by omega)) (by rfl) T.g_ranks T.F_ranks.kp T.b_ranks .nil pass0 (pa_cons (xv 0) (pa_cons (xv 1) pa_nil))))
      (pss_cons (ps_set (i := 6) sc_pair.nd rfl (.inl rfl) (pe_call G_grown (hr.mono (by omega)) (by rfl) T.g_grown T.F_grown.kp T.b_grown .nil pass0 (pa_cons pe_int (pa_cons (xv 2) (pa_cons (xv 3) (pa_cons (pe_call G_standing (hr.mono (by omega)) (by rfl) T.g_standing T.F_standing.kp T.b_standing .nil pass0 (pa_cons (xv 0) (pa_cons (xv 4) pa_nil))) (pa_cons (xv 5) pa_nil)))))))
      (xss_cut (xs_if (xt_cmp op_gtY (pe_call G_pick (hr.mono (by omega)) (by rfl) T.g_pick T.F_pick.kp T.b_pick .nil pass0 (pa_cons (xv 0) (pa_cons pe_int pa_nil))) pe_int (nomark _))
      (pss_one (ps_set (i := 5) sc_pair.nd rfl (.inl rfl) (pe_call G_ranks (hr.mono (by omega)) (by rfl) T.g_ranks T.F_ranks.kp T.b_ranks .nil pass0 (pa_cons (xv 0) (pa_cons (xv 1) pa_nil)))))
      pss_nil)
      (xss_cut (xs_if (xt_cmp op_gtY (pe_call G_pick (hr.mono (by omega)) (by rfl) T.g_pick T.F_pick.kp T.b_pick .nil pass0 (pa_cons (xv 0) (pa_cons pe_int pa_nil))) pe_int (nomark _))
      (pss_one (ps_set (i := 4) sc_pair.nd rfl (.inl rfl) (pe_call G_moved_parents (hr.mono (by omega)) (by rfl) T.g_moved_parents T.F_moved_parents.kp T.b_moved_parents .nil pass0 (pa_cons (xv 0) (pa_cons (xv 4) pa_nil)))))
      pss_nil)
      (pss_cons (ps_setLc (i := 3) (own := [("_law_label_here", 8)]) (by rfl) sc_pair.nd rfl rfl (sw_true rfl rfl rfl (by decide +kernel)) (pi_listK K (xv 3)) (blkOk_by (N := ["_law_bag_here", "_law_many", "_law_marks_here", "_law_labels", "_law_parents_here", "_law_ranks_here", "_law_old", "_law_mark", "_law_label_here"]) (sc := defScope s_pair) (by decide +kernel)) (fun _ _ _ _ _ => (pg_name (i := 8) sc_pair.nd rfl (.inl rfl))) (fun _ _ _ _ _ => pts_nil) (fun _ _ _ _ _ => (xe_if (xt_cmp (op_eqLK K hr.u190) (pe_call G_pick (hr.mono (by omega)) (by rfl) T.g_pick T.F_pick.kp T.b_pick .nil pass0 (pa_cons (xv 0) (pa_cons pe_int pa_nil))) pe_int (nomark _)) (pe_call G_label (hr.mono (by omega)) (by rfl) T.g_label T.F_label.kp T.b_label .nil pass0 (pa_cons (xv 0) pa_nil)) (xv 8))))
      (pss_one (ps_ret (pe_tup (pa_cons (xv 6) (pa_cons (pe_call G_grown (hr.mono (by omega)) (by rfl) T.g_grown T.F_grown.kp T.b_grown .nil pass0 (pa_cons pe_int (pa_cons (xv 2) (pa_cons (xv 3) (pa_cons (pe_call G_standing (hr.mono (by omega)) (by rfl) T.g_standing T.F_standing.kp T.b_standing .nil pass0 (pa_cons (xv 0) (pa_cons (xv 4) pa_nil))) (pa_cons (xv 5) pa_nil)))))) pa_nil))))))))))))), ?_⟩
    refine ⟨G, M, b, o, n, rfl, S, B, by omega, fun LM ms o1 G1 H1 s1 hm mk B1 S1 => ?_⟩
    have mln := mk.ln
    refine ⟨LM, rfl, ⟨_, SqL.of (S1.st hm)⟩, fun D nD => lc_at (xs := ms.map V.str) (fun i H' => ∃ (ls : List Str) (o' : HO) (G' : Hp), Same G1 G' ∧ ls.length = i ∧ (∀ z ∈ ls, Tx 1 20 z) ∧ Bag G' o' ∧ Sep G' ((D, .lst (ls.map V.str)) :: (b, o') :: M) H') ⟨[], o1, G1, Same.refl _, rfl, fun z hz => absurd hz (by simp), B1, S1.new nD⟩ (fun i H' h => ?_) (fun _ => rfl) (fun i y H' hy h => ?_) (fun H2 h => ?_)⟩
    · obtain ⟨_, _, _, s', _, _, _, S'⟩ := h
      exact SqL.of (S'.st (s' _ _ hm))
    · obtain ⟨ls, o', G', s', ll, tl, B', S'⟩ := h
      have il := (List.getElem?_eq_some_iff.mp hy).1
      rw [List.length_map] at il
      refine ⟨G', _, b, o', rfl, S'.sw, B', fun z o3 G3 H3 tz s3 B3 S3 => ?_⟩
      have S3 := S3.sw
      refine ⟨_, S3.hd, by rw [List.length_map]; exact smallL (by omega), ls ++ [z], o3, G3, s'.trans s3, by rw [List.length_append, ll]; rfl, fun x hx => ?_, B3, ?_⟩
      · rcases List.mem_append.mp hx with hx | hx
        · exact tl x hx
        · rw [List.mem_singleton.mp hx]; exact tz
      · rw [List.map_append]
        exact S3.set
    obtain ⟨ls, o2, G2, s2, ll, tl, B2, S2⟩ := h
    rw [List.length_map] at ll
    obtain ⟨G3, s3, S3, hl3⟩ := Sep.keep S2
    have B3 := B2.same s3
    have s13 := s2.trans s3
    have hm3 := s13 _ _ hm
    refine ⟨fun σ H' => ∃ (LP : Addr) (ps : List Nat) (o' : HO) (G' : Hp), σ = [some (.ref b), some (.int (n : Nat)), some (.ref LM), some (.ref D), some (.ref LP), none, none, none, none] ∧ Same G3 G' ∧ G' LP = some (.lst (ps.map nv)) ∧ ps.length = n ∧ Acy ps ∧ Bag G' o' ∧ Sep G' ((b, o') :: M) H', ?_, fun σ H4 h => ?_⟩
    · refine ⟨G3, _, b, o2, 3, rfl, S3, B3, by decide, by decide, fun r o4 H4 r0 r1 B4 S4 => ⟨fun e => ?_, fun e => ?_⟩⟩
      · refine ⟨LM, rfl, ⟨_, SqL.of (S4.st hm3)⟩, fun Z nZ => lc_at (xs := ms.map V.str) (fun i H' => Sep G3 ((Z, .lst ((List.replicate i 0).map nv)) :: (b, o4) :: M) H') (S4.new nZ) (fun i H' S' => SqL.of (S'.st hm3)) (fun _ => rfl) (fun i y H' hy S' => ?_) (fun H5 S5 => ?_)⟩
        · have il := (List.getElem?_eq_some_iff.mp hy).1
          rw [List.length_map] at il
          refine ⟨_, S'.hd, by rw [List.length_map, List.length_replicate]; exact smallL (by omega), ?_⟩
          rw [List.replicate_succ', List.map_append]
          exact S'.set
        · rw [List.length_map, mln] at S5
          obtain ⟨G5, s5, S6, h5⟩ := Sep.keep S5
          exact ⟨Z, List.replicate n 0, o4, G5, rfl, s5, h5, List.length_replicate, Acy.zeros n1, B4.same s5, S6⟩
      · refine ⟨G3, _, b, o4, n, rfl, S4, B4, n1, by omega, fun LP ps lv o5 G5 H5 s5 hp pl pp B5 S5 => ?_⟩
        exact ⟨LP, ps, o5, G5, rfl, s5, hp, pl, .par pp, B5, S5⟩
    obtain ⟨LP, ps, o4, G4, rfl, s4, hp, pl, ac, B4, S4⟩ := h
    have hm4 := s4 _ _ hm3
    have hl4 := s4 _ _ hl3
    refine ⟨G4, _, b, o4, n, rfl, S4, B4, n1, by omega, fun LR rs o5 G5 H5 s5 hrs rl B5 S5 => ?_⟩
    refine ⟨G5, _, b, LP, o5, ps, rfl, S5, B5, s5 _ _ hp, ac, by omega, fun LA ab o6 G6 H6 s6 ha al st B6 S6 => ?_⟩
    obtain ⟨dep, hb, hd⟩ := st.dp
    have s46 := s5.trans s6
    refine ⟨G6, _, LM, D, LA, LR, ms, ls, ab, rs, 0, dep, rfl, S6, ⟨s46 _ _ hm4, s46 _ _ hl4, ha, s6 _ _ hrs, by omega, by omega, by omega, by omega⟩, by omega, hb, hd, by omega, fun v s ix G7 H7 s7 hv gt S7 => ?_⟩
    have s47 := s46.trans s7
    have B7 := B6.same s7
    have ov1 := gt.ov (by rw [al, pl]; exact mk) (by omega) tl
    have em1 := gt.rt
    -- ranks anew
    refine ⟨fun σ H' => ∃ (LR' : Addr) (rs' : List Int) (o' : HO) (G' : Hp), σ = [some (.ref b), some (.int (n : Nat)), some (.ref LM), some (.ref D), some (.ref LP), some (.ref LR'), some v, none, none] ∧ Same G7 G' ∧ G' LR' = some (.lst (rs'.map V.int)) ∧ rs'.length = n ∧ Bag G' o' ∧ Sep G' ((b, o') :: M) H', ?_, fun σ H8 h => ?_⟩
    · refine ⟨G7, _, b, o6, 3, rfl, S7, B7, by decide, by decide, fun r o8 H8 r0 r1 B8 S8 => ⟨fun e => ?_, fun e => ?_⟩⟩
      · exact ⟨G7, _, b, o8, n, rfl, S8, B8, n1, by omega, fun LR2 rs2 o9 G9 H9 s9 hr9 rl9 B9 S9 => ⟨LR2, rs2, o9, G9, rfl, s9, hr9, rl9, B9, S9⟩⟩
      · exact ⟨LR, rs, o8, G7, rfl, Same.refl _, s7 _ _ (s6 _ _ hrs), rl, B8, S8⟩
    obtain ⟨LR2, rs2, o8, G8, rfl, s8, hr8, rl8, B8, S8⟩ := h
    have s48 := s47.trans s8
    -- parents anew
    refine ⟨fun σ H' => ∃ (LP' : Addr) (ps' : List Nat) (o' : HO) (G' : Hp), σ = [some (.ref b), some (.int (n : Nat)), some (.ref LM), some (.ref D), some (.ref LP'), some (.ref LR2), some v, none, none] ∧ Same G8 G' ∧ G' LP' = some (.lst (ps'.map nv)) ∧ ps'.length = n ∧ Acy ps' ∧ Bag G' o' ∧ Sep G' ((b, o') :: M) H', ?_, fun σ H9 h => ?_⟩
    · refine ⟨G8, _, b, o8, 3, rfl, S8, B8, by decide, by decide, fun r o9 H9 r0 r1 B9 S9 => ⟨fun e => ?_, fun e => ?_⟩⟩
      · exact ⟨G8, _, b, LP, o9, ps, rfl, S9, B9, s48 _ _ hp, ac, by omega, fun LP2 ps2 o10 G10 H10 s10 hp10 pl10 ac10 B10 S10 => ⟨LP2, ps2, o10, G10, rfl, s10, hp10, by omega, ac10, B10, S10⟩⟩
      · exact ⟨LP, ps, o9, G8, rfl, Same.refl _, s48 _ _ hp, pl, ac, B9, S9⟩
    obtain ⟨LP2, ps2, o9, G9, rfl, s9, hp9, pl9, ac9, B9, S9⟩ := h
    have s49 := s48.trans s9
    have hl9 := s49 _ _ hl4
    refine ⟨D, rfl, ⟨_, SqL.of (S9.st hl9)⟩, fun Z nZ => lc_at (xs := ls.map V.str) (fun i H' => ∃ (zs : List Str) (o' : HO) (G' : Hp), Same G9 G' ∧ zs.length = i ∧ (∀ z ∈ zs, Tx 1 20 z) ∧ Bag G' o' ∧ Sep G' ((Z, .lst (zs.map V.str)) :: (b, o') :: M) H') ⟨[], o9, G9, Same.refl _, rfl, fun z hz => absurd hz (by simp), B9, S9.new nZ⟩ (fun i H' h => ?_) (fun _ => rfl) (fun i y H' hy h => ?_) (fun H10 h => ?_)⟩
    · obtain ⟨_, _, _, s', _, _, _, S'⟩ := h
      exact SqL.of (S'.st (s' _ _ hl9))
    · obtain ⟨zs, o', G', s', zl, tz, B', S'⟩ := h
      have il := (List.getElem?_eq_some_iff.mp hy).1
      rw [List.length_map] at il
      rw [List.getElem?_map] at hy
      obtain ⟨z0, hz0, rfl⟩ := Option.map_eq_some_iff.mp hy
      have t0 := tl z0 (List.mem_of_getElem? hz0)
      have add : ∀ (z : Str) (o3 : HO) (G3 H3 : Hp), Tx 1 20 z → Same G' G3 → Bag G3 o3 → Sep G3 ((b, o3) :: (Z, .lst (zs.map V.str)) :: M) H3 → ∃ acc, H3 Z = some (.lst acc) ∧ acc.length < sizeLine ∧ ∃ (zs : List Str) (o' : HO) (G' : Hp), Same G9 G' ∧ zs.length = i + 1 ∧ (∀ z ∈ zs, Tx 1 20 z) ∧ Bag G' o' ∧ Sep G' ((Z, .lst (zs.map V.str)) :: (b, o') :: M) (upd H3 Z (.lst (acc ++ [.str z]))) := fun z o3 G3 H3 tz3 s3 B3 S3 => by
        have S3 := S3.sw
        refine ⟨_, S3.hd, by rw [List.length_map]; exact smallL (by omega), zs ++ [z], o3, G3, s'.trans s3, by rw [List.length_append, zl]; rfl, fun x hx => ?_, B3, ?_⟩
        · rcases List.mem_append.mp hx with hx | hx
          · exact tz x hx
          · rw [List.mem_singleton.mp hx]; exact tz3
        · rw [List.map_append]
          exact S3.set
      refine ⟨G', _, b, o', 5, rfl, S'.sw, B', by decide, by decide, fun r o10 H10 r0 r1 B10 S10 => ⟨fun e => ?_, fun e => ?_⟩⟩
      · exact ⟨G', _, b, o10, rfl, S10, B10, fun z o3 G3 H3 tz3 s3 B3 S3 => add z o3 G3 H3 tz3 s3 B3 S3⟩
      · exact add z0 o10 G' H10 t0 (Same.refl _) B10 S10
    obtain ⟨zs, o10, G10, s10, zl, tz, B10, S10⟩ := h
    rw [List.length_map, ll, mln] at zl
    obtain ⟨G11, s11, S11, hz⟩ := Sep.keep S10
    have s911 := s10.trans s11
    have B11 := B10.same s11
    refine ⟨G11, _, b, LP2, o10, ps2, rfl, S11, B11, s911 _ _ hp9, ac9, by omega, fun LA2 ab2 o12 G12 H12 s12 ha2 al2 st2 B12 S12 => ?_⟩
    obtain ⟨dep2, hb2, hd2⟩ := st2.dp
    have s912 := s911.trans s12
    refine ⟨G12, _, LM, Z, LA2, LR2, ms, zs, ab2, rs2, 0, dep2, rfl, S12, ⟨s912 _ _ (s49 _ _ hm4), s12 _ _ hz, ha2, s912 _ _ (s9 _ _ hr8), by omega, by omega, by omega, by omega⟩, by omega, hb2, hd2, by omega, fun v2 t ix2 G13 H13 s13' hv2 gt2 S13 => ?_⟩
    have ov2 := gt2.ov (by rw [al2, pl9]; exact mk) (by omega) tz
    have em2 := gt2.rt
    refine ⟨sz, fun p np => ?_⟩
    obtain ⟨G14, s14, S14, h14⟩ := Sep.mk (o := .tup [v, v2]) S13 np
    have s714 := s8.trans (s9.trans (s912.trans (s13'.trans s14)))
    exact q p v v2 s t ms o12 G14 _ (s1.trans (s13.trans (s4.trans (s47.trans s714)))) h14 (dp_same s714 hv) (dp_same s14 hv2) ov1 ov2 mk (em1.trans em2.symm) (B12.same (s13'.trans s14)) S14

end
end K11
set_option Elab.async false
set_option linter.all false
set_option maxRecDepth 100000
set_option maxHeartbeats 4000000
namespace K11
open PySem PySem.Spec PyProof.Rows L2 XL
/-! ### the way from a page to itself -/
theorem putsI_nil {m : Str} {ks : List Tr} (nd : (ks.map mrk).Nodup) : ∀ (i : Nat) (ds : List Tr), (∀ d ∈ ds, d ∈ ks) → putsI m ks i ds = []
  | _, [], _ => rfl
  | i, d :: r, h => by
    rw [putsI, fndT_in nd (h d List.mem_cons_self)]
    simp only [Option.isSome, if_true, List.nil_append]
    exact putsI_nil nd (i + 1) r fun x hx => h x (List.mem_cons_of_mem _ hx)
theorem ndRows_self {t : Tr} (nd : ((pre t).map mrk).Nodup) : ndRows t t = [] := by
  unfold ndRows
  rw [if_pos rfl, putsI_nil (kids_ndM nd) 0 _ (fun d hd => hd)]
  have : movesK (nowK (kids t) (kids t)) (wanK (kids t) (kids t)) = [] := if_pos rfl
  rw [this]
  rfl
mutual
theorem drl_self : ∀ t : Tr, ((pre t).map mrk).Nodup → drl t t = []
  | .node m l ks, nd => by
    rw [drl]
    exact drls_self ks ks (kids_ndM nd) (fun c hc => hc) fun c hc => kid_ndM nd hc
theorem drls_self : ∀ ks ds : List Tr, (ds.map mrk).Nodup → (∀ c ∈ ks, c ∈ ds) → (∀ c ∈ ks, ((pre c).map mrk).Nodup) → drls ks ds = []
  | [], _, _, _, _ => by rw [drls]
  | c :: r, ds, nd, hs, hn => by
    rw [drls, fndT_in nd (hs c List.mem_cons_self)]
    show drl c c ++ drls r ds = []
    rw [drl_self c (hn c List.mem_cons_self), drls_self r ds nd (fun x hx => hs x (List.mem_cons_of_mem _ hx)) (fun x hx => hn x (List.mem_cons_of_mem _ hx))]
    rfl
end
mutual
theorem rwl_self : ∀ t : Tr, ((pre t).map mrk).Nodup → rwl t t = []
  | .node m l ks, nd => by
    rw [rwl, ndRows_self nd]
    exact rwls_self ks ks (kids_ndM nd) (fun c hc => hc) fun c hc => kid_ndM nd hc
theorem rwls_self : ∀ ks ds : List Tr, (ds.map mrk).Nodup → (∀ c ∈ ks, c ∈ ds) → (∀ c ∈ ks, ((pre c).map mrk).Nodup) → rwls ks ds = []
  | [], _, _, _, _ => by rw [rwls]
  | c :: r, ds, nd, hs, hn => by
    rw [rwls, fndT_in nd (hs c List.mem_cons_self)]
    show rwl c c ++ rwls r ds = []
    rw [rwl_self c (hn c List.mem_cons_self), rwls_self r ds nd (fun x hx => hs x (List.mem_cons_of_mem _ hx)) (fun x hx => hn x (List.mem_cons_of_mem _ hx))]
    rfl
end
theorem btw_self {t : Tr} (nd : ((pre t).map mrk).Nodup) : btw t t = [] := by
  unfold btw
  rw [drl_self t nd, rwl_self t nd]
  rfl

section
variable {P : Program} {w : World} {K : PySem.W.Frag} {mg : Str → Option Value} {base : Heap}
end
end K11
set_option Elab.async false
set_option linter.all false
set_option maxRecDepth 100000
set_option maxHeartbeats 4000000
namespace K11
open PySem PySem.Spec PyProof.Rows L2 XL
section
variable {P : Program} {w : World} {K : PySem.W.Frag} {mg : Str → Option Value} {base : Heap}
def spLaw (K : PySem.W.Frag) : Sp := fun vs H Q _ => ∃ (a : Addr) (ns : List Int), vs = [.ref a] ∧ SqL K H a (ns.map V.int) ∧ ns.length ≤ 63 ∧ ∀ H', Q (.bl true) H'
theorem gt_no {t : Tr} {m : Str} {A : Prop} (g : Gt t) (e : tw [] ((pre t).map mrk) = some m) : A := by
  rw [tw_nd.mpr g.nd] at e
  exact nomatch e
theorem tstr_fit {zs : List Str} (h : ∀ z ∈ zs, Tx 1 60 z) : (PyData.tuple (zs.map PyData.str)).canLay0 = true ∧ (PyData.tuple (zs.map PyData.str)).depth ≤ 190 := by
  refine ⟨?_, ?_⟩
  · simp only [PyData.canLay0]
    exact layAll fun d hd => by
      obtain ⟨z, hz, rfl⟩ := List.mem_map.mp hd
      exact tx_lay (h z hz)
  · have := depthAll_le (n := 1) (xs := zs.map PyData.str) fun d hd => by
      obtain ⟨z, hz, rfl⟩ := List.mem_map.mp hd
      simp only [PyData.depth]
      omega
    simp only [PyData.depth]
    omega
def th (s t t' : Tr) (i : Nat) : Tr := match i with
  | 1 => t
  | 3 => t'
  | _ => s
/-- the pages and the trees, by their places -/
structure Pgs (K : PySem.W.Frag) (C : Addr) (G : Hp) (LT D : Addr) (s t t' : Tr) : Prop where
  ex : ∃ (us : List V) (xs : List Addr), G LT = some (.lst us) ∧ G D = some (.lst (xs.map V.ref)) ∧ DpAll K G us ([s, t, s, t'].map toD) ∧ xs.length = 4 ∧ ∀ i, i < 4 → ∃ x v, xs[i]? = some x ∧ us[i]? = some v ∧ PgAt K C G x (th s t t' i) ∧ Dp K G v (toD (th s t t' i))
theorem Pgs.same {K : PySem.W.Frag} {C : Addr} {G G' : Hp} {LT D : Addr} {s t t' : Tr} (e : Same G G') (h : Pgs K C G LT D s t t') : Pgs K C G' LT D s t t' := by
  obtain ⟨us, xs, h1, h2, h3, h4, h5⟩ := h.ex
  refine ⟨us, xs, e _ _ h1, e _ _ h2, dpa_same e h3, h4, fun i hi => ?_⟩
  obtain ⟨x, v, k1, k2, k3, k4⟩ := h5 i hi
  exact ⟨x, v, k1, k2, k3.same e, dp_same e k4⟩
/-- page i and tree i -/
theorem Pgs.at {K : PySem.W.Frag} {C : Addr} {G : Hp} {LT D : Addr} {s t t' : Tr} (h : Pgs K C G LT D s t t') {i : Nat} (hi : i < 4) : ∃ (us vs : List V) (x a : Addr), G LT = some (.lst us) ∧ G D = some (.lst vs) ∧ vs[i]? = some (.ref x) ∧ us[i]? = some (.ref a) ∧ PgAt K C G x (th s t t' i) ∧ Dp K G (.ref a) (toD (th s t t' i)) := by
  obtain ⟨us, xs, h1, h2, h3, h4, h5⟩ := h.ex
  obtain ⟨x, v, k1, k2, k3, k4⟩ := h5 i hi
  obtain ⟨a, _, _, rfl, _⟩ := id (node_at k4)
  exact ⟨us, _, x, a, h1, h2, by rw [List.getElem?_map, k1]; rfl, k2, k3, k4⟩
theorem ok_law (T : Top K mg w) {k : Nat} (G_bag : FnOk P w K mg base CX0 k T.a_bag T.d_bag ["_law_script"] (spBag K)) (G_pick : FnOk P w K mg base CX0 k T.a_pick T.d_pick ["_law_bag_here", "_law_many"] spPick) (G_pair : FnOk P w K mg base CX0 k T.a_pair T.d_pair ["_law_bag_here", "_law_many"] (spPair11 K))
    (G_Page_init : FnOk P w K mg base (L2.CX P w) k T.a_Page_init T.d_Page_init ["self", "root"] (spPage K T.C_Page T.C_TwiceMarked T.C_TooMany)) (G_staying : FnOk P w K mg base CX0 k T.a_staying T.d_staying ["old", "new"] (spStay K T.C_Page)) (G_stays : FnOk P w K mg base CX0 k T.a_stays T.d_stays ["_law_old", "_law_new"] (spLStays K))
    (G_between : FnOk P w K mg base CX0 k T.a_between T.d_between ["old", "new"] (spBtw K T.C_Page T.C_Patches)) (G_Patches_page : FnOk P w K mg base CX0 k T.a_Patches_page T.d_Patches_page ["self"] (spPtPg K T.C_Patches T.C_Page false)) (G_Patches_end : FnOk P w K mg base CX0 k T.a_Patches_end T.d_Patches_end ["self"] (spPtPg K T.C_Patches T.C_Page true))
    (G_Patches_iter : FnY P w K mg base CX0 k T.a_Patches_iter T.d_Patches_iter ["self"] (spPtIt K T.C_Patches T.C_Page)) (G_Page_top : FnOk P w K mg base CX0 k T.a_Page_top T.d_Page_top ["self"] (spTop K T.C_Page)) (G_Page_iter : FnY P w K mg base CX0 k T.a_Page_iter T.d_Page_iter ["self"] (spPgIter K T.C_Page))
    (G_leads : FnOk P w K mg base CX0 k T.a_leads T.d_leads ["_law_old", "_law_new", "_law_rows"] (spLeads K)) (G_refused : FnOk P w K mg base CX0 k T.a_refused T.d_refused ["_law_old", "_law_new", "_law_way"] (spRef11 K T.C_Page)) (G_marked : FnOk P w K mg base CX0 k T.a_marked T.d_marked ["_law_root"] (spMarked K)) :
    FnOk P w K mg base CX0 (k + 3) T.a_law T.d_law ["_law_script"] (spLaw K) := by
  refine T.F_law.ok sc_law (fun vs H Q E h => ?_) (fun cdv A outer s0 H vs Q E hr h => ?_)
  · obtain ⟨a, ns, rfl, _⟩ := h
    rfl
  · obtain ⟨a, ns, rfl, h1, hl, q⟩ := h
    refine ⟨_, (pss_cons (ps_set (i := 1) sc_law.nd rfl (.inl rfl) (pe_call G_bag (hr.mono (by omega)) (by rfl) T.g_bag T.F_bag.kp T.b_bag .nil pass0 (pa_cons (xv 0) pa_nil)))
      (pss_cons (ps_set (i := 2) sc_law.nd rfl (.inl rfl) (pe_op op_addY pe_int (pe_call G_pick (hr.mono (by omega)) (by rfl) T.g_pick T.F_pick.kp T.b_pick .nil pass0 (pa_cons (xv 1) (pa_cons pe_int pa_nil)))))
      (xss_cut (xs_if (xt_cmp (op_eqLK K hr.u190) (pe_call G_pick (hr.mono (by omega)) (by rfl) T.g_pick T.F_pick.kp T.b_pick .nil pass0 (pa_cons (xv 1) (pa_cons pe_int pa_nil))) pe_int (nomark _))
      (pss_one (ps_set (i := 2) sc_law.nd rfl (.inl rfl) (pe_op op_addY (xv 2) pe_int)))
      pss_nil)
      (pss_cons (ps_asg (pe_call G_pair (hr.mono (by omega)) (by rfl) T.g_pair T.F_pair.kp T.b_pair .nil pass0 (pa_cons (xv 1) (pa_cons (xv 2) pa_nil))) (pg_tupK K 2 (pgs_cons (pg_name (i := 3) sc_law.nd rfl (.inl rfl)) (pgs_cons (pg_name (i := 4) sc_law.nd rfl (.inl rfl)) pgs_nil))))
      (pss_cons (ps_set (i := 5) sc_law.nd rfl (.inl rfl) (pe_lst (pa_cons (xv 3) (pa_cons (xv 4) (pa_cons (xv 3) (pa_cons (pe_tup (pa_cons (pe_op op_addY (pe_ix (ix_k K) (xv 4) pe_int (fun _ _ => rfl)) pe_str) (pa_cons (pe_ix (ix_k K) (xv 4) pe_int (fun _ _ => rfl)) (pa_cons (pe_ix (ix_k K) (xv 4) pe_int (fun _ _ => rfl)) pa_nil)))) pa_nil))))))
      (pss_cons (ps_setLc (i := 6) (own := [("_law_tree", 10)]) (by rfl) sc_law.nd rfl rfl (sw_true rfl rfl rfl (by decide +kernel)) (pi_listK K (xv 5)) (blkOk_by (N := ["_law_script", "_law_bag_here", "_law_many", "_law_old", "_law_new", "_law_trees", "_law_pages", "_law_i", "_law_j", "_law_row", "_law_tree", "_law_page"]) (sc := defScope s_law) (by decide +kernel)) (fun _ _ _ _ _ => (pg_name (i := 10) sc_law.nd rfl (.inl rfl))) (fun _ _ _ _ _ => pts_nil) (fun _ _ _ _ _ => (pe_make T.mk_Page G_Page_init (hr.mono (by omega)) (by rfl) T.g_Page T.b_Page_init .nil passL (pa_cons (xv 10) pa_nil))))
      (pss_cons (ps_for PassesOwn.never rfl (pi_listK K (pe_lst (pa_cons (pe_tup (pa_cons pe_int (pa_cons pe_int pa_nil))) (pa_cons (pe_tup (pa_cons pe_int (pa_cons pe_int pa_nil))) (pa_cons (pe_tup (pa_cons pe_int (pa_cons pe_int pa_nil))) (pa_cons (pe_tup (pa_cons pe_int (pa_cons pe_int pa_nil))) (pa_cons (pe_tup (pa_cons pe_int (pa_cons pe_int pa_nil))) pa_nil))))))) (pg_tupK K 2 (pgs_cons (pg_name (i := 7) sc_law.nd rfl (.inl rfl)) (pgs_cons (pg_name (i := 8) sc_law.nd rfl (.inl rfl)) pgs_nil)))
      (pss_cons (xs_if (xt_cmp (op_neLK K hr.u190) (pe_call G_staying (hr.mono (by omega)) (by rfl) T.g_staying T.F_staying.kp T.b_staying .nil pass0 (pa_cons (pe_ix (ix_k K) (xv 6) (xv 7) (fun _ _ => rfl)) (pa_cons (pe_ix (ix_k K) (xv 6) (xv 8) (fun _ _ => rfl)) pa_nil))) (pe_callTy (call_tupleK K) (by rfl) T.m_tuple (by decide +kernel) (pa_cons (pe_call G_stays (hr.mono (by omega)) (by rfl) T.g_stays T.F_stays.kp T.b_stays .nil pass0 (pa_cons (pe_ix (ix_k K) (xv 5) (xv 7) (fun _ _ => rfl)) (pa_cons (pe_ix (ix_k K) (xv 5) (xv 8) (fun _ _ => rfl)) pa_nil))) pa_nil)) (nomark _))
      (pss_one (ps_ret pe_bl))
      pss_nil)
      (pss_cons (ps_set (i := 9) sc_law.nd rfl (.inl rfl) (pe_call G_between (hr.mono (by omega)) (by rfl) T.g_between T.F_between.kp T.b_between .nil pass0 (pa_cons (pe_ix (ix_k K) (xv 6) (xv 7) (fun _ _ => rfl)) (pa_cons (pe_ix (ix_k K) (xv 6) (xv 8) (fun _ _ => rfl)) pa_nil))))
      (pss_cons (xs_if (PW.pt (xw_or (xt_cmp (op_neLK K hr.u190) (pe_prop (pe_prop (xv 9) T.cl_Patches T.pr_Patches_page G_Patches_page (hr.mono (by omega)) T.b_Patches_page .nil pass0 rfl) T.cl_Page T.pr_Page_top G_Page_top (hr.mono (by omega)) T.b_Page_top .nil pass0 rfl) (pe_ix (ix_k K) (xv 5) (xv 7) (fun _ _ => rfl)) (nomark _)) (pw_or1 (xt_cmp (op_neLK K hr.u190) (pe_prop (pe_prop (xv 9) T.cl_Patches T.pr_Patches_end G_Patches_end (hr.mono (by omega)) T.b_Patches_end .nil pass0 rfl) T.cl_Page T.pr_Page_top G_Page_top (hr.mono (by omega)) T.b_Page_top .nil pass0 rfl) (pe_ix (ix_k K) (xv 5) (xv 8) (fun _ _ => rfl)) (nomark _)))))
      (pss_one (ps_ret pe_bl))
      pss_nil)
      (pss_one (xs_if (PW.pt (xw_or (pt_not (xt_truK K (pe_call G_leads (hr.mono (by omega)) (by rfl) T.g_leads T.F_leads.kp T.b_leads .nil pass0 (pa_cons (pe_ix (ix_k K) (xv 5) (xv 7) (fun _ _ => rfl)) (pa_cons (pe_ix (ix_k K) (xv 5) (xv 8) (fun _ _ => rfl)) (pa_cons (pe_callTy (call_listItL T.sp_Patches_iter.1 T.sp_Patches_iter.2 T.nl_Patches T.nh_Patches G_Patches_iter T.b_Patches_iter pass0 (hr.mono (by omega))) (by rfl) T.m_list (by decide +kernel) (pa_cons (xv 9) pa_nil)) pa_nil)))))) (pw_or1 (PW.pt (xw_and (xt_cmp (op_eqLK K hr.u190) (pe_ix (ix_k K) (xv 5) (xv 7) (fun _ _ => rfl)) (pe_ix (ix_k K) (xv 5) (xv 8) (fun _ _ => rfl)) (nomark _)) (pw_and1 (xt_cmp (op_neLK K hr.u190) (pe_callTy (call_listItL T.sp_Patches_iter.1 T.sp_Patches_iter.2 T.nl_Patches T.nh_Patches G_Patches_iter T.b_Patches_iter pass0 (hr.mono (by omega))) (by rfl) T.m_list (by decide +kernel) (pa_cons (xv 9) pa_nil)) (pe_lst pa_nil) (nomark _))))))))
      (pss_one (ps_ret pe_bl))
      pss_nil))))))
      (pss_cons (ps_for PassesOwn.never rfl (pi_listK K (pe_lst (pa_cons (pe_tup (pa_cons pe_int (pa_cons pe_int pa_nil))) (pa_cons (pe_tup (pa_cons pe_int (pa_cons pe_int pa_nil))) (pa_cons (pe_tup (pa_cons pe_int (pa_cons pe_int pa_nil))) (pa_cons (pe_tup (pa_cons pe_int (pa_cons pe_int pa_nil))) pa_nil)))))) (pg_tupK K 2 (pgs_cons (pg_name (i := 7) sc_law.nd rfl (.inl rfl)) (pgs_cons (pg_name (i := 8) sc_law.nd rfl (.inl rfl)) pgs_nil)))
      (pss_one (xs_if (PW.pt (xw_or (pt_not (xt_truK K (pe_call G_refused (hr.mono (by omega)) (by rfl) T.g_refused T.F_refused.kp T.b_refused .nil pass0 (pa_cons (pe_ix (ix_k K) (xv 6) (xv 7) (fun _ _ => rfl)) (pa_cons (pe_ix (ix_k K) (xv 6) (xv 8) (fun _ _ => rfl)) (pa_cons pe_int pa_nil)))))) (pw_or1 (pt_not (xt_truK K (pe_call G_refused (hr.mono (by omega)) (by rfl) T.g_refused T.F_refused.kp T.b_refused .nil pass0 (pa_cons (pe_ix (ix_k K) (xv 6) (xv 7) (fun _ _ => rfl)) (pa_cons (pe_ix (ix_k K) (xv 6) (xv 8) (fun _ _ => rfl)) (pa_cons pe_int pa_nil)))))))))
      (pss_one (ps_ret pe_bl))
      pss_nil)))
      (pss_one (ps_ret (xe_and (pe_cmpR (op_eqLK K hr.u190) (pe_lc (own := [("_law_page", 11)]) (by rfl) sc_law.nd (pi_listK K (xv 6)) (blkOk_by (N := ["_law_script", "_law_bag_here", "_law_many", "_law_old", "_law_new", "_law_trees", "_law_pages", "_law_i", "_law_j", "_law_row", "_law_tree", "_law_page"]) (sc := defScope s_law) (by decide +kernel)) (fun _ _ _ _ _ => (pg_name (i := 11) sc_law.nd rfl (.inl rfl))) (fun _ _ _ _ _ => pts_nil) (fun _ _ _ _ _ => (pe_prop (xv 11) T.cl_Page T.pr_Page_top G_Page_top (hr.mono (by omega)) T.b_Page_top .nil pass0 rfl))) (xv 5) (nomark _)) (pe_one (pe_cmpR (op_eqLK K hr.u190) (pe_callTy (call_listItL T.sp_Page_iter.1 T.sp_Page_iter.2 T.nl_Page T.nh_Page G_Page_iter T.b_Page_iter pass0 (hr.mono (by omega))) (by rfl) T.m_list (by decide +kernel) (pa_cons (pe_ix (ix_k K) (xv 6) pe_int (fun _ _ => rfl)) pa_nil)) (pe_call G_marked (hr.mono (by omega)) (by rfl) T.g_marked T.F_marked.kp T.b_marked .nil pass0 (pa_cons (xv 3) pa_nil)) (nomark _)))))))))))))), ?_⟩
    have S0 : Sep H [] H := sep0
    refine ⟨H, [], a, ns, rfl, S0, h1, hl, fun b o G1 H1 s1 B1 S1 => ?_⟩
    refine ⟨G1, _, b, o, 11, rfl, S1, B1, by decide, by decide, fun r o2 H2 r0 r1 B2 S2 => ?_⟩
    obtain ⟨c0, rfl⟩ := Int.eq_ofNat_of_zero_le r0
    refine ⟨fun σ H' => ∃ (m : Nat) (o' : HO), σ = [some (.ref a), some (.ref b), some (.int (m : Nat)), none, none, none, none, none, none, none, none, none] ∧ 1 ≤ m ∧ m ≤ 32 ∧ Bag G1 o' ∧ Sep G1 [(b, o')] H', ?_, fun σ H3 hj => ?_⟩
    · refine ⟨G1, _, b, o2, 10, rfl, S2, B2, by decide, by decide, fun r3 o3 H3 r30 r31 B3 S3 => ⟨fun e => ?_, fun e => ?_⟩⟩
      · exact ⟨1 + c0 + 20, o3, by rw [show (((1 + c0 + 20 : Nat)) : Int) = 1 + (c0 : Nat) + 20 by omega]; rfl, by omega, by omega, B3, S3⟩
      · exact ⟨1 + c0, o3, by rw [show (((1 + c0 : Nat)) : Int) = 1 + (c0 : Nat) by omega]; rfl, by omega, by omega, B3, S3⟩
    obtain ⟨m, o3, rfl, m1, m2, B3, S3⟩ := hj
    refine ⟨G1, [], b, o3, m, rfl, S3, B3, m1, m2, fun p u v s t ms o5 G5 H5 s5 hp hu hv os ot mk em B5 S5 => ?_⟩
    have S5 := S5.drop
    have mln := mk.ln
    have gs : Gt s := os.gt (by omega)
    have gt : Gt t := ot.gt (by omega)
    refine ⟨p, _, rfl, SqT.of (S5.st hp), rfl, _, _, rfl, _, _, rfl, rfl, ?_⟩
    obtain ⟨av, kv, kus, rfl, ha, hkv, hkus⟩ := id (node_at hv)
    have mt : mrk t ∈ ms := (ot.ok (mrk t, lbl t) (List.mem_map_of_mem (f := fun p => (mrk p, lbl p)) (self_pre t))).1
    have txm := mk.tx _ mt
    have hi := txm.hi
    refine ⟨_, _, .inr (S5.t ha), atI_nat (j := 0) rfl, small (by rw [show Str.length ("=" : Str) = 1 by decide +kernel]; omega), fun r er => ?_⟩
    subst er
    refine ⟨_, _, .inr (S5.t ha), atI_nat (j := 1) rfl, _, _, .inr (S5.t ha), atI_nat (j := 2) rfl, XL.sz, fun p3 np3 => ?_⟩
    obtain ⟨G6, s6, S6, h6⟩ := Sep.mk (o := .tup [.str (mrk t ++ "="), .str (lbl t), .ref kv]) S5 np3
    refine ⟨XL.sz, fun LT nLT => ?_⟩
    obtain ⟨G7, s7, S7, h7⟩ := Sep.mk (o := .lst [u, .ref av, u, .ref p3]) S6 nLT
    have s57 := s6.trans s7
    let t' : Tr := .node (mrk t ++ "=") (lbl t) (kids t)
    have hmk := mk.eq _ mt
    have eml : ml t = (mrk t, lbl t) :: mls (kids t) := by cases t; rfl
    have o3 : Ov ((mrk t ++ "=") :: ms) (ml t') := by
      have h := ot
      rw [eml] at h
      have hnd := h.nd
      rw [List.map_cons, List.nodup_cons] at hnd
      refine ⟨?_, fun z hz => ?_⟩
      · show ((mrk t ++ "=") :: (mls (kids t)).map (·.1)).Nodup
        refine List.nodup_cons.mpr ⟨fun hm => ?_, hnd.2⟩
        obtain ⟨z, hz, e⟩ := List.mem_map.mp hm
        exact hmk (by rw [← e]; exact (h.ok z (List.mem_cons_of_mem _ hz)).1)
      · rcases List.mem_cons.mp (show z ∈ (mrk t ++ "=", lbl t) :: mls (kids t) from hz) with rfl | hz
        · exact ⟨List.mem_cons_self, (txm.app (Tx.lit (a := 1) (b := 1) "=" (by decide +kernel))).wide (by decide) (by decide), (h.ok _ List.mem_cons_self).2.2⟩
        · have := h.ok z (List.mem_cons_of_mem _ hz)
          exact ⟨List.mem_cons_of_mem _ this.1, this.2⟩
    have gt3 : Gt t' := o3.gt (by rw [List.length_cons]; omega)
    have dp3 : Dp K G7 (.ref p3) (toD t') := by
      have e : toD t' = .tuple [.str (mrk t ++ "="), .str (lbl t), .tuple ((kids t).map toD)] := by
        show toD (.node _ _ _) = _
        simp only [toD, toDs_eq]
      rw [e]
      exact .tup (SqT.of (s7 _ _ h6)) (.cons (.str _) (.cons (.str _) (.cons (.tup (same_t s57 hkv) (dpa_same s57 hkus)) .nil)))
    have hT : DpAll K G7 [u, .ref av, u, .ref p3] ([s, t, s, t'].map toD) := .cons (dp_same s57 hu) (.cons (dp_same s57 hv) (.cons (dp_same s57 hu) (.cons dp3 .nil)))
    have gts : ∀ x ∈ [s, t, s, t'], Gt x := fun x hx => by
      simp only [List.mem_cons, List.not_mem_nil, or_false] at hx
      rcases hx with rfl | rfl | rfl | rfl
      · exact gs
      · exact gt
      · exact gs
      · exact gt3
    generalize eus : [u, .ref av, u, .ref p3] = us at *
    refine ⟨LT, rfl, ⟨_, SqL.of (S7.st h7)⟩, fun D nD => lc_at (xs := us) (fun i H' => ∃ (xs : List Addr) (G' : Hp), Same G7 G' ∧ xs.length = i ∧ Paired (fun x t => PgAt K T.C_Page G' x t) xs ([s, t, s, t'].take i) ∧ Sep G' [(D, .lst (xs.map V.ref))] H') ⟨[], G7, Same.refl _, rfl, .nil, S7.new nD⟩ (fun i H' h => ?_) (fun _ => rfl) (fun i y H' hy h => ?_) (fun H8 h => ?_)⟩
    · obtain ⟨_, _, s', _, _, S'⟩ := h
      exact SqL.of (S'.st (s' _ _ h7))
    · obtain ⟨xs, G', s', xl, px, S'⟩ := h
      obtain ⟨d, hd, hyd⟩ := dpa_get hT hy
      rw [List.getElem?_map] at hd
      obtain ⟨x0, hx0, rfl⟩ := Option.map_eq_some_iff.mp hd
      have g0 := gts x0 (List.mem_of_getElem? hx0)
      have il := (List.getElem?_eq_some_iff.mp hx0).1
      refine fun pg dx nx ndx ne => ⟨G', _, pg, dx, y, x0, rfl, S'.new2 nx ndx ne, dp_same s' hyd, by have := g0.ln; omega, fun p hp => (g0.ok.tx p hp).1, fun _ _ G9 H9 s9 pga S9 => ⟨rfl, ?_⟩, fun m e => gt_no g0 e, fun _ l => by have := g0.ln; omega⟩
      have S9 := S9.drop
      refine ⟨_, S9.hd, by rw [List.length_map, xl]; exact smallL (by simp only [List.length_cons, List.length_nil] at il; omega), xs ++ [pg], G9, s'.trans s9, by rw [List.length_append, xl]; rfl, ?_, ?_⟩
      · rw [take_snoc hx0]
        exact prd_app (prd_imp (fun _ _ h => h.same s9) px) (.cons pga .nil)
      · rw [List.map_append]
        exact S9.set
    obtain ⟨xs, G8, s8, xl, px, S8⟩ := h
    have usl : us.length = 4 := by rw [← eus]; rfl
    rw [usl] at xl px
    obtain ⟨G9, s9, S9, hD⟩ := Sep.keep S8
    have s79 := s8.trans s9
    have pgs : Pgs K T.C_Page G9 LT D s t t' := by
      refine ⟨us, xs, s79 _ _ h7, hD, dpa_same s79 hT, xl, fun i hi => ?_⟩
      obtain ⟨x, hx⟩ : ∃ x, xs[i]? = some x := ⟨_, List.getElem?_eq_getElem (by omega)⟩
      obtain ⟨v, hv2⟩ : ∃ v, us[i]? = some v := ⟨_, List.getElem?_eq_getElem (by omega)⟩
      obtain ⟨x0, hx0, pg0⟩ := prd_get px hx
      obtain ⟨d, hd, hvd⟩ := dpa_get hT hv2
      have e0 : x0 = th s t t' i ∧ d = toD (th s t t' i) := by
        match i, hi with
        | 0, _ => exact ⟨(Option.some.inj hx0).symm, (Option.some.inj hd).symm⟩
        | 1, _ => exact ⟨(Option.some.inj hx0).symm, (Option.some.inj hd).symm⟩
        | 2, _ => exact ⟨(Option.some.inj hx0).symm, (Option.some.inj hd).symm⟩
        | 3, _ => exact ⟨(Option.some.inj hx0).symm, (Option.some.inj hd).symm⟩
      obtain ⟨rfl, rfl⟩ := e0
      exact ⟨x, v, hx, hv2, pg0.same s9, dp_same s79 hvd⟩
    have lo : ∀ i, i < 3 → Ov ms (ml (th s t t' i)) ∧ mrk (th s t t' i) = mrk s := fun i hi => by
      match i, hi with
      | 0, _ => exact ⟨os, rfl⟩
      | 1, _ => exact ⟨ot, em.symm⟩
      | 2, _ => exact ⟨os, rfl⟩
    refine ⟨XL.sz, fun q0 nq0 => ?_⟩
    obtain ⟨Ga, sa, Sa, ha0⟩ := Sep.mk (o := .tup [nv 0, nv 1]) S9 nq0
    refine ⟨XL.sz, fun q1 nq1 => ?_⟩
    obtain ⟨Gb, sb, Sb, hb0⟩ := Sep.mk (o := .tup [nv 1, nv 0]) Sa nq1
    refine ⟨XL.sz, fun q2 nq2 => ?_⟩
    obtain ⟨Gc, sc, Sc, hc0⟩ := Sep.mk (o := .tup [nv 0, nv 2]) Sb nq2
    refine ⟨XL.sz, fun q3 nq3 => ?_⟩
    obtain ⟨Gd, sd, Sd, hd0⟩ := Sep.mk (o := .tup [nv 1, nv 1]) Sc nq3
    refine ⟨XL.sz, fun q4 nq4 => ?_⟩
    obtain ⟨Ge, se, Se, he0⟩ := Sep.mk (o := .tup [nv 0, nv 1]) Sd nq4
    refine ⟨XL.sz, fun L5 nL5 => ?_⟩
    obtain ⟨Gf, sf, Sf, hf0⟩ := Sep.mk (o := .lst [.ref q0, .ref q1, .ref q2, .ref q3, .ref q4]) Se nL5
    have p5 : Paired (fun (v : V) (p : Nat × Nat) => ∃ a, v = .ref a ∧ Gf a = some (.tup [nv p.1, nv p.2])) [.ref q0, .ref q1, .ref q2, .ref q3, .ref q4] [(0, 1), (1, 0), (0, 2), (1, 1), (0, 1)] :=
      .cons ⟨q0, rfl, (sb.trans (sc.trans (sd.trans (se.trans sf)))) _ _ ha0⟩ (.cons ⟨q1, rfl, (sc.trans (sd.trans (se.trans sf))) _ _ hb0⟩ (.cons ⟨q2, rfl, (sd.trans (se.trans sf)) _ _ hc0⟩ (.cons ⟨q3, rfl, (se.trans sf) _ _ hd0⟩ (.cons ⟨q4, rfl, sf _ _ he0⟩ .nil))))
    have s9f := sa.trans (sb.trans (sc.trans (sd.trans (se.trans sf))))
    have pgf := pgs.same s9f
    have b5 : ∀ p ∈ ([(0, 1), (1, 0), (0, 2), (1, 1), (0, 1)] : List (Nat × Nat)), p.1 < 3 ∧ p.2 < 3 := by decide
    generalize [(0, 1), (1, 0), (0, 2), (1, 1), (0, 1)] = pr at p5 b5
    generalize [V.ref q0, .ref q1, .ref q2, .ref q3, .ref q4] = qs at *
    refine ⟨L5, rfl, ⟨_, SqL.of (Sf.st hf0)⟩, for_list (xs := qs) (fun i σ H' => ∃ (y7 y8 y9 : Option V) (G' : Hp), σ = [some (.ref a), some (.ref b), some (.int (m : Nat)), some u, some (.ref av), some (.ref LT), some (.ref D), y7, y8, y9, none, none] ∧ Same Gf G' ∧ Sep G' [] H') ⟨_, _, _, Gf, rfl, Same.refl _, Sf⟩ (fun i σ H' _ h => ?_) (fun i x σ H' hx h => ?_) (fun σ H' h => ?_)⟩
    · obtain ⟨_, _, _, _, _, s', S'⟩ := h
      exact SqL.of (S'.st (s' _ _ hf0))
    · obtain ⟨y7, y8, y9, G', rfl, s', S'⟩ := h
      obtain ⟨⟨i1, i2⟩, hp1, qa, rfl, hqa⟩ := prd_get p5 hx
      obtain ⟨l1, l2⟩ := b5 _ (List.mem_of_getElem? hp1)
      have l1 : i1 < 3 := l1
      have l2 : i2 < 3 := l2
      have hqa : Gf qa = some (.tup [nv i1, nv i2]) := hqa
      refine ⟨qa, _, rfl, SqT.of (S'.st (s' _ _ hqa)), rfl, _, _, rfl, _, _, rfl, rfl, ?_⟩
      have pg0 := pgf.same s'
      obtain ⟨us1, vs1, x1, a1, hLT, hDD, gx1, ga1, pga1, ht1⟩ := pg0.at (i := i1) (by omega)
      obtain ⟨us2, vs2, x2, a2, hLT2, hDD2, gx2, ga2, pga2, ht2⟩ := pg0.at (i := i2) (by omega)
      obtain rfl : us1 = us2 := HO.lst.inj (Option.some.inj (hLT.symm.trans hLT2))
      obtain rfl : vs1 = vs2 := HO.lst.inj (Option.some.inj (hDD.symm.trans hDD2))
      obtain ⟨ov1, em1⟩ := lo i1 l1
      obtain ⟨ov2, em2⟩ := lo i2 l2
      generalize th s t t' i1 = p at *
      generalize th s t t' i2 = r at *
      have emm : mrk p = mrk r := em1.trans em2.symm
      have gp : Gt p := ov1.gt (by omega)
      have gr : Gt r := ov2.gt (by omega)
      have ixD1 := fun {G2 : Hp} {H2 : Hp} (e : Same G' G2) (S : Sep G2 [] H2) => SqL.of (K := K) (S.st (e _ _ hDD))
      have ixT1 := fun {G2 : Hp} {H2 : Hp} (e : Same G' G2) (S : Sep G2 [] H2) => SqL.of (K := K) (S.st (e _ _ hLT))
      refine ⟨_, _, .inl (ixD1 (Same.refl _) S'), atI_nat gx1, _, _, .inl (ixD1 (Same.refl _) S'), atI_nat gx2, G', [], x1, x2, p, r, rfl, S', pga1, pga2, gp, gr, emm, fun ta G2 H2 s2 hta S2 => ?_⟩
      refine ⟨_, _, .inl (ixT1 s2 S2), atI_nat ga1, _, _, .inl (ixT1 s2 S2), atI_nat ga2, G2, [], _, _, p, r, rfl, S2, dp_same s2 ht1, dp_same s2 ht2, gp, gr, emm, fun tl G3 H3 s3 htl S3 => ?_⟩
      refine ⟨tl, _, rfl, .inl ⟨SqL.of (S3.st htl), fun tt2 ntt => ?_⟩⟩
      obtain ⟨G4, s4, S4, h4⟩ := Sep.mk (o := .tup ((stl p r).map V.str)) S3 ntt
      have s24 := s2.trans (s3.trans s4)
      obtain ⟨fcl, fdp⟩ := tstr_fit (zs := stl p r) fun z hz => by
        have := stl_sub p r z hz
        obtain ⟨z2, hz2, rfl⟩ := List.mem_map.mp this
        exact (ov1.ok z2 hz2).2.1
      refine ⟨.tuple ((stl p r).map PyData.str), .tuple ((stl p r).map PyData.str), .tup (SqT.of (S4.st ((s3.trans s4) _ _ hta))) (strs_dp _), .tup (SqT.of (S4.st h4)) (strs_dp _), fcl, fcl, fdp, ?_⟩
      rw [SeqAt.eqv_refl _ fcl]
      refine ⟨ff, fun _ => ?_⟩
      -- between
      refine ⟨_, _, .inl (ixD1 s24 S4), atI_nat gx1, _, _, .inl (ixD1 s24 S4), atI_nat gx2, G4, [], x1, x2, p, r, ms, rfl, S4, pga1.same s24, pga2.same s24, ov1, ov2, by omega, emm, fun rw' G5 H5 s5 ptc S5 => ?_⟩
      have s25 := s24.trans s5
      obtain ⟨Ld1, run1⟩ := btw_leads (by omega) ov1 ov2 emm (npr_stl (t := r) gp.nd)
      have bl := btw_len gp.nd gr.nd emm
      obtain ⟨dx, _, _, _, _, _, _, _, z1, _⟩ := id ptc.ex
      refine ⟨rw', dx, _, rfl, S5.st z1, G5, rw', p, btw p r, rfl, S5.1, ptc, fun pg hpg => ?_⟩
      obtain ⟨pd, _, _, _, _, _, _, w1, _⟩ := id hpg.ex
      refine ⟨pg, pd, _, rfl, S5.st w1, G5, pg, p, rfl, S5.1, hpg, fun v2 hv2 => ?_⟩
      obtain ⟨b2, _, _, rfl, _⟩ := id (node_at hv2)
      refine ⟨_, _, .inl (ixT1 s25 S5), atI_nat ga1, ?_⟩
      have okp := ok_lay gp.ok
      have dpp := ok_dep gp.ok
      have okr := ok_lay gr.ok
      have dpr := ok_dep gr.ok
      refine ⟨toD p, toD p, dp_same S5.1 hv2, dp_same (s25.trans S5.1) ht1, okp, okp, by omega, ?_⟩
      rw [eqv_self gp.ok]
      refine ⟨ff, fun _ => ?_⟩
      refine ⟨rw', dx, _, rfl, S5.st z1, G5, rw', p, btw p r, rfl, S5.1, ptc, fun pg2 hpg2 => ?_⟩
      obtain ⟨pd2, _, _, _, _, _, _, w2, _⟩ := id hpg2.ex
      refine ⟨pg2, pd2, _, rfl, S5.st w2, G5, pg2, _, rfl, S5.1, hpg2, fun v3 hv3 => ?_⟩
      have hv3 : Dp K G5 v3 (toD r) := by
        rw [← run1]
        exact hv3
      obtain ⟨b3, _, _, rfl, _⟩ := id (node_at hv3)
      refine ⟨_, _, .inl (ixT1 s25 S5), atI_nat ga2, ?_⟩
      refine ⟨toD r, toD r, dp_same S5.1 hv3, dp_same (s25.trans S5.1) ht2, okr, okr, by omega, ?_⟩
      rw [eqv_self gr.ok]
      refine ⟨ff, fun _ => ?_⟩
      -- leads
      refine ⟨_, _, .inl (ixT1 s25 S5), atI_nat ga1, _, _, .inl (ixT1 s25 S5), atI_nat ga2, ?_⟩
      refine ⟨rw', dx, _, rfl, S5.st z1, fun L n nL => ⟨G5, rw', p, btw p r, rfl, (S5.new (o := .lst []) nL).1, ptc, fun it l2' us2 nit hn hl2 hus2 => ?_⟩⟩
      have SL := S5.new (o := .lst []) nL
      have SI := SL.new (o := ItO l2' it 0) nit
      have SI2 := (SI.set (o' := ItTE it)).sw.set (o' := .lst us2)
      refine ⟨it, l2', us2, rfl, upd_same, fun e => ?_, fun e => ?_, SI.st hl2, SI.sw.hd, ⟨_, _, SI.st z1⟩, ?_⟩
      · subst e
        have := SL.st hl2
        rw [nit] at this
        cases this
      · subst e
        have := S5.st hl2
        rw [nL] at this
        cases this
      obtain ⟨G6, s6', S6', hL⟩ := Sep.keep SI2
      have S6' := S6'.drop
      have s26 := s25.trans s6'
      refine ⟨G6, [], _, _, L, us2, p, r, btw p r, rfl, S6', dp_same s26 ht1, dp_same s26 ht2, hL, dpa_same s6' hus2, gp, gr, emm, Ld1, run1, fun G7 H7 s7' S7' => ?_⟩
      have s27 := s26.trans s7'
      refine ⟨ff, fun _ => ?_⟩
      refine ⟨_, _, .inl (ixT1 s27 S7'), atI_nat ga1, _, _, .inl (ixT1 s27 S7'), atI_nat ga2, ?_⟩
      refine ⟨toD p, toD r, dp_same (s27.trans S7'.1) ht1, dp_same (s27.trans S7'.1) ht2, okp, okr, by omega, ?_⟩
      by_cases epr : p = r
      · obtain rfl := epr
        rw [eqv_self gp.ok]
        have ptc7 := ptc.same (s6'.trans s7')
        have z7 := (s6'.trans s7') _ _ z1
        refine ⟨fun _ => ?_, tt⟩
        refine ⟨rw', dx, _, rfl, S7'.st z7, fun L n nL => ⟨G7, rw', p, btw p p, rfl, (S7'.new (o := .lst []) nL).1, ptc7, fun it l3' us3 nit hn hl3 hus3 => ?_⟩⟩
        have SL := S7'.new (o := .lst []) nL
        have SI := SL.new (o := ItO l3' it 0) nit
        have SI2 := (SI.set (o' := ItTE it)).sw.set (o' := .lst us3)
        refine ⟨it, l3', us3, rfl, upd_same, fun e => ?_, fun e => ?_, SI.st hl3, SI.sw.hd, ⟨_, _, SI.st z7⟩, ?_⟩
        · subst e
          have := SL.st hl3
          rw [nit] at this
          cases this
        · subst e
          have := S7'.st hl3
          rw [nL] at this
          cases this
        obtain ⟨G8', s8', S8', hL8⟩ := Sep.keep SI2
        have S8' := S8'.drop
        rw [btw_self gp.nd] at hus3
        have us3n : us3 = [] := by cases hus3; rfl
        subst us3n
        refine ⟨XL.sz, fun L9 nL9 => ?_⟩
        obtain ⟨G9', s9', S9', hL9⟩ := Sep.mk (o := .lst []) S8' nL9
        refine ⟨.list [], .list [], .lst (SqL.of (S9'.st (s9' _ _ hL8))) .nil, .lst (SqL.of (S9'.st hL9)) .nil, rfl, rfl, by decide +kernel, ?_⟩
        rw [show (!PyData.eqv (.list []) (.list [])) = false by decide +kernel]
        refine ⟨ff, fun _ => ?_⟩
        exact ⟨_, _, _, G9', rfl, s'.trans (s27.trans (s8'.trans s9')), S9'⟩
      · rw [eqv_ne epr]
        refine ⟨ff, fun _ => ?_⟩
        exact ⟨ff, fun _ => ⟨_, _, _, G7, rfl, s'.trans s27, S7'⟩⟩
    · obtain ⟨y7, y8, y9, Gg, rfl, sg, Sg⟩ := h
      have pgg := pgf.same sg
      have mk3 : mrk t' = mrk t ++ "=" := rfl
      have ms0 : mrk s ∈ ms := by rw [em]; exact mt
      have ne3 : mrk t' ≠ mrk s := fun e => hmk (by rw [← mk3, e]; exact ms0)
      have txi : ∀ i, Tx 0 100 (mrk (th s t t' i)) := fun i => by
        have h1 : Tx 0 100 (mrk s) := (mk.tx _ ms0).wide (by decide) (by decide)
        have h2 : Tx 0 100 (mrk t) := txm.wide (by decide) (by decide)
        have h3 : Tx 0 100 (mrk t') := (txm.app (Tx.lit (a := 1) (b := 1) "=" (by decide +kernel))).wide (by decide) (by decide)
        unfold th
        split
        · exact h2
        · exact h3
        · exact h1
      refine ⟨XL.sz, fun q0 nq0 => ?_⟩
      obtain ⟨Ga, sa, Sa, ha0⟩ := Sep.mk (o := .tup [nv 0, nv 3]) Sg nq0
      refine ⟨XL.sz, fun q1 nq1 => ?_⟩
      obtain ⟨Gb, sb, Sb, hb0⟩ := Sep.mk (o := .tup [nv 3, nv 0]) Sa nq1
      refine ⟨XL.sz, fun q2 nq2 => ?_⟩
      obtain ⟨Gc, sc, Sc, hc0⟩ := Sep.mk (o := .tup [nv 1, nv 3]) Sb nq2
      refine ⟨XL.sz, fun q3 nq3 => ?_⟩
      obtain ⟨Gd, sd, Sd, hd0⟩ := Sep.mk (o := .tup [nv 3, nv 1]) Sc nq3
      refine ⟨XL.sz, fun L4 nL4 => ?_⟩
      obtain ⟨Gh, sh, Sh, hh0⟩ := Sep.mk (o := .lst [.ref q0, .ref q1, .ref q2, .ref q3]) Sd nL4
      have p4 : Paired (fun (v : V) (p : Nat × Nat) => ∃ a, v = .ref a ∧ Gh a = some (.tup [nv p.1, nv p.2])) [.ref q0, .ref q1, .ref q2, .ref q3] [(0, 3), (3, 0), (1, 3), (3, 1)] :=
        .cons ⟨q0, rfl, (sb.trans (sc.trans (sd.trans sh))) _ _ ha0⟩ (.cons ⟨q1, rfl, (sc.trans (sd.trans sh)) _ _ hb0⟩ (.cons ⟨q2, rfl, (sd.trans sh) _ _ hc0⟩ (.cons ⟨q3, rfl, sh _ _ hd0⟩ .nil)))
      have sgh := sa.trans (sb.trans (sc.trans (sd.trans sh)))
      have pgh := pgg.same sgh
      have b4 : ∀ p ∈ ([(0, 3), (3, 0), (1, 3), (3, 1)] : List (Nat × Nat)), p.1 < 4 ∧ p.2 < 4 ∧ mrk (th s t t' p.1) ≠ mrk (th s t t' p.2) := fun p hp => by
        simp only [List.mem_cons, List.not_mem_nil, or_false] at hp
        rcases hp with rfl | rfl | rfl | rfl
        · exact ⟨by decide, by decide, ne3.symm⟩
        · exact ⟨by decide, by decide, ne3⟩
        · exact ⟨by decide, by decide, fun e => ne3 (e.symm.trans em.symm)⟩
        · exact ⟨by decide, by decide, fun e => ne3 (e.trans em.symm)⟩
      generalize [(0, 3), (3, 0), (1, 3), (3, 1)] = pr4 at p4 b4
      generalize [V.ref q0, .ref q1, .ref q2, .ref q3] = qs4 at *
      refine ⟨L4, rfl, ⟨_, SqL.of (Sh.st hh0)⟩, for_list (xs := qs4) (fun i σ H' => ∃ (y7 y8 y9 : Option V) (G' : Hp), σ = [some (.ref a), some (.ref b), some (.int (m : Nat)), some u, some (.ref av), some (.ref LT), some (.ref D), y7, y8, y9, none, none] ∧ Same Gh G' ∧ Sep G' [] H') ⟨_, _, _, Gh, rfl, Same.refl _, Sh⟩ (fun i σ H' _ h => ?_) (fun i x σ H' hx h => ?_) (fun σ H' h => ?_)⟩
      · obtain ⟨_, _, _, _, _, s', S'⟩ := h
        exact SqL.of (S'.st (s' _ _ hh0))
      · obtain ⟨y7, y8, y9, G', rfl, s', S'⟩ := h
        obtain ⟨⟨i1, i2⟩, hp1, qa, rfl, hqa⟩ := prd_get p4 hx
        obtain ⟨l1, l2, l3⟩ := b4 _ (List.mem_of_getElem? hp1)
        have l1 : i1 < 4 := l1
        have l2 : i2 < 4 := l2
        have l3 : mrk (th s t t' i1) ≠ mrk (th s t t' i2) := l3
        have hqa : Gh qa = some (.tup [nv i1, nv i2]) := hqa
        refine ⟨qa, _, rfl, SqT.of (S'.st (s' _ _ hqa)), rfl, _, _, rfl, _, _, rfl, rfl, ?_⟩
        have pg0 := pgh.same s'
        obtain ⟨us1, vs1, x1, a1, hLT, hDD, gx1, ga1, pga1, ht1⟩ := pg0.at (i := i1) l1
        obtain ⟨us2, vs2, x2, a2, hLT2, hDD2, gx2, ga2, pga2, ht2⟩ := pg0.at (i := i2) l2
        obtain rfl : vs1 = vs2 := HO.lst.inj (Option.some.inj (hDD.symm.trans hDD2))
        have ixD1 := fun {G2 : Hp} {H2 : Hp} (e : Same G' G2) (S : Sep G2 [] H2) => SqL.of (K := K) (S.st (e _ _ hDD))
        refine ⟨_, _, .inl (ixD1 (Same.refl _) S'), atI_nat gx1, _, _, .inl (ixD1 (Same.refl _) S'), atI_nat gx2, G', [], x1, x2, _, _, 0, rfl, S', pga1, pga2, l3, txi i2, fun G2 H2 s2 S2 => ?_⟩
        refine ⟨ff, fun _ => ?_⟩
        refine ⟨_, _, .inl (ixD1 s2 S2), atI_nat gx1, _, _, .inl (ixD1 s2 S2), atI_nat gx2, G2, [], x1, x2, _, _, 1, rfl, S2, pga1.same s2, pga2.same s2, l3, txi i2, fun G3 H3 s3 S3 => ?_⟩
        exact ⟨ff, fun _ => ⟨_, _, _, G3, rfl, s'.trans (s2.trans s3), S3⟩⟩
      · obtain ⟨y7, y8, y9, G', rfl, s', S'⟩ := h
        obtain ⟨us, xs, hLT, hDD, hTT, xl, hat⟩ := (pgh.same s').ex
        have th4 : ∀ i, i < 4 → [s, t, s, t'][i]? = some (th s t t' i) := fun i hi => by
          match i, hi with
          | 0, _ => rfl
          | 1, _ => rfl
          | 2, _ => rfl
          | 3, _ => rfl
        refine ⟨D, rfl, ⟨_, SqL.of (S'.st hDD)⟩, fun Z nZ => lc_at (xs := xs.map V.ref) (fun i H' => ∃ ws : List V, ws.length = i ∧ DpAll K G' ws (([s, t, s, t'].take i).map toD) ∧ Sep G' [(Z, .lst ws)] H') ⟨[], rfl, .nil, S'.new nZ⟩ (fun i H' h => ?_) (fun _ => rfl) (fun i y H' hy h => ?_) (fun H8 h => ?_)⟩
        · obtain ⟨_, _, _, S2⟩ := h
          exact SqL.of (S2.st hDD)
        · obtain ⟨ws, wl, hws, S2⟩ := h
          rw [List.getElem?_map] at hy
          obtain ⟨x, hx, rfl⟩ := Option.map_eq_some_iff.mp hy
          have il := (List.getElem?_eq_some_iff.mp hx).1
          obtain ⟨x', v', k1, k2, k3, k4⟩ := hat i (by omega)
          rw [hx] at k1
          cases k1
          obtain ⟨pd, _, _, _, _, _, _, w1, _⟩ := id k3.ex
          refine ⟨x, pd, _, rfl, S2.st w1, G', x, _, rfl, S2.1, k3, fun v hv => ?_⟩
          refine ⟨ws, S2.hd, smallL (by omega), ws ++ [v], by rw [List.length_append, wl]; rfl, ?_, S2.set⟩
          rw [take_snoc (th4 i (by omega)), List.map_append]
          exact dpa_app hws (dpa_one hv)
        obtain ⟨ws, wl, hws, S2⟩ := h
        rw [List.length_map, xl] at hws
        obtain ⟨G3, s3, S3, hZ⟩ := Sep.keep S2
        have hws : DpAll K G' ws ([s, t, s, t'].map toD) := hws
        have lcl : (PyData.list ([s, t, s, t'].map toD)).canLay0 = true := by
          simp only [PyData.canLay0]
          exact layAll fun d hd => by
            obtain ⟨z, hz, rfl⟩ := List.mem_map.mp hd
            exact ok_lay (gts z hz).ok
        have ldp : (PyData.list ([s, t, s, t'].map toD)).depth ≤ 190 := by
          have := depthAll_le (n := 120) (xs := [s, t, s, t'].map toD) fun d hd => by
            obtain ⟨z, hz, rfl⟩ := List.mem_map.mp hd
            exact ok_dep (gts z hz).ok
          simp only [PyData.depth]
          omega
        refine ⟨.list ([s, t, s, t'].map toD), .list ([s, t, s, t'].map toD), .lst (SqL.of (S3.st hZ)) (dpa_same (s3.trans S3.1) hws), .lst (SqL.of (S3.st (s3 _ _ hLT))) (dpa_same (s3.trans S3.1) hTT), lcl, lcl, ldp, ?_⟩
        rw [SeqAt.eqv_refl _ lcl]
        refine ⟨fun _ => ?_, tt⟩
        obtain ⟨x0, v0, k1, k2, k3, k4⟩ := hat 0 (by decide)
        have k3 : PgAt K T.C_Page G3 x0 s := k3.same s3
        obtain ⟨pdx, _, _, _, _, _, _, hpx, _⟩ := id k3.ex
        refine ⟨_, _, .inl (SqL.of (S3.st (s3 _ _ hDD))), atI_nat (j := 0) (by rw [List.getElem?_map, k1]; rfl), ?_⟩
        refine ⟨x0, pdx, _, rfl, S3.st hpx, fun L n nL => ⟨G3, x0, s, rfl, (S3.new (o := .lst []) nL).1, k3, fun it l9 nit hn hl9 => ?_⟩⟩
        have SL := S3.new (o := .lst []) nL
        have SI := SL.new (o := ItO l9 it 0) nit
        have SI2 := (SI.set (o' := ItTE it)).sw.set (o' := .lst (((pre s).map mrk).map V.str))
        refine ⟨it, l9, ((pre s).map mrk).map V.str, rfl, upd_same, fun e => ?_, fun e => ?_, SI.st hl9, SI.sw.hd, ⟨_, _, SI.st hpx⟩, ?_⟩
        · subst e
          have := SL.st hl9
          rw [nit] at this
          cases this
        · subst e
          have := S3.st hl9
          rw [nL] at this
          cases this
        obtain ⟨G5', s5', S5', hL⟩ := Sep.keep SI2
        have S5' := S5'.drop
        obtain ⟨nf, fit⟩ := strs_fit (zs := (pre s).map mrk) (b := 60) fun z hz => by
          obtain ⟨p, hp, rfl⟩ := List.mem_map.mp hz
          exact ⟨(gs.ok.tx p hp).1.ch, (gs.ok.tx p hp).1.hi⟩
        have fd := fit.dp
        refine ⟨G5', _, u, s, rfl, S5', dp_same (s57.trans (s79.trans (s9f.trans (sg.trans (sgh.trans (s'.trans (s3.trans s5'))))))) hu, by have := gs.ln; omega, fun lmk G6' H6' s6' hlmk S6' => ?_⟩
        refine ⟨.list (((pre s).map mrk).map PyData.str), .list (((pre s).map mrk).map PyData.str), .lst (SqL.of (S6'.st (s6' _ _ hL))) (strs_dp _), .lst (SqL.of (S6'.st hlmk)) (strs_dp _), fit.cl, fit.cl, by omega, ?_⟩
        rw [fit.self]
        exact q _

end
end K11
set_option Elab.async false
set_option linter.all false
set_option maxRecDepth 100000
set_option maxHeartbeats 4000000
namespace K11
open PySem PySem.Spec PyProof.Rows L2 XL
theorem law_end {l : PySem.W.OpenLaw} {w : World} {K : PySem.W.Frag} {h : Heap} {mg : Str → Option Value} {fa f : Addr} {file : Str} (X : K.In h) (G : h.Ns mainGlobals mg) (hfa : mg "law" = some (.ref fa))
    (t : ∃ T : Top K mg w, T.a_law = f ∧ T.x_file = file ∧ ∀ (s : Shared) (v : Value), BindsTo s T.d_law ⟨[v], []⟩ [("_law_script", v)]) (pf0 : PySem.XExc.PF l.prog file) :
    ∃ fd : FuncData, (∀ (s : Shared) (v : Value), BindsTo s fd ⟨[v], []⟩ [("_law_script", v)]) ∧ ∀ base : Heap, K.In base → base.Ns mainGlobals mg → FnOk l.prog w K mg base CX0 100 fa fd ["_law_script"] (spLaw K) := by
  obtain ⟨T, _, ef, hb⟩ := t
  have pf : PySem.XExc.PF l.prog T.x_file := by rw [ef]; exact pf0
  have e := hfa.symm.trans T.g_law
  cases e
  refine ⟨T.d_law, hb, fun base _ _ => ?_⟩
  have Gp : ∀ k, FnOk l.prog w K mg base CX0 (k + 2) T.a_pick T.d_pick _ spPick := fun k => ok_pick T (k := k) (ok_mixed T)
  have Gs : ∀ k, FnOk l.prog w K mg base CX0 (k + 1) T.a_sign T.d_sign _ spSign := fun k => ok_sign T
  have Gt : ∀ k, FnOk l.prog w K mg base CX0 (k + 1) T.a_table T.d_table _ (spTab K) := fun k => ok_table T
  have Gmd : ∀ k, FnOk l.prog w K mg base CX0 (k + 2) T.a_marked T.d_marked _ (spMarked K) := fun k => ok_marked T (k := k + 1) (Gt k)
  have Gaf : FnOk l.prog w K mg base CX0 61 T.a_after T.d_after _ (spAft K 60) := ok_after T 60
  have Glb : ∀ k, FnOk l.prog w K mg base CX0 (k + 3) T.a_label T.d_label _ spLab := fun k => ok_label T (k := k + 2) (Gp k) (Gs (k + 1))
  have Gmk : ∀ k, FnOk l.prog w K mg base CX0 (k + 3) T.a_marks T.d_marks _ spMarks := fun k => ok_marks T (k := k + 2) (Gp k) (Gs (k + 1))
  have Gpr : ∀ k, FnOk l.prog w K mg base CX0 (k + 3) T.a_parents T.d_parents _ spPar := fun k => ok_parents T (k := k + 2) (Gp k)
  have Gmi : ∀ k, FnOk l.prog w K mg base CX0 (k + 3) T.a_mingled T.d_mingled _ (spMingled K) := fun k => ok_mingled T (k := k + 2) (Gp k)
  have Grk : ∀ k, FnOk l.prog w K mg base CX0 (k + 4) T.a_ranks T.d_ranks _ spRanks := fun k => ok_ranks T (k := k + 3) (Gp (k + 1)) (Gmi k)
  have Gst : ∀ k, FnOk l.prog w K mg base CX0 (k + 3) T.a_standing T.d_standing _ spStanding := fun k => ok_standing T (k := k + 2) (Gp k)
  have Gmp : ∀ k, FnOk l.prog w K mg base CX0 (k + 3) T.a_moved_parents T.d_moved_parents _ spMovedP := fun k => ok_moved_parents T (k := k + 2) (Gp k)
  have Ggr : FnOk l.prog w K mg base CX0 35 T.a_grown T.d_grown _ (spGrown K 33) := ok_grown T 33
  have Gpa : FnOk l.prog w K mg base CX0 97 T.a_pair T.d_pair _ (spPair11 K) := ok_pair T (k := 96) (Gp 94) (Gmk 93) (Glb 93) (Gpr 93) (Grk 92) (Ggr.mono (by decide)) (Gst 93) (Gmp 93)
  -- pages and patches
  have Gn : ∀ k, FnOk l.prog w K mg base CX0 (k + 1) T.a_nodes_of T.d_nodes_of _ (spNodes K) := fun k => ok_nodes_of T
  have Gpi : ∀ k, FnOk l.prog w K mg base (L2.CX l.prog w) (k + 2) T.a_Page_init T.d_Page_init _ (spPage K T.C_Page T.C_TwiceMarked T.C_TooMany) := fun k => ok_Page_init T pf (k := k) (Gn k)
  have Gno : ∀ k, FnOk l.prog w K mg base CX0 (k + 1) T.a_node_on T.d_node_on _ (spNodeOn K) := fun k => ok_node_on T
  have Gwn : ∀ k, FnOk l.prog w K mg base CX0 (k + 1) T.a_with_node T.d_with_node _ (spWith K) := fun k => ok_with_node T
  have Gwc : FnOk l.prog w K mg base CX0 80 T.a_with_children T.d_with_children _ (spWithC K) := ok_with_children T (k := 79) (Gno 78) (Gwn 78)
  have Gat : FnOk l.prog w K mg base CX0 80 T.a_check_at T.d_check_at _ spAt := ok_check_at T (k := 79) (ok_is_number T (k := 78))
  have God : FnOk l.prog w K mg base CX0 79 T.a_order_of T.d_order_of _ (spOrd K) := ok_order_of T (k := 78) (Gn 77)
  have Gcm := ok_check_marks T (k := 79) God
  have Gra := ok_root_after T (P := l.prog) (base := base) (k := 81) (ok_check_patch T) (ok_path_to T) (ok_with_put T (k := 80) (Gno 79) Gwc Gat Gcm) (ok_with_say T (k := 80) (Gno 79) (Gwn 79)) (ok_with_drop T (k := 80) (Gno 79) Gwc) (ok_with_move T (k := 80) (Gno 79) Gwc Gat)
  have Gpt := ok_Patches_init T (k := 82) Gra (ok_Page_top T) (Gpi 80)
  have Gtp : ∀ k, FnOk l.prog w K mg base CX0 (k + 1) T.a_Page_top T.d_Page_top _ (spTop K T.C_Page) := fun k => ok_Page_top T
  have Gmv : FnOk l.prog w K mg base CX0 84 T.a_moves_between T.d_moves_between _ (spMvs K) := ok_moves_between T (k := 83) (ok_longest_run T)
  have Gsg : FnOk l.prog w K mg base CX0 84 T.a_staying T.d_staying _ (spStay K T.C_Page) := ok_staying T (k := 83) (ok_check_roots T (k := 81) (Gtp 80)) (ok_Page_iter T) (ok_Page_parent T pf (k := 81)) (ok_Page_contains T)
  have GsgX := ok_stayingX T (k := 83) (ok_check_rootsX T pf (k := 81) (Gtp 80)) (ok_Page_iter T) (ok_Page_parent T pf (k := 81)) (ok_Page_contains T)
  have Gbt := ok_between T (k := 84) Gsg Gmv (ok_Page_iter T) (ok_Page_parent T pf (k := 82)) (ok_Page_getitem T pf (k := 82)) Gpt
  have GbtX := ok_betweenX T (k := 84) GsgX Gmv (ok_Page_iter T) (ok_Page_parent T pf (k := 82)) (ok_Page_getitem T pf (k := 82)) Gpt
  have Gls : ∀ k, FnOk l.prog w K mg base CX0 (k + 2) T.a_stays T.d_stays _ (spLStays K) := fun k => ok_stays T (k := k + 1) (Gt k)
  have Gdu : FnOk l.prog w K mg base CX0 96 T.a_due T.d_due _ (spDueOk K) := ok_due T (k := 95) (Gt 94) (Gmd 93)
  have Gso : FnOk l.prog w K mg base CX0 96 T.a_sound T.d_sound _ (spSound K) := ok_sound T (k := 95) (ok_number T)
  have Gle := ok_leads T (k := 96) (Gls 94) (Gt 95) Gso Gdu (Gmd 94) (ok_node T (k := 95) (Gt 94)) (Gaf.mono (by decide))
  have Grf := ok_refused T pf (k := 95) (GbtX.mono (by decide)) (GsgX.mono (by decide)) (ok_Page_topQ T)
  exact ok_law T (k := 97) (ok_bag T) (Gp 95) Gpa (Gpi 95) (Gsg.mono (by decide)) (Gls 95) (Gbt.mono (by decide)) (ok_Patches_page T) (ok_Patches_end T) (ok_Patches_iter T) (ok_Page_top T) (ok_Page_iter T) Gle Grf (Gmd 95)
end K11
set_option Elab.async false
set_option linter.all false
set_option maxRecDepth 100000
set_option maxHeartbeats 4000000
namespace K11
open PySem PySem.Spec PyProof.Rows L2 XL
theorem top_mk {K : PySem.W.Frag} {W : World} {h : Heap} {mg : Str → Option Value} (X : K.In h) (G : h.Ns mainGlobals mg)
    {C0 : Addr}
    (ca0 : PySem.W.nsIn K mainGlobals "Page" = some (some (.ref C0)))
    {C1 : Addr}
    (ca1 : PySem.W.nsIn K mainGlobals "Patches" = some (some (.ref C1)))
    {f0 : Addr} {od0 an0 : Option Addr} {sl0 : Array (Option Value)} {oc0 kV0 dc0 pm0 cd0 ct0 : Value}
    (a0 : PySem.W.nsIn K mainGlobals "is_number" = some (some (.ref f0)))
    (l0 : K.lookup f0 = some ⟨oc0, od0, .func (PySem.W.fnOf "is_number" "is_number" (defArgs s_is_number) (defBody s_is_number) (defScope s_is_number) .none kV0 dc0 pm0 an0 cd0 ct0), sl0⟩)
    (c0 : PySem.W.codeIn K cd0 "is_number" = true)
    (k0 : PySem.W.keepIn K (.ref f0) = true)
    {f1 : Addr} {od1 an1 : Option Addr} {sl1 : Array (Option Value)} {oc1 kV1 dc1 pm1 cd1 ct1 : Value}
    (a1 : PySem.W.nsIn K mainGlobals "nodes_of" = some (some (.ref f1)))
    (l1 : K.lookup f1 = some ⟨oc1, od1, .func (PySem.W.fnOf "nodes_of" "nodes_of" (defArgs s_nodes_of) (defBody s_nodes_of) (defScope s_nodes_of) .none kV1 dc1 pm1 an1 cd1 ct1), sl1⟩)
    (c1 : PySem.W.codeIn K cd1 "nodes_of" = true)
    (k1 : PySem.W.keepIn K (.ref f1) = true)
    {f2 : Addr} {od2 an2 : Option Addr} {sl2 : Array (Option Value)} {oc2 kV2 dc2 pm2 cd2 ct2 : Value}
    (a2 : PySem.W.nsIn K mainGlobals "order_of" = some (some (.ref f2)))
    (l2 : K.lookup f2 = some ⟨oc2, od2, .func (PySem.W.fnOf "order_of" "order_of" (defArgs s_order_of) (defBody s_order_of) (defScope s_order_of) .none kV2 dc2 pm2 an2 cd2 ct2), sl2⟩)
    (c2 : PySem.W.codeIn K cd2 "order_of" = true)
    (k2 : PySem.W.keepIn K (.ref f2) = true)
    {f3 : Addr} {od3 an3 : Option Addr} {sl3 : Array (Option Value)} {oc3 kV3 dc3 pm3 cd3 ct3 : Value}
    (a3 : PySem.W.findIn K (.ref C0) "__init__" = some (some (.ref f3)))
    (i3 : PySem.W.isFn K (.ref f3) = true)
    (l3 : K.lookup f3 = some ⟨oc3, od3, .func (PySem.W.fnOf "__init__" "Page.__init__" (defArgs s_Page_init) (defBody s_Page_init) (defScope s_Page_init) .none kV3 dc3 pm3 an3 cd3 ct3), sl3⟩)
    (c3 : PySem.W.codeIn K cd3 "Page.__init__" = true)
    (k3 : PySem.W.keepIn K (.ref f3) = true)
    {f4 : Addr} {od4 an4 : Option Addr} {sl4 : Array (Option Value)} {oc4 kV4 dc4 pm4 cd4 ct4 : Value}
    {p4 : Addr} {pr4 : List Value}
    (a4 : PySem.W.findIn K (.ref C0) "top" = some (some (.ref p4)))
    (pg4 : PySem.W.specialIn K (.ref p4) "__get__" = some (some (.builtin "property.__get__")))
    (pt4 : PySem.W.takesIn K (.ref p4) = some true)
    (pc4 : PySem.W.recIn K p4 "property" = some (.ref f4 :: pr4))
    (l4 : K.lookup f4 = some ⟨oc4, od4, .func (PySem.W.fnOf "top" "Page.top" (defArgs s_Page_top) (defBody s_Page_top) (defScope s_Page_top) .none kV4 dc4 pm4 an4 cd4 ct4), sl4⟩)
    (c4 : PySem.W.codeIn K cd4 "Page.top" = true)
    (k4 : PySem.W.keepIn K (.ref f4) = true)
    {f5 : Addr} {od5 an5 : Option Addr} {sl5 : Array (Option Value)} {oc5 kV5 dc5 pm5 cd5 ct5 : Value}
    (a5 : PySem.W.findIn K (.ref C0) "__getitem__" = some (some (.ref f5)))
    (i5 : PySem.W.isFn K (.ref f5) = true)
    (fi5 : PySem.W.fnIn K f5 = true)
    (l5 : K.lookup f5 = some ⟨oc5, od5, .func (PySem.W.fnOf "__getitem__" "Page.__getitem__" (defArgs s_Page_getitem) (defBody s_Page_getitem) (defScope s_Page_getitem) .none kV5 dc5 pm5 an5 cd5 ct5), sl5⟩)
    (c5 : PySem.W.codeIn K cd5 "Page.__getitem__" = true)
    (k5 : PySem.W.keepIn K (.ref f5) = true)
    {f6 : Addr} {od6 an6 : Option Addr} {sl6 : Array (Option Value)} {oc6 kV6 dc6 pm6 cd6 ct6 : Value}
    (a6 : PySem.W.findIn K (.ref C0) "__contains__" = some (some (.ref f6)))
    (i6 : PySem.W.isFn K (.ref f6) = true)
    (l6 : K.lookup f6 = some ⟨oc6, od6, .func (PySem.W.fnOf "__contains__" "Page.__contains__" (defArgs s_Page_contains) (defBody s_Page_contains) (defScope s_Page_contains) .none kV6 dc6 pm6 an6 cd6 ct6), sl6⟩)
    (c6 : PySem.W.codeIn K cd6 "Page.__contains__" = true)
    (k6 : PySem.W.keepIn K (.ref f6) = true)
    {f7 : Addr} {od7 an7 : Option Addr} {sl7 : Array (Option Value)} {oc7 kV7 dc7 pm7 cd7 ct7 : Value}
    (a7 : PySem.W.findIn K (.ref C0) "__iter__" = some (some (.ref f7)))
    (i7 : PySem.W.isFn K (.ref f7) = true)
    (l7 : K.lookup f7 = some ⟨oc7, od7, .func (PySem.W.fnOf "__iter__" "Page.__iter__" (defArgs s_Page_iter) (defBody s_Page_iter) (defScope s_Page_iter) .none kV7 dc7 pm7 an7 cd7 ct7), sl7⟩)
    (c7 : PySem.W.codeIn K cd7 "Page.__iter__" = true)
    (k7 : PySem.W.keepIn K (.ref f7) = true)
    {f8 : Addr} {od8 an8 : Option Addr} {sl8 : Array (Option Value)} {oc8 kV8 dc8 pm8 cd8 ct8 : Value}
    (a8 : PySem.W.findIn K (.ref C0) "__eq__" = some (some (.ref f8)))
    (i8 : PySem.W.isFn K (.ref f8) = true)
    (l8 : K.lookup f8 = some ⟨oc8, od8, .func (PySem.W.fnOf "__eq__" "Page.__eq__" (defArgs s_Page_eq) (defBody s_Page_eq) (defScope s_Page_eq) .none kV8 dc8 pm8 an8 cd8 ct8), sl8⟩)
    (c8 : PySem.W.codeIn K cd8 "Page.__eq__" = true)
    (k8 : PySem.W.keepIn K (.ref f8) = true)
    {f9 : Addr} {od9 an9 : Option Addr} {sl9 : Array (Option Value)} {oc9 kV9 dc9 pm9 cd9 ct9 : Value}
    (a9 : PySem.W.findIn K (.ref C0) "parent" = some (some (.ref f9)))
    (i9 : PySem.W.isFn K (.ref f9) = true)
    (l9 : K.lookup f9 = some ⟨oc9, od9, .func (PySem.W.fnOf "parent" "Page.parent" (defArgs s_Page_parent) (defBody s_Page_parent) (defScope s_Page_parent) .none kV9 dc9 pm9 an9 cd9 ct9), sl9⟩)
    (c9 : PySem.W.codeIn K cd9 "Page.parent" = true)
    (k9 : PySem.W.keepIn K (.ref f9) = true)
    {f10 : Addr} {od10 an10 : Option Addr} {sl10 : Array (Option Value)} {oc10 kV10 dc10 pm10 cd10 ct10 : Value}
    (a10 : PySem.W.nsIn K mainGlobals "check_patch" = some (some (.ref f10)))
    (l10 : K.lookup f10 = some ⟨oc10, od10, .func (PySem.W.fnOf "check_patch" "check_patch" (defArgs s_check_patch) (defBody s_check_patch) (defScope s_check_patch) .none kV10 dc10 pm10 an10 cd10 ct10), sl10⟩)
    (c10 : PySem.W.codeIn K cd10 "check_patch" = true)
    (k10 : PySem.W.keepIn K (.ref f10) = true)
    {f11 : Addr} {od11 an11 : Option Addr} {sl11 : Array (Option Value)} {oc11 kV11 dc11 pm11 cd11 ct11 : Value}
    (a11 : PySem.W.nsIn K mainGlobals "path_to" = some (some (.ref f11)))
    (l11 : K.lookup f11 = some ⟨oc11, od11, .func (PySem.W.fnOf "path_to" "path_to" (defArgs s_path_to) (defBody s_path_to) (defScope s_path_to) .none kV11 dc11 pm11 an11 cd11 ct11), sl11⟩)
    (c11 : PySem.W.codeIn K cd11 "path_to" = true)
    (k11 : PySem.W.keepIn K (.ref f11) = true)
    {f12 : Addr} {od12 an12 : Option Addr} {sl12 : Array (Option Value)} {oc12 kV12 dc12 pm12 cd12 ct12 : Value}
    (a12 : PySem.W.nsIn K mainGlobals "node_on" = some (some (.ref f12)))
    (l12 : K.lookup f12 = some ⟨oc12, od12, .func (PySem.W.fnOf "node_on" "node_on" (defArgs s_node_on) (defBody s_node_on) (defScope s_node_on) .none kV12 dc12 pm12 an12 cd12 ct12), sl12⟩)
    (c12 : PySem.W.codeIn K cd12 "node_on" = true)
    (k12 : PySem.W.keepIn K (.ref f12) = true)
    {f13 : Addr} {od13 an13 : Option Addr} {sl13 : Array (Option Value)} {oc13 kV13 dc13 pm13 cd13 ct13 : Value}
    (a13 : PySem.W.nsIn K mainGlobals "with_node" = some (some (.ref f13)))
    (l13 : K.lookup f13 = some ⟨oc13, od13, .func (PySem.W.fnOf "with_node" "with_node" (defArgs s_with_node) (defBody s_with_node) (defScope s_with_node) .none kV13 dc13 pm13 an13 cd13 ct13), sl13⟩)
    (c13 : PySem.W.codeIn K cd13 "with_node" = true)
    (k13 : PySem.W.keepIn K (.ref f13) = true)
    {f14 : Addr} {od14 an14 : Option Addr} {sl14 : Array (Option Value)} {oc14 kV14 dc14 pm14 cd14 ct14 : Value}
    (a14 : PySem.W.nsIn K mainGlobals "with_children" = some (some (.ref f14)))
    (l14 : K.lookup f14 = some ⟨oc14, od14, .func (PySem.W.fnOf "with_children" "with_children" (defArgs s_with_children) (defBody s_with_children) (defScope s_with_children) .none kV14 dc14 pm14 an14 cd14 ct14), sl14⟩)
    (c14 : PySem.W.codeIn K cd14 "with_children" = true)
    (k14 : PySem.W.keepIn K (.ref f14) = true)
    {f15 : Addr} {od15 an15 : Option Addr} {sl15 : Array (Option Value)} {oc15 kV15 dc15 pm15 cd15 ct15 : Value}
    (a15 : PySem.W.nsIn K mainGlobals "check_marks" = some (some (.ref f15)))
    (l15 : K.lookup f15 = some ⟨oc15, od15, .func (PySem.W.fnOf "check_marks" "check_marks" (defArgs s_check_marks) (defBody s_check_marks) (defScope s_check_marks) .none kV15 dc15 pm15 an15 cd15 ct15), sl15⟩)
    (c15 : PySem.W.codeIn K cd15 "check_marks" = true)
    (k15 : PySem.W.keepIn K (.ref f15) = true)
    {f16 : Addr} {od16 an16 : Option Addr} {sl16 : Array (Option Value)} {oc16 kV16 dc16 pm16 cd16 ct16 : Value}
    (a16 : PySem.W.nsIn K mainGlobals "check_at" = some (some (.ref f16)))
    (l16 : K.lookup f16 = some ⟨oc16, od16, .func (PySem.W.fnOf "check_at" "check_at" (defArgs s_check_at) (defBody s_check_at) (defScope s_check_at) .none kV16 dc16 pm16 an16 cd16 ct16), sl16⟩)
    (c16 : PySem.W.codeIn K cd16 "check_at" = true)
    (k16 : PySem.W.keepIn K (.ref f16) = true)
    {f17 : Addr} {od17 an17 : Option Addr} {sl17 : Array (Option Value)} {oc17 kV17 dc17 pm17 cd17 ct17 : Value}
    (a17 : PySem.W.nsIn K mainGlobals "with_put" = some (some (.ref f17)))
    (l17 : K.lookup f17 = some ⟨oc17, od17, .func (PySem.W.fnOf "with_put" "with_put" (defArgs s_with_put) (defBody s_with_put) (defScope s_with_put) .none kV17 dc17 pm17 an17 cd17 ct17), sl17⟩)
    (c17 : PySem.W.codeIn K cd17 "with_put" = true)
    (k17 : PySem.W.keepIn K (.ref f17) = true)
    {f18 : Addr} {od18 an18 : Option Addr} {sl18 : Array (Option Value)} {oc18 kV18 dc18 pm18 cd18 ct18 : Value}
    (a18 : PySem.W.nsIn K mainGlobals "with_say" = some (some (.ref f18)))
    (l18 : K.lookup f18 = some ⟨oc18, od18, .func (PySem.W.fnOf "with_say" "with_say" (defArgs s_with_say) (defBody s_with_say) (defScope s_with_say) .none kV18 dc18 pm18 an18 cd18 ct18), sl18⟩)
    (c18 : PySem.W.codeIn K cd18 "with_say" = true)
    (k18 : PySem.W.keepIn K (.ref f18) = true)
    {f19 : Addr} {od19 an19 : Option Addr} {sl19 : Array (Option Value)} {oc19 kV19 dc19 pm19 cd19 ct19 : Value}
    (a19 : PySem.W.nsIn K mainGlobals "with_drop" = some (some (.ref f19)))
    (l19 : K.lookup f19 = some ⟨oc19, od19, .func (PySem.W.fnOf "with_drop" "with_drop" (defArgs s_with_drop) (defBody s_with_drop) (defScope s_with_drop) .none kV19 dc19 pm19 an19 cd19 ct19), sl19⟩)
    (c19 : PySem.W.codeIn K cd19 "with_drop" = true)
    (k19 : PySem.W.keepIn K (.ref f19) = true)
    {f20 : Addr} {od20 an20 : Option Addr} {sl20 : Array (Option Value)} {oc20 kV20 dc20 pm20 cd20 ct20 : Value}
    (a20 : PySem.W.nsIn K mainGlobals "with_move" = some (some (.ref f20)))
    (l20 : K.lookup f20 = some ⟨oc20, od20, .func (PySem.W.fnOf "with_move" "with_move" (defArgs s_with_move) (defBody s_with_move) (defScope s_with_move) .none kV20 dc20 pm20 an20 cd20 ct20), sl20⟩)
    (c20 : PySem.W.codeIn K cd20 "with_move" = true)
    (k20 : PySem.W.keepIn K (.ref f20) = true)
    {f21 : Addr} {od21 an21 : Option Addr} {sl21 : Array (Option Value)} {oc21 kV21 dc21 pm21 cd21 ct21 : Value}
    (a21 : PySem.W.nsIn K mainGlobals "root_after" = some (some (.ref f21)))
    (l21 : K.lookup f21 = some ⟨oc21, od21, .func (PySem.W.fnOf "root_after" "root_after" (defArgs s_root_after) (defBody s_root_after) (defScope s_root_after) .none kV21 dc21 pm21 an21 cd21 ct21), sl21⟩)
    (c21 : PySem.W.codeIn K cd21 "root_after" = true)
    (k21 : PySem.W.keepIn K (.ref f21) = true)
    {f22 : Addr} {od22 an22 : Option Addr} {sl22 : Array (Option Value)} {oc22 kV22 dc22 pm22 cd22 ct22 : Value}
    (a22 : PySem.W.findIn K (.ref C1) "__init__" = some (some (.ref f22)))
    (i22 : PySem.W.isFn K (.ref f22) = true)
    (l22 : K.lookup f22 = some ⟨oc22, od22, .func (PySem.W.fnOf "__init__" "Patches.__init__" (defArgs s_Patches_init) (defBody s_Patches_init) (defScope s_Patches_init) .none kV22 dc22 pm22 an22 cd22 ct22), sl22⟩)
    (c22 : PySem.W.codeIn K cd22 "Patches.__init__" = true)
    (k22 : PySem.W.keepIn K (.ref f22) = true)
    {f23 : Addr} {od23 an23 : Option Addr} {sl23 : Array (Option Value)} {oc23 kV23 dc23 pm23 cd23 ct23 : Value}
    {p23 : Addr} {pr23 : List Value}
    (a23 : PySem.W.findIn K (.ref C1) "page" = some (some (.ref p23)))
    (pg23 : PySem.W.specialIn K (.ref p23) "__get__" = some (some (.builtin "property.__get__")))
    (pt23 : PySem.W.takesIn K (.ref p23) = some true)
    (pc23 : PySem.W.recIn K p23 "property" = some (.ref f23 :: pr23))
    (l23 : K.lookup f23 = some ⟨oc23, od23, .func (PySem.W.fnOf "page" "Patches.page" (defArgs s_Patches_page) (defBody s_Patches_page) (defScope s_Patches_page) .none kV23 dc23 pm23 an23 cd23 ct23), sl23⟩)
    (c23 : PySem.W.codeIn K cd23 "Patches.page" = true)
    (k23 : PySem.W.keepIn K (.ref f23) = true)
    {f24 : Addr} {od24 an24 : Option Addr} {sl24 : Array (Option Value)} {oc24 kV24 dc24 pm24 cd24 ct24 : Value}
    {p24 : Addr} {pr24 : List Value}
    (a24 : PySem.W.findIn K (.ref C1) "end" = some (some (.ref p24)))
    (pg24 : PySem.W.specialIn K (.ref p24) "__get__" = some (some (.builtin "property.__get__")))
    (pt24 : PySem.W.takesIn K (.ref p24) = some true)
    (pc24 : PySem.W.recIn K p24 "property" = some (.ref f24 :: pr24))
    (l24 : K.lookup f24 = some ⟨oc24, od24, .func (PySem.W.fnOf "end" "Patches.end" (defArgs s_Patches_end) (defBody s_Patches_end) (defScope s_Patches_end) .none kV24 dc24 pm24 an24 cd24 ct24), sl24⟩)
    (c24 : PySem.W.codeIn K cd24 "Patches.end" = true)
    (k24 : PySem.W.keepIn K (.ref f24) = true)
    {f25 : Addr} {od25 an25 : Option Addr} {sl25 : Array (Option Value)} {oc25 kV25 dc25 pm25 cd25 ct25 : Value}
    (a25 : PySem.W.findIn K (.ref C1) "__iter__" = some (some (.ref f25)))
    (i25 : PySem.W.isFn K (.ref f25) = true)
    (l25 : K.lookup f25 = some ⟨oc25, od25, .func (PySem.W.fnOf "__iter__" "Patches.__iter__" (defArgs s_Patches_iter) (defBody s_Patches_iter) (defScope s_Patches_iter) .none kV25 dc25 pm25 an25 cd25 ct25), sl25⟩)
    (c25 : PySem.W.codeIn K cd25 "Patches.__iter__" = true)
    (k25 : PySem.W.keepIn K (.ref f25) = true)
    {f26 : Addr} {od26 an26 : Option Addr} {sl26 : Array (Option Value)} {oc26 kV26 dc26 pm26 cd26 ct26 : Value}
    (a26 : PySem.W.nsIn K mainGlobals "check_roots" = some (some (.ref f26)))
    (l26 : K.lookup f26 = some ⟨oc26, od26, .func (PySem.W.fnOf "check_roots" "check_roots" (defArgs s_check_roots) (defBody s_check_roots) (defScope s_check_roots) .none kV26 dc26 pm26 an26 cd26 ct26), sl26⟩)
    (c26 : PySem.W.codeIn K cd26 "check_roots" = true)
    (k26 : PySem.W.keepIn K (.ref f26) = true)
    {f27 : Addr} {od27 an27 : Option Addr} {sl27 : Array (Option Value)} {oc27 kV27 dc27 pm27 cd27 ct27 : Value}
    (a27 : PySem.W.nsIn K mainGlobals "staying" = some (some (.ref f27)))
    (l27 : K.lookup f27 = some ⟨oc27, od27, .func (PySem.W.fnOf "staying" "staying" (defArgs s_staying) (defBody s_staying) (defScope s_staying) .none kV27 dc27 pm27 an27 cd27 ct27), sl27⟩)
    (c27 : PySem.W.codeIn K cd27 "staying" = true)
    (k27 : PySem.W.keepIn K (.ref f27) = true)
    {f28 : Addr} {od28 an28 : Option Addr} {sl28 : Array (Option Value)} {oc28 kV28 dc28 pm28 cd28 ct28 : Value}
    (a28 : PySem.W.nsIn K mainGlobals "longest_run" = some (some (.ref f28)))
    (l28 : K.lookup f28 = some ⟨oc28, od28, .func (PySem.W.fnOf "longest_run" "longest_run" (defArgs s_longest_run) (defBody s_longest_run) (defScope s_longest_run) .none kV28 dc28 pm28 an28 cd28 ct28), sl28⟩)
    (c28 : PySem.W.codeIn K cd28 "longest_run" = true)
    (k28 : PySem.W.keepIn K (.ref f28) = true)
    {f29 : Addr} {od29 an29 : Option Addr} {sl29 : Array (Option Value)} {oc29 kV29 dc29 pm29 cd29 ct29 : Value}
    (a29 : PySem.W.nsIn K mainGlobals "moves_between" = some (some (.ref f29)))
    (l29 : K.lookup f29 = some ⟨oc29, od29, .func (PySem.W.fnOf "moves_between" "moves_between" (defArgs s_moves_between) (defBody s_moves_between) (defScope s_moves_between) .none kV29 dc29 pm29 an29 cd29 ct29), sl29⟩)
    (c29 : PySem.W.codeIn K cd29 "moves_between" = true)
    (k29 : PySem.W.keepIn K (.ref f29) = true)
    {f30 : Addr} {od30 an30 : Option Addr} {sl30 : Array (Option Value)} {oc30 kV30 dc30 pm30 cd30 ct30 : Value}
    (a30 : PySem.W.nsIn K mainGlobals "between" = some (some (.ref f30)))
    (l30 : K.lookup f30 = some ⟨oc30, od30, .func (PySem.W.fnOf "between" "between" (defArgs s_between) (defBody s_between) (defScope s_between) .none kV30 dc30 pm30 an30 cd30 ct30), sl30⟩)
    (c30 : PySem.W.codeIn K cd30 "between" = true)
    (k30 : PySem.W.keepIn K (.ref f30) = true)
    {f31 : Addr} {od31 an31 : Option Addr} {sl31 : Array (Option Value)} {oc31 kV31 dc31 pm31 cd31 ct31 : Value}
    (a31 : PySem.W.nsIn K mainGlobals "_law_mixed" = some (some (.ref f31)))
    (l31 : K.lookup f31 = some ⟨oc31, od31, .func (PySem.W.fnOf "_law_mixed" "_law_mixed" (defArgs s_mixed) (defBody s_mixed) (defScope s_mixed) .none kV31 dc31 pm31 an31 cd31 ct31), sl31⟩)
    (c31 : PySem.W.codeIn K cd31 "_law_mixed" = true)
    (k31 : PySem.W.keepIn K (.ref f31) = true)
    {f32 : Addr} {od32 an32 : Option Addr} {sl32 : Array (Option Value)} {oc32 kV32 dc32 pm32 cd32 ct32 : Value}
    (a32 : PySem.W.nsIn K mainGlobals "_law_bag" = some (some (.ref f32)))
    (l32 : K.lookup f32 = some ⟨oc32, od32, .func (PySem.W.fnOf "_law_bag" "_law_bag" (defArgs s_bag) (defBody s_bag) (defScope s_bag) .none kV32 dc32 pm32 an32 cd32 ct32), sl32⟩)
    (c32 : PySem.W.codeIn K cd32 "_law_bag" = true)
    (k32 : PySem.W.keepIn K (.ref f32) = true)
    {f33 : Addr} {od33 an33 : Option Addr} {sl33 : Array (Option Value)} {oc33 kV33 dc33 pm33 cd33 ct33 : Value}
    (a33 : PySem.W.nsIn K mainGlobals "_law_pick" = some (some (.ref f33)))
    (l33 : K.lookup f33 = some ⟨oc33, od33, .func (PySem.W.fnOf "_law_pick" "_law_pick" (defArgs s_pick) (defBody s_pick) (defScope s_pick) .none kV33 dc33 pm33 an33 cd33 ct33), sl33⟩)
    (c33 : PySem.W.codeIn K cd33 "_law_pick" = true)
    (k33 : PySem.W.keepIn K (.ref f33) = true)
    {f34 : Addr} {od34 an34 : Option Addr} {sl34 : Array (Option Value)} {oc34 kV34 dc34 pm34 cd34 ct34 : Value}
    (a34 : PySem.W.nsIn K mainGlobals "_law_mingled" = some (some (.ref f34)))
    (l34 : K.lookup f34 = some ⟨oc34, od34, .func (PySem.W.fnOf "_law_mingled" "_law_mingled" (defArgs s_mingled) (defBody s_mingled) (defScope s_mingled) .none kV34 dc34 pm34 an34 cd34 ct34), sl34⟩)
    (c34 : PySem.W.codeIn K cd34 "_law_mingled" = true)
    (k34 : PySem.W.keepIn K (.ref f34) = true)
    {f35 : Addr} {od35 an35 : Option Addr} {sl35 : Array (Option Value)} {oc35 kV35 dc35 pm35 cd35 ct35 : Value}
    (a35 : PySem.W.nsIn K mainGlobals "_law_sorted" = some (some (.ref f35)))
    (l35 : K.lookup f35 = some ⟨oc35, od35, .func (PySem.W.fnOf "_law_sorted" "_law_sorted" (defArgs s_sorted) (defBody s_sorted) (defScope s_sorted) .none kV35 dc35 pm35 an35 cd35 ct35), sl35⟩)
    (c35 : PySem.W.codeIn K cd35 "_law_sorted" = true)
    (k35 : PySem.W.keepIn K (.ref f35) = true)
    {f36 : Addr} {od36 an36 : Option Addr} {sl36 : Array (Option Value)} {oc36 kV36 dc36 pm36 cd36 ct36 : Value}
    (a36 : PySem.W.nsIn K mainGlobals "_law_number" = some (some (.ref f36)))
    (l36 : K.lookup f36 = some ⟨oc36, od36, .func (PySem.W.fnOf "_law_number" "_law_number" (defArgs s_number) (defBody s_number) (defScope s_number) .none kV36 dc36 pm36 an36 cd36 ct36), sl36⟩)
    (c36 : PySem.W.codeIn K cd36 "_law_number" = true)
    (k36 : PySem.W.keepIn K (.ref f36) = true)
    {f37 : Addr} {od37 an37 : Option Addr} {sl37 : Array (Option Value)} {oc37 kV37 dc37 pm37 cd37 ct37 : Value}
    (a37 : PySem.W.nsIn K mainGlobals "_law_sign" = some (some (.ref f37)))
    (l37 : K.lookup f37 = some ⟨oc37, od37, .func (PySem.W.fnOf "_law_sign" "_law_sign" (defArgs s_sign) (defBody s_sign) (defScope s_sign) .none kV37 dc37 pm37 an37 cd37 ct37), sl37⟩)
    (c37 : PySem.W.codeIn K cd37 "_law_sign" = true)
    (k37 : PySem.W.keepIn K (.ref f37) = true)
    {f38 : Addr} {od38 an38 : Option Addr} {sl38 : Array (Option Value)} {oc38 kV38 dc38 pm38 cd38 ct38 : Value}
    (a38 : PySem.W.nsIn K mainGlobals "_law_marks" = some (some (.ref f38)))
    (l38 : K.lookup f38 = some ⟨oc38, od38, .func (PySem.W.fnOf "_law_marks" "_law_marks" (defArgs s_marks) (defBody s_marks) (defScope s_marks) .none kV38 dc38 pm38 an38 cd38 ct38), sl38⟩)
    (c38 : PySem.W.codeIn K cd38 "_law_marks" = true)
    (k38 : PySem.W.keepIn K (.ref f38) = true)
    {f39 : Addr} {od39 an39 : Option Addr} {sl39 : Array (Option Value)} {oc39 kV39 dc39 pm39 cd39 ct39 : Value}
    (a39 : PySem.W.nsIn K mainGlobals "_law_label" = some (some (.ref f39)))
    (l39 : K.lookup f39 = some ⟨oc39, od39, .func (PySem.W.fnOf "_law_label" "_law_label" (defArgs s_label) (defBody s_label) (defScope s_label) .none kV39 dc39 pm39 an39 cd39 ct39), sl39⟩)
    (c39 : PySem.W.codeIn K cd39 "_law_label" = true)
    (k39 : PySem.W.keepIn K (.ref f39) = true)
    {f40 : Addr} {od40 an40 : Option Addr} {sl40 : Array (Option Value)} {oc40 kV40 dc40 pm40 cd40 ct40 : Value}
    (a40 : PySem.W.nsIn K mainGlobals "_law_parents" = some (some (.ref f40)))
    (l40 : K.lookup f40 = some ⟨oc40, od40, .func (PySem.W.fnOf "_law_parents" "_law_parents" (defArgs s_parents) (defBody s_parents) (defScope s_parents) .none kV40 dc40 pm40 an40 cd40 ct40), sl40⟩)
    (c40 : PySem.W.codeIn K cd40 "_law_parents" = true)
    (k40 : PySem.W.keepIn K (.ref f40) = true)
    {f41 : Addr} {od41 an41 : Option Addr} {sl41 : Array (Option Value)} {oc41 kV41 dc41 pm41 cd41 ct41 : Value}
    (a41 : PySem.W.nsIn K mainGlobals "_law_moved_parents" = some (some (.ref f41)))
    (l41 : K.lookup f41 = some ⟨oc41, od41, .func (PySem.W.fnOf "_law_moved_parents" "_law_moved_parents" (defArgs s_moved_parents) (defBody s_moved_parents) (defScope s_moved_parents) .none kV41 dc41 pm41 an41 cd41 ct41), sl41⟩)
    (c41 : PySem.W.codeIn K cd41 "_law_moved_parents" = true)
    (k41 : PySem.W.keepIn K (.ref f41) = true)
    {f42 : Addr} {od42 an42 : Option Addr} {sl42 : Array (Option Value)} {oc42 kV42 dc42 pm42 cd42 ct42 : Value}
    (a42 : PySem.W.nsIn K mainGlobals "_law_ranks" = some (some (.ref f42)))
    (l42 : K.lookup f42 = some ⟨oc42, od42, .func (PySem.W.fnOf "_law_ranks" "_law_ranks" (defArgs s_ranks) (defBody s_ranks) (defScope s_ranks) .none kV42 dc42 pm42 an42 cd42 ct42), sl42⟩)
    (c42 : PySem.W.codeIn K cd42 "_law_ranks" = true)
    (k42 : PySem.W.keepIn K (.ref f42) = true)
    {f43 : Addr} {od43 an43 : Option Addr} {sl43 : Array (Option Value)} {oc43 kV43 dc43 pm43 cd43 ct43 : Value}
    (a43 : PySem.W.nsIn K mainGlobals "_law_grown" = some (some (.ref f43)))
    (l43 : K.lookup f43 = some ⟨oc43, od43, .func (PySem.W.fnOf "_law_grown" "_law_grown" (defArgs s_grown) (defBody s_grown) (defScope s_grown) .none kV43 dc43 pm43 an43 cd43 ct43), sl43⟩)
    (c43 : PySem.W.codeIn K cd43 "_law_grown" = true)
    (k43 : PySem.W.keepIn K (.ref f43) = true)
    {f44 : Addr} {od44 an44 : Option Addr} {sl44 : Array (Option Value)} {oc44 kV44 dc44 pm44 cd44 ct44 : Value}
    (a44 : PySem.W.nsIn K mainGlobals "_law_standing" = some (some (.ref f44)))
    (l44 : K.lookup f44 = some ⟨oc44, od44, .func (PySem.W.fnOf "_law_standing" "_law_standing" (defArgs s_standing) (defBody s_standing) (defScope s_standing) .none kV44 dc44 pm44 an44 cd44 ct44), sl44⟩)
    (c44 : PySem.W.codeIn K cd44 "_law_standing" = true)
    (k44 : PySem.W.keepIn K (.ref f44) = true)
    {f45 : Addr} {od45 an45 : Option Addr} {sl45 : Array (Option Value)} {oc45 kV45 dc45 pm45 cd45 ct45 : Value}
    (a45 : PySem.W.nsIn K mainGlobals "_law_pair" = some (some (.ref f45)))
    (l45 : K.lookup f45 = some ⟨oc45, od45, .func (PySem.W.fnOf "_law_pair" "_law_pair" (defArgs s_pair) (defBody s_pair) (defScope s_pair) .none kV45 dc45 pm45 an45 cd45 ct45), sl45⟩)
    (c45 : PySem.W.codeIn K cd45 "_law_pair" = true)
    (k45 : PySem.W.keepIn K (.ref f45) = true)
    {f46 : Addr} {od46 an46 : Option Addr} {sl46 : Array (Option Value)} {oc46 kV46 dc46 pm46 cd46 ct46 : Value}
    (a46 : PySem.W.nsIn K mainGlobals "_law_table" = some (some (.ref f46)))
    (l46 : K.lookup f46 = some ⟨oc46, od46, .func (PySem.W.fnOf "_law_table" "_law_table" (defArgs s_table) (defBody s_table) (defScope s_table) .none kV46 dc46 pm46 an46 cd46 ct46), sl46⟩)
    (c46 : PySem.W.codeIn K cd46 "_law_table" = true)
    (k46 : PySem.W.keepIn K (.ref f46) = true)
    {f47 : Addr} {od47 an47 : Option Addr} {sl47 : Array (Option Value)} {oc47 kV47 dc47 pm47 cd47 ct47 : Value}
    (a47 : PySem.W.nsIn K mainGlobals "_law_node" = some (some (.ref f47)))
    (l47 : K.lookup f47 = some ⟨oc47, od47, .func (PySem.W.fnOf "_law_node" "_law_node" (defArgs s_node) (defBody s_node) (defScope s_node) .none kV47 dc47 pm47 an47 cd47 ct47), sl47⟩)
    (c47 : PySem.W.codeIn K cd47 "_law_node" = true)
    (k47 : PySem.W.keepIn K (.ref f47) = true)
    {f48 : Addr} {od48 an48 : Option Addr} {sl48 : Array (Option Value)} {oc48 kV48 dc48 pm48 cd48 ct48 : Value}
    (a48 : PySem.W.nsIn K mainGlobals "_law_marked" = some (some (.ref f48)))
    (l48 : K.lookup f48 = some ⟨oc48, od48, .func (PySem.W.fnOf "_law_marked" "_law_marked" (defArgs s_marked) (defBody s_marked) (defScope s_marked) .none kV48 dc48 pm48 an48 cd48 ct48), sl48⟩)
    (c48 : PySem.W.codeIn K cd48 "_law_marked" = true)
    (k48 : PySem.W.keepIn K (.ref f48) = true)
    {f49 : Addr} {od49 an49 : Option Addr} {sl49 : Array (Option Value)} {oc49 kV49 dc49 pm49 cd49 ct49 : Value}
    (a49 : PySem.W.nsIn K mainGlobals "_law_after" = some (some (.ref f49)))
    (l49 : K.lookup f49 = some ⟨oc49, od49, .func (PySem.W.fnOf "_law_after" "_law_after" (defArgs s_after) (defBody s_after) (defScope s_after) .none kV49 dc49 pm49 an49 cd49 ct49), sl49⟩)
    (c49 : PySem.W.codeIn K cd49 "_law_after" = true)
    (k49 : PySem.W.keepIn K (.ref f49) = true)
    {f50 : Addr} {od50 an50 : Option Addr} {sl50 : Array (Option Value)} {oc50 kV50 dc50 pm50 cd50 ct50 : Value}
    (a50 : PySem.W.nsIn K mainGlobals "_law_due" = some (some (.ref f50)))
    (l50 : K.lookup f50 = some ⟨oc50, od50, .func (PySem.W.fnOf "_law_due" "_law_due" (defArgs s_due) (defBody s_due) (defScope s_due) .none kV50 dc50 pm50 an50 cd50 ct50), sl50⟩)
    (c50 : PySem.W.codeIn K cd50 "_law_due" = true)
    (k50 : PySem.W.keepIn K (.ref f50) = true)
    {f51 : Addr} {od51 an51 : Option Addr} {sl51 : Array (Option Value)} {oc51 kV51 dc51 pm51 cd51 ct51 : Value}
    (a51 : PySem.W.nsIn K mainGlobals "_law_stays" = some (some (.ref f51)))
    (l51 : K.lookup f51 = some ⟨oc51, od51, .func (PySem.W.fnOf "_law_stays" "_law_stays" (defArgs s_stays) (defBody s_stays) (defScope s_stays) .none kV51 dc51 pm51 an51 cd51 ct51), sl51⟩)
    (c51 : PySem.W.codeIn K cd51 "_law_stays" = true)
    (k51 : PySem.W.keepIn K (.ref f51) = true)
    {f52 : Addr} {od52 an52 : Option Addr} {sl52 : Array (Option Value)} {oc52 kV52 dc52 pm52 cd52 ct52 : Value}
    (a52 : PySem.W.nsIn K mainGlobals "_law_sound" = some (some (.ref f52)))
    (l52 : K.lookup f52 = some ⟨oc52, od52, .func (PySem.W.fnOf "_law_sound" "_law_sound" (defArgs s_sound) (defBody s_sound) (defScope s_sound) .none kV52 dc52 pm52 an52 cd52 ct52), sl52⟩)
    (c52 : PySem.W.codeIn K cd52 "_law_sound" = true)
    (k52 : PySem.W.keepIn K (.ref f52) = true)
    {f53 : Addr} {od53 an53 : Option Addr} {sl53 : Array (Option Value)} {oc53 kV53 dc53 pm53 cd53 ct53 : Value}
    (a53 : PySem.W.nsIn K mainGlobals "_law_leads" = some (some (.ref f53)))
    (l53 : K.lookup f53 = some ⟨oc53, od53, .func (PySem.W.fnOf "_law_leads" "_law_leads" (defArgs s_leads) (defBody s_leads) (defScope s_leads) .none kV53 dc53 pm53 an53 cd53 ct53), sl53⟩)
    (c53 : PySem.W.codeIn K cd53 "_law_leads" = true)
    (k53 : PySem.W.keepIn K (.ref f53) = true)
    {f54 : Addr} {od54 an54 : Option Addr} {sl54 : Array (Option Value)} {oc54 kV54 dc54 pm54 cd54 ct54 : Value}
    (a54 : PySem.W.nsIn K mainGlobals "_law_refused" = some (some (.ref f54)))
    (l54 : K.lookup f54 = some ⟨oc54, od54, .func (PySem.W.fnOf "_law_refused" "_law_refused" (defArgs s_refused) (defBody s_refused) (defScope s_refused) .none kV54 dc54 pm54 an54 cd54 ct54), sl54⟩)
    (c54 : PySem.W.codeIn K cd54 "_law_refused" = true)
    (k54 : PySem.W.keepIn K (.ref f54) = true)
    {f55 : Addr} {od55 an55 : Option Addr} {sl55 : Array (Option Value)} {oc55 kV55 dc55 pm55 cd55 ct55 : Value}
    (a55 : PySem.W.nsIn K mainGlobals "law" = some (some (.ref f55)))
    (l55 : K.lookup f55 = some ⟨oc55, od55, .func (PySem.W.fnOf "law" "law" (defArgs s_law) (defBody s_law) (defScope s_law) .none kV55 dc55 pm55 an55 cd55 ct55), sl55⟩)
    (c55 : PySem.W.codeIn K cd55 "law" = true)
    (k55 : PySem.W.keepIn K (.ref f55) = true)
    (z0 : PySem.W.nsIn K mainGlobals "ValueError" = some none)
    (z1 : PySem.W.nsIn K mainGlobals "abs" = some none)
    (z2 : PySem.W.nsIn K mainGlobals "bool" = some none)
    (z3 : PySem.W.nsIn K mainGlobals "enumerate" = some none)
    (z4 : PySem.W.nsIn K mainGlobals "int" = some none)
    (z5 : PySem.W.nsIn K mainGlobals "isinstance" = some none)
    (z6 : PySem.W.nsIn K mainGlobals "iter" = some none)
    (z7 : PySem.W.nsIn K mainGlobals "len" = some none)
    (z8 : PySem.W.nsIn K mainGlobals "list" = some none)
    (z9 : PySem.W.nsIn K mainGlobals "range" = some none)
    (z10 : PySem.W.nsIn K mainGlobals "str" = some none)
    (z11 : PySem.W.nsIn K mainGlobals "tuple" = some none)
    {w0 : Value}
    (y0 : PySem.W.nsIn K mainGlobals "MOST_NODES" = some (some w0))
    (x0 : ∃ t, w0 = .int 400 t)
    {U0 : Addr} {un0 : Nat} {us0 : Array (Option Value)} {ut0_0 : Tok} {ut0_1 : Tok} {ut0_2 : Tok} {ut0_3 : Tok}
    (ua0 : PySem.W.nsIn K mainGlobals "WORDS" = some (some (.ref U0)))
    (ul0 : K.lookup U0 = some ⟨.type "tuple", none, .seq #[.str "drop" ut0_0, .str "put" ut0_1, .str "move" ut0_2, .str "say" ut0_3] un0, us0⟩)
    {U1 : Addr} {un1 : Nat} {us1 : Array (Option Value)} {ut1_0 : Tok} {ut1_1 : Tok} {ut1_2 : Tok} {ut1_3 : Tok}
    (ua1 : PySem.W.nsIn K mainGlobals "LENGTHS" = some (some (.ref U1)))
    (ul1 : K.lookup U1 = some ⟨.type "tuple", none, .seq #[.int 2 ut1_0, .int 4 ut1_1, .int 3 ut1_2, .int 3 ut1_3] un1, us1⟩)
    (cg0 : PySem.W.plainGet K C0 Str.empty = true)
    (ch0 : PySem.W.hasDictIn K C0 = true)
    (co0 : PySem.W.plainOver K C0 = true)
    (cs0 : PySem.W.findIn K (.ref C0) "__setattr__" = some (some (.builtin "object.__setattr__")))
    (cf0_0 : PySem.W.findIn K (.ref C0) "tree" = some none)
    (cf0_1 : PySem.W.findIn K (.ref C0) "nodes" = some none)
    (cf0_2 : PySem.W.findIn K (.ref C0) "above" = some none)
    (cf0_3 : PySem.W.findIn K (.ref C0) "order" = some none)
    (cm0 : PySem.W.makesIn K C0 = true)
    (ck0 : PySem.W.keepIn K (.ref C0) = true)
    (ct0_a : PySem.W.findIn K (.ref C0) "__class__" = some (some (.builtin "object.__class__")))
    (ct0_b : PySem.W.specialIn K (.builtin "object.__class__") "__get__" = some (some (.builtin "getset_descriptor.__get__")))
    (ct0_c : PySem.W.takesIn K (.builtin "object.__class__") = some true)
    (ct0_d : PySem.W.mroIn K C0 (.type "object") = some true)
    (cg1 : PySem.W.plainGet K C1 Str.empty = true)
    (ch1 : PySem.W.hasDictIn K C1 = true)
    (co1 : PySem.W.plainOver K C1 = true)
    (cs1 : PySem.W.findIn K (.ref C1) "__setattr__" = some (some (.builtin "object.__setattr__")))
    (cf1_0 : PySem.W.findIn K (.ref C1) "first_page" = some none)
    (cf1_1 : PySem.W.findIn K (.ref C1) "last_page" = some none)
    (cf1_2 : PySem.W.findIn K (.ref C1) "rows" = some none)
    (cf1_3 : PySem.W.findIn K (.ref C1) "undone" = some none)
    (cm1 : PySem.W.makesIn K C1 = true)
    (ck1 : PySem.W.keepIn K (.ref C1) = true)
    (ct1_a : PySem.W.findIn K (.ref C1) "__class__" = some (some (.builtin "object.__class__")))
    (ct1_b : PySem.W.specialIn K (.builtin "object.__class__") "__get__" = some (some (.builtin "getset_descriptor.__get__")))
    (ct1_c : PySem.W.takesIn K (.builtin "object.__class__") = some true)
    (ct1_d : PySem.W.mroIn K C1 (.type "object") = some true)
    {file : Str}
    {E0 E1 E2 E3 : Addr}
    (xa0 : PySem.W.nsIn K mainGlobals "NoNode" = some (some (.ref E0)))
    (xa1 : PySem.W.nsIn K mainGlobals "TwiceMarked" = some (some (.ref E1)))
    (xa2 : PySem.W.nsIn K mainGlobals "TooMany" = some (some (.ref E2)))
    (xa3 : PySem.W.nsIn K mainGlobals "NotOnePage" = some (some (.ref E3)))
    {R0 : Addr}
    (ra0 : PySem.W.nsIn K mainGlobals "ScreenError" = some (some (.ref R0)))
    (rb0 : PySem.W.isClsIn K R0 = true)
    (rc0 : PySem.W.typeIn K (.ref R0) = some (.type "type"))
    (rd0 : PySem.W.subIn K (.ref R0) (.type "BaseException") = some true)
    {R1 : Addr}
    (ra1 : PySem.W.nsIn K mainGlobals "BadPatch" = some (some (.ref R1)))
    (rb1 : PySem.W.isClsIn K R1 = true)
    (rc1 : PySem.W.typeIn K (.ref R1) = some (.type "type"))
    {R2 : Addr}
    (ra2 : PySem.W.nsIn K mainGlobals "RootStays" = some (some (.ref R2)))
    (rb2 : PySem.W.isClsIn K R2 = true)
    (rc2 : PySem.W.typeIn K (.ref R2) = some (.type "type"))
    {J0 : Addr}
    {xnm0 xq0 : Str} {xN0 : Addr} {xbs0 xbm0 xsub0 : List Value} {xsn0 : List Str} {xab0 : Bool} {xcol0 : Option Bool} {xdd0 : Option Addr} {xm00 xm10 xm20 xm30 xm50 : Option Value}
    (xL0 : K.lookup E0 = some (excClassObj xnm0 xq0 E0 xN0 xbs0 xbm0 true xsn0 xsub0 xab0 xcol0 xdd0 xm00 xm10 xm20 xm30 xm50 "ValueError.__new__"))
    (xr0 : PySem.HandSPX.refsVE xbm0 = true)
    (xs0 : PySem.W.findIn K (.ref E0) "__setattr__" = some (some (.builtin "object.__setattr__")))
    (xg0 : PySem.W.findIn K (.ref E0) "__getattribute__" = some (some (.builtin "BaseException.__getattribute__")))
    (xh0 : PySem.W.findIn K (.ref E0) "__getattr__" = some none)
    (xf0 : PySem.W.findIn K (.ref E0) "mark" = some none)
    (xi0 : PySem.W.findIn K (.ref E0) "__init__" = some (some (.ref J0)))
    (xt0 : PySem.W.typeIn K (.ref J0) = some (.type "function"))
    {xoc0 xkV0 xdc0 xpm0 xct0 xccl0 xcl0 : Value} {xod0 xan0 xcdd0 xcld0 : Option Addr} {xsl0 xccs0 xcsl0 : Array (Option Value)} {cda0 cc0 : Addr} {xvs0 : Array Value} {xtf0 : Tok}
    (xl0 : K.lookup J0 = some ⟨xoc0, xod0, .func (PySem.W.ksFn "__init__" "NoNode.__init__" (defArgs s_NoNode_init) (defBody s_NoNode_init) (defScope s_NoNode_init) .none xkV0 xdc0 xpm0 xan0 (.ref cda0) xct0 cc0), xsl0⟩)
    (xd0 : PySem.W.codeIn K (.ref cda0) "NoNode.__init__" = true)
    (xe0 : K.lookup cda0 = some ⟨xccl0, xcdd0, .fields xvs0, xccs0⟩)
    (xv0 : xvs0[2]? = some (.str file xtf0))
    (xc0 : K.lookup cc0 = some ⟨xcl0, xcld0, .cell (some (.ref E0)), xcsl0⟩)
    (xk0 : PySem.W.keepIn K (.ref E0) = true)
    (xb0 : PySem.W.subIn K (.ref E0) (.type "BaseException") = some true)
    (xy0 : PySem.W.typeIn K (.ref E0) = some (.type "type"))
    (xj0 : PySem.W.hasDictIn K E0 = true)
    (xp0 : PySem.W.ks_superIn K E0 E0 "__init__" = some (some (.builtin "ValueError.__init__")))
    (xw0 : PySem.W.subIn K (.ref E0) (.type "ValueError") = some true)
    (xz0 : PySem.W.mroIn K E0 (.ref E0) = some true)
    (xo0 : PySem.W.nsIn K cStatics "thirdparty.any" = some none)
    (xu0 : PySem.W.nsIn K mainGlobals "super" = some none)
    (xca0 : PySem.W.findIn K (.ref E0) "__class__" = some (some (.builtin "object.__class__")))
    (xcb0 : PySem.W.specialIn K (.builtin "object.__class__") "__get__" = some (some (.builtin "getset_descriptor.__get__")))
    (xcc0 : PySem.W.takesIn K (.builtin "object.__class__") = some true)
    (xcd0 : PySem.W.mroIn K E0 (.type "object") = some true)
    (xsc0 : PySem.W.isClsIn K E0 = true)
    (xss0 : PySem.W.subIn K (.ref E0) (.ref E0) = some true)
    {J1 : Addr}
    {xnm1 xq1 : Str} {xN1 : Addr} {xbs1 xbm1 xsub1 : List Value} {xsn1 : List Str} {xab1 : Bool} {xcol1 : Option Bool} {xdd1 : Option Addr} {xm01 xm11 xm21 xm31 xm51 : Option Value}
    (xL1 : K.lookup E1 = some (excClassObj xnm1 xq1 E1 xN1 xbs1 xbm1 true xsn1 xsub1 xab1 xcol1 xdd1 xm01 xm11 xm21 xm31 xm51 "ValueError.__new__"))
    (xr1 : PySem.HandSPX.refsVE xbm1 = true)
    (xs1 : PySem.W.findIn K (.ref E1) "__setattr__" = some (some (.builtin "object.__setattr__")))
    (xg1 : PySem.W.findIn K (.ref E1) "__getattribute__" = some (some (.builtin "BaseException.__getattribute__")))
    (xh1 : PySem.W.findIn K (.ref E1) "__getattr__" = some none)
    (xf1 : PySem.W.findIn K (.ref E1) "mark" = some none)
    (xi1 : PySem.W.findIn K (.ref E1) "__init__" = some (some (.ref J1)))
    (xt1 : PySem.W.typeIn K (.ref J1) = some (.type "function"))
    {xoc1 xkV1 xdc1 xpm1 xct1 xccl1 xcl1 : Value} {xod1 xan1 xcdd1 xcld1 : Option Addr} {xsl1 xccs1 xcsl1 : Array (Option Value)} {cda1 cc1 : Addr} {xvs1 : Array Value} {xtf1 : Tok}
    (xl1 : K.lookup J1 = some ⟨xoc1, xod1, .func (PySem.W.ksFn "__init__" "TwiceMarked.__init__" (defArgs s_TwiceMarked_init) (defBody s_TwiceMarked_init) (defScope s_TwiceMarked_init) .none xkV1 xdc1 xpm1 xan1 (.ref cda1) xct1 cc1), xsl1⟩)
    (xd1 : PySem.W.codeIn K (.ref cda1) "TwiceMarked.__init__" = true)
    (xe1 : K.lookup cda1 = some ⟨xccl1, xcdd1, .fields xvs1, xccs1⟩)
    (xv1 : xvs1[2]? = some (.str file xtf1))
    (xc1 : K.lookup cc1 = some ⟨xcl1, xcld1, .cell (some (.ref E1)), xcsl1⟩)
    (xk1 : PySem.W.keepIn K (.ref E1) = true)
    (xb1 : PySem.W.subIn K (.ref E1) (.type "BaseException") = some true)
    (xy1 : PySem.W.typeIn K (.ref E1) = some (.type "type"))
    (xj1 : PySem.W.hasDictIn K E1 = true)
    (xp1 : PySem.W.ks_superIn K E1 E1 "__init__" = some (some (.builtin "ValueError.__init__")))
    (xw1 : PySem.W.subIn K (.ref E1) (.type "ValueError") = some true)
    (xz1 : PySem.W.mroIn K E1 (.ref E1) = some true)
    (xo1 : PySem.W.nsIn K cStatics "thirdparty.any" = some none)
    (xu1 : PySem.W.nsIn K mainGlobals "super" = some none)
    (xca1 : PySem.W.findIn K (.ref E1) "__class__" = some (some (.builtin "object.__class__")))
    (xcb1 : PySem.W.specialIn K (.builtin "object.__class__") "__get__" = some (some (.builtin "getset_descriptor.__get__")))
    (xcc1 : PySem.W.takesIn K (.builtin "object.__class__") = some true)
    (xcd1 : PySem.W.mroIn K E1 (.type "object") = some true)
    (xsc1 : PySem.W.isClsIn K E1 = true)
    (xss1 : PySem.W.subIn K (.ref E1) (.ref E1) = some true)
    {J2 : Addr}
    {xnm2 xq2 : Str} {xN2 : Addr} {xbs2 xbm2 xsub2 : List Value} {xsn2 : List Str} {xab2 : Bool} {xcol2 : Option Bool} {xdd2 : Option Addr} {xm02 xm12 xm22 xm32 xm52 : Option Value}
    (xL2 : K.lookup E2 = some (excClassObj xnm2 xq2 E2 xN2 xbs2 xbm2 true xsn2 xsub2 xab2 xcol2 xdd2 xm02 xm12 xm22 xm32 xm52 "ValueError.__new__"))
    (xr2 : PySem.HandSPX.refsVE xbm2 = true)
    (xs2 : PySem.W.findIn K (.ref E2) "__setattr__" = some (some (.builtin "object.__setattr__")))
    (xg2 : PySem.W.findIn K (.ref E2) "__getattribute__" = some (some (.builtin "BaseException.__getattribute__")))
    (xh2 : PySem.W.findIn K (.ref E2) "__getattr__" = some none)
    (xf2 : PySem.W.findIn K (.ref E2) "count" = some none)
    (xi2 : PySem.W.findIn K (.ref E2) "__init__" = some (some (.ref J2)))
    (xt2 : PySem.W.typeIn K (.ref J2) = some (.type "function"))
    {xoc2 xkV2 xdc2 xpm2 xct2 xccl2 xcl2 : Value} {xod2 xan2 xcdd2 xcld2 : Option Addr} {xsl2 xccs2 xcsl2 : Array (Option Value)} {cda2 cc2 : Addr} {xvs2 : Array Value} {xtf2 : Tok}
    (xl2 : K.lookup J2 = some ⟨xoc2, xod2, .func (PySem.W.ksFn "__init__" "TooMany.__init__" (defArgs s_TooMany_init) (defBody s_TooMany_init) (defScope s_TooMany_init) .none xkV2 xdc2 xpm2 xan2 (.ref cda2) xct2 cc2), xsl2⟩)
    (xd2 : PySem.W.codeIn K (.ref cda2) "TooMany.__init__" = true)
    (xe2 : K.lookup cda2 = some ⟨xccl2, xcdd2, .fields xvs2, xccs2⟩)
    (xv2 : xvs2[2]? = some (.str file xtf2))
    (xc2 : K.lookup cc2 = some ⟨xcl2, xcld2, .cell (some (.ref E2)), xcsl2⟩)
    (xk2 : PySem.W.keepIn K (.ref E2) = true)
    (xb2 : PySem.W.subIn K (.ref E2) (.type "BaseException") = some true)
    (xy2 : PySem.W.typeIn K (.ref E2) = some (.type "type"))
    (xj2 : PySem.W.hasDictIn K E2 = true)
    (xp2 : PySem.W.ks_superIn K E2 E2 "__init__" = some (some (.builtin "ValueError.__init__")))
    (xw2 : PySem.W.subIn K (.ref E2) (.type "ValueError") = some true)
    (xz2 : PySem.W.mroIn K E2 (.ref E2) = some true)
    (xo2 : PySem.W.nsIn K cStatics "thirdparty.any" = some none)
    (xu2 : PySem.W.nsIn K mainGlobals "super" = some none)
    (xca2 : PySem.W.findIn K (.ref E2) "__class__" = some (some (.builtin "object.__class__")))
    (xcb2 : PySem.W.specialIn K (.builtin "object.__class__") "__get__" = some (some (.builtin "getset_descriptor.__get__")))
    (xcc2 : PySem.W.takesIn K (.builtin "object.__class__") = some true)
    (xcd2 : PySem.W.mroIn K E2 (.type "object") = some true)
    (xsc2 : PySem.W.isClsIn K E2 = true)
    (xss2 : PySem.W.subIn K (.ref E2) (.ref E2) = some true)
    {J3 : Addr}
    {xnm3 xq3 : Str} {xN3 : Addr} {xbs3 xbm3 xsub3 : List Value} {xsn3 : List Str} {xab3 : Bool} {xcol3 : Option Bool} {xdd3 : Option Addr} {xm03 xm13 xm23 xm33 xm53 : Option Value}
    (xL3 : K.lookup E3 = some (excClassObj xnm3 xq3 E3 xN3 xbs3 xbm3 true xsn3 xsub3 xab3 xcol3 xdd3 xm03 xm13 xm23 xm33 xm53 "ValueError.__new__"))
    (xr3 : PySem.HandSPX.refsVE xbm3 = true)
    (xs3 : PySem.W.findIn K (.ref E3) "__setattr__" = some (some (.builtin "object.__setattr__")))
    (xg3 : PySem.W.findIn K (.ref E3) "__getattribute__" = some (some (.builtin "BaseException.__getattribute__")))
    (xh3 : PySem.W.findIn K (.ref E3) "__getattr__" = some none)
    (xf3 : PySem.W.findIn K (.ref E3) "mark" = some none)
    (xi3 : PySem.W.findIn K (.ref E3) "__init__" = some (some (.ref J3)))
    (xt3 : PySem.W.typeIn K (.ref J3) = some (.type "function"))
    {xoc3 xkV3 xdc3 xpm3 xct3 xccl3 xcl3 : Value} {xod3 xan3 xcdd3 xcld3 : Option Addr} {xsl3 xccs3 xcsl3 : Array (Option Value)} {cda3 cc3 : Addr} {xvs3 : Array Value} {xtf3 : Tok}
    (xl3 : K.lookup J3 = some ⟨xoc3, xod3, .func (PySem.W.ksFn "__init__" "NotOnePage.__init__" (defArgs s_NotOnePage_init) (defBody s_NotOnePage_init) (defScope s_NotOnePage_init) .none xkV3 xdc3 xpm3 xan3 (.ref cda3) xct3 cc3), xsl3⟩)
    (xd3 : PySem.W.codeIn K (.ref cda3) "NotOnePage.__init__" = true)
    (xe3 : K.lookup cda3 = some ⟨xccl3, xcdd3, .fields xvs3, xccs3⟩)
    (xv3 : xvs3[2]? = some (.str file xtf3))
    (xc3 : K.lookup cc3 = some ⟨xcl3, xcld3, .cell (some (.ref E3)), xcsl3⟩)
    (xk3 : PySem.W.keepIn K (.ref E3) = true)
    (xb3 : PySem.W.subIn K (.ref E3) (.type "BaseException") = some true)
    (xy3 : PySem.W.typeIn K (.ref E3) = some (.type "type"))
    (xj3 : PySem.W.hasDictIn K E3 = true)
    (xp3 : PySem.W.ks_superIn K E3 E3 "__init__" = some (some (.builtin "ValueError.__init__")))
    (xw3 : PySem.W.subIn K (.ref E3) (.type "ValueError") = some true)
    (xz3 : PySem.W.mroIn K E3 (.ref E3) = some true)
    (xo3 : PySem.W.nsIn K cStatics "thirdparty.any" = some none)
    (xu3 : PySem.W.nsIn K mainGlobals "super" = some none)
    (xca3 : PySem.W.findIn K (.ref E3) "__class__" = some (some (.builtin "object.__class__")))
    (xcb3 : PySem.W.specialIn K (.builtin "object.__class__") "__get__" = some (some (.builtin "getset_descriptor.__get__")))
    (xcc3 : PySem.W.takesIn K (.builtin "object.__class__") = some true)
    (xcd3 : PySem.W.mroIn K E3 (.type "object") = some true)
    (xn3_R1 : PySem.W.subIn K (.ref E3) (.ref R1) = some false)
    (xq3_R1 : (Value.ref E3 == Value.ref R1) = false)
    (xn3_E0 : PySem.W.subIn K (.ref E3) (.ref E0) = some false)
    (xq3_E0 : (Value.ref E3 == Value.ref E0) = false)
    (xn3_R2 : PySem.W.subIn K (.ref E3) (.ref R2) = some false)
    (xq3_R2 : (Value.ref E3 == Value.ref R2) = false)
    (xn3_E1 : PySem.W.subIn K (.ref E3) (.ref E1) = some false)
    (xq3_E1 : (Value.ref E3 == Value.ref E1) = false)
    (xa3_0 : PySem.W.subIn K (.ref E3) (.ref R0) = some true)
    (xb3_0 : (Value.ref E3 == Value.ref R0) = false)
    (xm3_0 : PySem.W.subIn K (.ref E3) (.ref R0) = some true)
    (xsc3 : PySem.W.isClsIn K E3 = true)
    (xss3 : PySem.W.subIn K (.ref E3) (.ref E3) = some true)
    (nl0 : PySem.W.findIn K (.ref C0) "__len__" = some none)
    (nh0 : PySem.W.findIn K (.ref C0) "__length_hint__" = some none)
    (nl1 : PySem.W.findIn K (.ref C1) "__len__" = some none)
    (nh1 : PySem.W.findIn K (.ref C1) "__length_hint__" = some none)
    : ∃ T : Top K mg W, T.a_law = f55 ∧ T.x_file = file ∧ ∀ (s : Shared) (v : Value), BindsTo s T.d_law ⟨[v], []⟩ [("_law_script", v)] := by
  have F0 := fun_mk (st := s_is_number) l0 c0 k0
  have F1 := fun_mk (st := s_nodes_of) l1 c1 k1
  have F2 := fun_mk (st := s_order_of) l2 c2 k2
  have F3 := fun_mk (st := s_Page_init) l3 c3 k3
  have F4 := fun_mk (st := s_Page_top) l4 c4 k4
  have F5 := fun_mk (st := s_Page_getitem) l5 c5 k5
  have F6 := fun_mk (st := s_Page_contains) l6 c6 k6
  have F7 := fun_mk (st := s_Page_iter) l7 c7 k7
  have F8 := fun_mk (st := s_Page_eq) l8 c8 k8
  have F9 := fun_mk (st := s_Page_parent) l9 c9 k9
  have F10 := fun_mk (st := s_check_patch) l10 c10 k10
  have F11 := fun_mk (st := s_path_to) l11 c11 k11
  have F12 := fun_mk (st := s_node_on) l12 c12 k12
  have F13 := fun_mk (st := s_with_node) l13 c13 k13
  have F14 := fun_mk (st := s_with_children) l14 c14 k14
  have F15 := fun_mk (st := s_check_marks) l15 c15 k15
  have F16 := fun_mk (st := s_check_at) l16 c16 k16
  have F17 := fun_mk (st := s_with_put) l17 c17 k17
  have F18 := fun_mk (st := s_with_say) l18 c18 k18
  have F19 := fun_mk (st := s_with_drop) l19 c19 k19
  have F20 := fun_mk (st := s_with_move) l20 c20 k20
  have F21 := fun_mk (st := s_root_after) l21 c21 k21
  have F22 := fun_mk (st := s_Patches_init) l22 c22 k22
  have F23 := fun_mk (st := s_Patches_page) l23 c23 k23
  have F24 := fun_mk (st := s_Patches_end) l24 c24 k24
  have F25 := fun_mk (st := s_Patches_iter) l25 c25 k25
  have F26 := fun_mk (st := s_check_roots) l26 c26 k26
  have F27 := fun_mk (st := s_staying) l27 c27 k27
  have F28 := fun_mk (st := s_longest_run) l28 c28 k28
  have F29 := fun_mk (st := s_moves_between) l29 c29 k29
  have F30 := fun_mk (st := s_between) l30 c30 k30
  have F31 := fun_mk (st := s_mixed) l31 c31 k31
  have F32 := fun_mk (st := s_bag) l32 c32 k32
  have F33 := fun_mk (st := s_pick) l33 c33 k33
  have F34 := fun_mk (st := s_mingled) l34 c34 k34
  have F35 := fun_mk (st := s_sorted) l35 c35 k35
  have F36 := fun_mk (st := s_number) l36 c36 k36
  have F37 := fun_mk (st := s_sign) l37 c37 k37
  have F38 := fun_mk (st := s_marks) l38 c38 k38
  have F39 := fun_mk (st := s_label) l39 c39 k39
  have F40 := fun_mk (st := s_parents) l40 c40 k40
  have F41 := fun_mk (st := s_moved_parents) l41 c41 k41
  have F42 := fun_mk (st := s_ranks) l42 c42 k42
  have F43 := fun_mk (st := s_grown) l43 c43 k43
  have F44 := fun_mk (st := s_standing) l44 c44 k44
  have F45 := fun_mk (st := s_pair) l45 c45 k45
  have F46 := fun_mk (st := s_table) l46 c46 k46
  have F47 := fun_mk (st := s_node) l47 c47 k47
  have F48 := fun_mk (st := s_marked) l48 c48 k48
  have F49 := fun_mk (st := s_after) l49 c49 k49
  have F50 := fun_mk (st := s_due) l50 c50 k50
  have F51 := fun_mk (st := s_stays) l51 c51 k51
  have F52 := fun_mk (st := s_sound) l52 c52 k52
  have F53 := fun_mk (st := s_leads) l53 c53 k53
  have F54 := fun_mk (st := s_refused) l54 c54 k54
  have F55 := fun_mk (st := s_law) l55 c55 k55
  exact ⟨⟨PySem.W.mg_none_of X G z0,
    PySem.W.mg_none_of X G z1,
    PySem.W.mg_none_of X G z2,
    PySem.W.mg_none_of X G z3,
    PySem.W.mg_none_of X G z4,
    PySem.W.mg_none_of X G z5,
    PySem.W.mg_none_of X G z6,
    PySem.W.mg_none_of X G z7,
    PySem.W.mg_none_of X G z8,
    PySem.W.mg_none_of X G z9,
    PySem.W.mg_none_of X G z10,
    PySem.W.mg_none_of X G z11,
    (by obtain ⟨t, e⟩ := x0; exact ⟨t, e ▸ PySem.W.mg_of X G y0⟩),
    f0,
    _,
    F0,
    F0.binds (ps := ["thing", "low", "high"]) (fun _ _ _ _ _ _ us hl => match us, hl with | [_, _, _], _ => rfl),
    PySem.W.mg_of X G a0,
    f1,
    _,
    F1,
    F1.binds (ps := ["root"]) (fun _ _ _ _ _ _ us hl => match us, hl with | [_], _ => rfl),
    PySem.W.mg_of X G a1,
    f2,
    _,
    F2,
    F2.binds (ps := ["root"]) (fun _ _ _ _ _ _ us hl => match us, hl with | [_], _ => rfl),
    PySem.W.mg_of X G a2,
    f3,
    _,
    F3,
    F3.binds (ps := ["self", "root"]) (fun _ _ _ _ _ _ us hl => match us, hl with | [_, _], _ => rfl),
    f4,
    _,
    F4,
    F4.binds (ps := ["self"]) (fun _ _ _ _ _ _ us hl => match us, hl with | [_], _ => rfl),
    f5,
    _,
    F5,
    F5.binds (ps := ["self", "mark"]) (fun _ _ _ _ _ _ us hl => match us, hl with | [_, _], _ => rfl),
    f6,
    _,
    F6,
    F6.binds (ps := ["self", "mark"]) (fun _ _ _ _ _ _ us hl => match us, hl with | [_, _], _ => rfl),
    f7,
    _,
    F7,
    F7.binds (ps := ["self"]) (fun _ _ _ _ _ _ us hl => match us, hl with | [_], _ => rfl),
    f8,
    _,
    F8,
    F8.binds (ps := ["self", "other"]) (fun _ _ _ _ _ _ us hl => match us, hl with | [_, _], _ => rfl),
    f9,
    _,
    F9,
    F9.binds (ps := ["self", "mark"]) (fun _ _ _ _ _ _ us hl => match us, hl with | [_, _], _ => rfl),
    f10,
    _,
    F10,
    F10.binds (ps := ["patch"]) (fun _ _ _ _ _ _ us hl => match us, hl with | [_], _ => rfl),
    PySem.W.mg_of X G a10,
    f11,
    _,
    F11,
    F11.binds (ps := ["root", "mark"]) (fun _ _ _ _ _ _ us hl => match us, hl with | [_, _], _ => rfl),
    PySem.W.mg_of X G a11,
    f12,
    _,
    F12,
    F12.binds (ps := ["root", "path"]) (fun _ _ _ _ _ _ us hl => match us, hl with | [_, _], _ => rfl),
    PySem.W.mg_of X G a12,
    f13,
    _,
    F13,
    F13.binds (ps := ["root", "path", "node"]) (fun _ _ _ _ _ _ us hl => match us, hl with | [_, _, _], _ => rfl),
    PySem.W.mg_of X G a13,
    f14,
    _,
    F14,
    F14.binds (ps := ["root", "path", "children"]) (fun _ _ _ _ _ _ us hl => match us, hl with | [_, _, _], _ => rfl),
    PySem.W.mg_of X G a14,
    f15,
    _,
    F15,
    F15.binds (ps := ["root", "node"]) (fun _ _ _ _ _ _ us hl => match us, hl with | [_, _], _ => rfl),
    PySem.W.mg_of X G a15,
    f16,
    _,
    F16,
    F16.binds (ps := ["at", "count"]) (fun _ _ _ _ _ _ us hl => match us, hl with | [_, _], _ => rfl),
    PySem.W.mg_of X G a16,
    f17,
    _,
    F17,
    F17.binds (ps := ["root", "path", "patch"]) (fun _ _ _ _ _ _ us hl => match us, hl with | [_, _, _], _ => rfl),
    PySem.W.mg_of X G a17,
    f18,
    _,
    F18,
    F18.binds (ps := ["root", "path", "patch"]) (fun _ _ _ _ _ _ us hl => match us, hl with | [_, _, _], _ => rfl),
    PySem.W.mg_of X G a18,
    f19,
    _,
    F19,
    F19.binds (ps := ["root", "path"]) (fun _ _ _ _ _ _ us hl => match us, hl with | [_, _], _ => rfl),
    PySem.W.mg_of X G a19,
    f20,
    _,
    F20,
    F20.binds (ps := ["root", "path", "patch"]) (fun _ _ _ _ _ _ us hl => match us, hl with | [_, _, _], _ => rfl),
    PySem.W.mg_of X G a20,
    f21,
    _,
    F21,
    F21.binds (ps := ["root", "patch"]) (fun _ _ _ _ _ _ us hl => match us, hl with | [_, _], _ => rfl),
    PySem.W.mg_of X G a21,
    f22,
    _,
    F22,
    F22.binds (ps := ["self", "page", "rows"]) (fun _ _ _ _ _ _ us hl => match us, hl with | [_, _, _], _ => rfl),
    f23,
    _,
    F23,
    F23.binds (ps := ["self"]) (fun _ _ _ _ _ _ us hl => match us, hl with | [_], _ => rfl),
    f24,
    _,
    F24,
    F24.binds (ps := ["self"]) (fun _ _ _ _ _ _ us hl => match us, hl with | [_], _ => rfl),
    f25,
    _,
    F25,
    F25.binds (ps := ["self"]) (fun _ _ _ _ _ _ us hl => match us, hl with | [_], _ => rfl),
    f26,
    _,
    F26,
    F26.binds (ps := ["old", "new"]) (fun _ _ _ _ _ _ us hl => match us, hl with | [_, _], _ => rfl),
    PySem.W.mg_of X G a26,
    f27,
    _,
    F27,
    F27.binds (ps := ["old", "new"]) (fun _ _ _ _ _ _ us hl => match us, hl with | [_, _], _ => rfl),
    PySem.W.mg_of X G a27,
    f28,
    _,
    F28,
    F28.binds (ps := ["numbers"]) (fun _ _ _ _ _ _ us hl => match us, hl with | [_], _ => rfl),
    PySem.W.mg_of X G a28,
    f29,
    _,
    F29,
    F29.binds (ps := ["now", "wanted"]) (fun _ _ _ _ _ _ us hl => match us, hl with | [_, _], _ => rfl),
    PySem.W.mg_of X G a29,
    f30,
    _,
    F30,
    F30.binds (ps := ["old", "new"]) (fun _ _ _ _ _ _ us hl => match us, hl with | [_, _], _ => rfl),
    PySem.W.mg_of X G a30,
    f31,
    _,
    F31,
    F31.binds (ps := ["_law_number_here", "_law_turn"]) (fun _ _ _ _ _ _ us hl => match us, hl with | [_, _], _ => rfl),
    PySem.W.mg_of X G a31,
    f32,
    _,
    F32,
    F32.binds (ps := ["_law_script"]) (fun _ _ _ _ _ _ us hl => match us, hl with | [_], _ => rfl),
    PySem.W.mg_of X G a32,
    f33,
    _,
    F33,
    F33.binds (ps := ["_law_bag_here", "_law_many"]) (fun _ _ _ _ _ _ us hl => match us, hl with | [_, _], _ => rfl),
    PySem.W.mg_of X G a33,
    f34,
    _,
    F34,
    F34.binds (ps := ["_law_bag_here", "_law_things"]) (fun _ _ _ _ _ _ us hl => match us, hl with | [_, _], _ => rfl),
    PySem.W.mg_of X G a34,
    f35,
    _,
    F35,
    F35.binds (ps := ["_law_things"]) (fun _ _ _ _ _ _ us hl => match us, hl with | [_], _ => rfl),
    PySem.W.mg_of X G a35,
    f36,
    _,
    F36,
    F36.binds (ps := ["_law_thing"]) (fun _ _ _ _ _ _ us hl => match us, hl with | [_], _ => rfl),
    PySem.W.mg_of X G a36,
    f37,
    _,
    F37,
    F37.binds (ps := ["_law_number_here"]) (fun _ _ _ _ _ _ us hl => match us, hl with | [_], _ => rfl),
    PySem.W.mg_of X G a37,
    f38,
    _,
    F38,
    F38.binds (ps := ["_law_bag_here", "_law_count"]) (fun _ _ _ _ _ _ us hl => match us, hl with | [_, _], _ => rfl),
    PySem.W.mg_of X G a38,
    f39,
    _,
    F39,
    F39.binds (ps := ["_law_bag_here"]) (fun _ _ _ _ _ _ us hl => match us, hl with | [_], _ => rfl),
    PySem.W.mg_of X G a39,
    f40,
    _,
    F40,
    F40.binds (ps := ["_law_bag_here", "_law_count"]) (fun _ _ _ _ _ _ us hl => match us, hl with | [_, _], _ => rfl),
    PySem.W.mg_of X G a40,
    f41,
    _,
    F41,
    F41.binds (ps := ["_law_bag_here", "_law_parents_here"]) (fun _ _ _ _ _ _ us hl => match us, hl with | [_, _], _ => rfl),
    PySem.W.mg_of X G a41,
    f42,
    _,
    F42,
    F42.binds (ps := ["_law_bag_here", "_law_many"]) (fun _ _ _ _ _ _ us hl => match us, hl with | [_, _], _ => rfl),
    PySem.W.mg_of X G a42,
    f43,
    _,
    F43,
    F43.binds (ps := ["_law_k", "_law_marks_here", "_law_labels", "_law_above", "_law_ranks_here"]) (fun _ _ _ _ _ _ us hl => match us, hl with | [_, _, _, _, _], _ => rfl),
    PySem.W.mg_of X G a43,
    f44,
    _,
    F44,
    F44.binds (ps := ["_law_bag_here", "_law_parents_here"]) (fun _ _ _ _ _ _ us hl => match us, hl with | [_, _], _ => rfl),
    PySem.W.mg_of X G a44,
    f45,
    _,
    F45,
    F45.binds (ps := ["_law_bag_here", "_law_many"]) (fun _ _ _ _ _ _ us hl => match us, hl with | [_, _], _ => rfl),
    PySem.W.mg_of X G a45,
    f46,
    _,
    F46,
    F46.binds (ps := ["_law_root"]) (fun _ _ _ _ _ _ us hl => match us, hl with | [_], _ => rfl),
    PySem.W.mg_of X G a46,
    f47,
    _,
    F47,
    F47.binds (ps := ["_law_root", "_law_mark"]) (fun _ _ _ _ _ _ us hl => match us, hl with | [_, _], _ => rfl),
    PySem.W.mg_of X G a47,
    f48,
    _,
    F48,
    F48.binds (ps := ["_law_root"]) (fun _ _ _ _ _ _ us hl => match us, hl with | [_], _ => rfl),
    PySem.W.mg_of X G a48,
    f49,
    _,
    F49,
    F49.binds (ps := ["_law_node_here", "_law_patch"]) (fun _ _ _ _ _ _ us hl => match us, hl with | [_, _], _ => rfl),
    PySem.W.mg_of X G a49,
    f50,
    _,
    F50,
    F50.binds (ps := ["_law_root", "_law_patch"]) (fun _ _ _ _ _ _ us hl => match us, hl with | [_, _], _ => rfl),
    PySem.W.mg_of X G a50,
    f51,
    _,
    F51,
    F51.binds (ps := ["_law_old", "_law_new"]) (fun _ _ _ _ _ _ us hl => match us, hl with | [_, _], _ => rfl),
    PySem.W.mg_of X G a51,
    f52,
    _,
    F52,
    F52.binds (ps := ["_law_patch", "_law_brought"]) (fun _ _ _ _ _ _ us hl => match us, hl with | [_, _], _ => rfl),
    PySem.W.mg_of X G a52,
    f53,
    _,
    F53,
    F53.binds (ps := ["_law_old", "_law_new", "_law_rows"]) (fun _ _ _ _ _ _ us hl => match us, hl with | [_, _, _], _ => rfl),
    PySem.W.mg_of X G a53,
    f54,
    _,
    F54,
    F54.binds (ps := ["_law_old", "_law_new", "_law_way"]) (fun _ _ _ _ _ _ us hl => match us, hl with | [_, _, _], _ => rfl),
    PySem.W.mg_of X G a54,
    f55,
    _,
    F55,
    F55.binds (ps := ["_law_script"]) (fun _ _ _ _ _ _ us hl => match us, hl with | [_], _ => rfl),
    PySem.W.mg_of X G a55,
    U0,
    PySem.W.mg_of X G ua0,
    fun H => .inr ⟨_, _, _, ul0, rfl, rfl, XL.sz, .cons ⟨_, rfl⟩ (.cons ⟨_, rfl⟩ (.cons ⟨_, rfl⟩ (.cons ⟨_, rfl⟩ (.nil))))⟩,
    ⟨_, ul0, rfl, rfl⟩,
    U1,
    PySem.W.mg_of X G ua1,
    fun H => .inr ⟨_, _, _, ul1, rfl, rfl, XL.sz, .cons ⟨_, rfl⟩ (.cons ⟨_, rfl⟩ (.cons ⟨_, rfl⟩ (.cons ⟨_, rfl⟩ (.nil))))⟩,
    ⟨_, ul1, rfl, rfl⟩,
    C0,
    PySem.W.mg_of X G ca0,
    ⟨cg0, ch0, co0, cs0⟩,
    cf0_0,
    cf0_1,
    cf0_2,
    cf0_3,
    ⟨cm0, a3, i3, ck0⟩,
    ⟨a5, i5, fi5⟩,
    ⟨a6, i6⟩,
    ⟨a7, i7⟩,
    ⟨a8, i8⟩,
    ⟨a9, i9, k9⟩,
    p4,
    ⟨a4, pg4, pt4, ⟨_, pc4⟩⟩,
    ⟨ct0_a, ct0_b, ct0_c, ct0_d, if_pos (beq_self_eq_true _)⟩,
    C1,
    PySem.W.mg_of X G ca1,
    ⟨cg1, ch1, co1, cs1⟩,
    cf1_0,
    cf1_1,
    cf1_2,
    cf1_3,
    ⟨cm1, a22, i22, ck1⟩,
    ⟨a25, i25⟩,
    p23,
    ⟨a23, pg23, pt23, ⟨_, pc23⟩⟩,
    p24,
    ⟨a24, pg24, pt24, ⟨_, pc24⟩⟩,
    ⟨ct1_a, ct1_b, ct1_c, ct1_d, if_pos (beq_self_eq_true _)⟩,
    file,
    R0,
    PySem.W.mg_of X G ra0,
    R1,
    PySem.W.mg_of X G ra1,
    R2,
    PySem.W.mg_of X G ra2,
    E0,
    J0,
    PySem.W.mg_of X G xa0,
    fun P pf => { gC := PySem.W.mg_of X G xa0, cls := ⟨_, _, _, _, _, _, _, _, _, _, _, _, _, _, _, xL0, xr0⟩, sa := xs0, ga := xg0, gg := xh0, noN := xf0, iC := xi0, tC := xt0, kC := xk0, exC := xb0, tyC := xy0, hdC := xj0, fn := ⟨_, _, _, _, _, _, _, _, _, _, _, ⟨24, 17, 24, 21⟩, ⟨24, 23, 24, 27⟩, ⟨⟨25, 8, 25, 13⟩, ⟨25, 8, 25, 15⟩, ⟨25, 8, 25, 24⟩, ⟨25, 27, 25, 45⟩, ⟨25, 46, 25, 50⟩, ⟨25, 45, 25, 53⟩, ⟨25, 25, 25, 54⟩, ⟨25, 8, 25, 55⟩, ⟨25, 8, 25, 55⟩, ⟨26, 8, 26, 12⟩, ⟨26, 8, 26, 17⟩, ⟨26, 20, 26, 24⟩, ⟨26, 8, 26, 24⟩, 114, .inl rfl⟩, _, _, _, _, _, _, _, _, _, xl0, xd0, xe0, xv0, pf.1, xc0, ⟨_, fun _ => rfl⟩, fun _ _ => rfl⟩, sup := xp0, subV := xw0, mroS := xz0, opq := xo0, htop := pf.2, hsup := PySem.W.mg_none_of X G xu0, f1 := by decide, f2 := by decide, f3 := by decide, f4 := by decide, ml := by decide +kernel },
    ⟨xg0, xh0, xb0, xj0, xca0, xcb0, xcc0, xcd0⟩,
    ⟨xg0, xh0, xb0, xj0⟩,
    exm_of xb0 xsc0 xy0 xss0,
    E1,
    J1,
    PySem.W.mg_of X G xa1,
    fun P pf => { gC := PySem.W.mg_of X G xa1, cls := ⟨_, _, _, _, _, _, _, _, _, _, _, _, _, _, _, xL1, xr1⟩, sa := xs1, ga := xg1, gg := xh1, noN := xf1, iC := xi1, tC := xt1, kC := xk1, exC := xb1, tyC := xy1, hdC := xj1, fn := ⟨_, _, _, _, _, _, _, _, _, _, _, ⟨19, 17, 19, 21⟩, ⟨19, 23, 19, 27⟩, ⟨⟨20, 8, 20, 13⟩, ⟨20, 8, 20, 15⟩, ⟨20, 8, 20, 24⟩, ⟨20, 27, 20, 48⟩, ⟨20, 49, 20, 53⟩, ⟨20, 48, 20, 56⟩, ⟨20, 25, 20, 57⟩, ⟨20, 8, 20, 58⟩, ⟨20, 8, 20, 58⟩, ⟨21, 8, 21, 12⟩, ⟨21, 8, 21, 17⟩, ⟨21, 20, 21, 24⟩, ⟨21, 8, 21, 24⟩, 114, .inl rfl⟩, _, _, _, _, _, _, _, _, _, xl1, xd1, xe1, xv1, pf.1, xc1, ⟨_, fun _ => rfl⟩, fun _ _ => rfl⟩, sup := xp1, subV := xw1, mroS := xz1, opq := xo1, htop := pf.2, hsup := PySem.W.mg_none_of X G xu1, f1 := by decide, f2 := by decide, f3 := by decide, f4 := by decide, ml := by decide +kernel },
    ⟨xg1, xh1, xb1, xj1, xca1, xcb1, xcc1, xcd1⟩,
    ⟨xg1, xh1, xb1, xj1⟩,
    exm_of xb1 xsc1 xy1 xss1,
    E2,
    J2,
    PySem.W.mg_of X G xa2,
    fun P pf => { gC := PySem.W.mg_of X G xa2, cls := ⟨_, _, _, _, _, _, _, _, _, _, _, _, _, _, _, xL2, xr2⟩, sa := xs2, ga := xg2, gg := xh2, noN := xf2, iC := xi2, tC := xt2, kC := xk2, exC := xb2, tyC := xy2, hdC := xj2, fn := ⟨_, _, _, _, _, _, _, _, _, _, _, ⟨9, 17, 9, 21⟩, ⟨9, 23, 9, 28⟩, ⟨⟨10, 8, 10, 13⟩, ⟨10, 8, 10, 15⟩, ⟨10, 8, 10, 24⟩, ⟨10, 27, 10, 37⟩, ⟨10, 38, 10, 43⟩, ⟨10, 37, 10, 44⟩, ⟨10, 25, 10, 45⟩, ⟨10, 8, 10, 46⟩, ⟨10, 8, 10, 46⟩, ⟨11, 8, 11, 12⟩, ⟨11, 8, 11, 18⟩, ⟨11, 21, 11, 26⟩, ⟨11, 8, 11, 26⟩, -1, .inr rfl⟩, _, _, _, _, _, _, _, _, _, xl2, xd2, xe2, xv2, pf.1, xc2, ⟨_, fun _ => rfl⟩, fun _ _ => rfl⟩, sup := xp2, subV := xw2, mroS := xz2, opq := xo2, htop := pf.2, hsup := PySem.W.mg_none_of X G xu2, f1 := by decide, f2 := by decide, f3 := by decide, f4 := by decide, ml := by decide +kernel },
    ⟨xg2, xh2, xb2, xj2, xca2, xcb2, xcc2, xcd2⟩,
    ⟨xg2, xh2, xb2, xj2⟩,
    exm_of xb2 xsc2 xy2 xss2,
    E3,
    J3,
    PySem.W.mg_of X G xa3,
    fun P pf => { gC := PySem.W.mg_of X G xa3, cls := ⟨_, _, _, _, _, _, _, _, _, _, _, _, _, _, _, xL3, xr3⟩, sa := xs3, ga := xg3, gg := xh3, noN := xf3, iC := xi3, tC := xt3, kC := xk3, exC := xb3, tyC := xy3, hdC := xj3, fn := ⟨_, _, _, _, _, _, _, _, _, _, _, ⟨39, 17, 39, 21⟩, ⟨39, 23, 39, 27⟩, ⟨⟨40, 8, 40, 13⟩, ⟨40, 8, 40, 15⟩, ⟨40, 8, 40, 24⟩, ⟨40, 27, 40, 46⟩, ⟨40, 47, 40, 51⟩, ⟨40, 46, 40, 54⟩, ⟨40, 25, 40, 55⟩, ⟨40, 8, 40, 56⟩, ⟨40, 8, 40, 56⟩, ⟨41, 8, 41, 12⟩, ⟨41, 8, 41, 17⟩, ⟨41, 20, 41, 24⟩, ⟨41, 8, 41, 24⟩, 114, .inl rfl⟩, _, _, _, _, _, _, _, _, _, xl3, xd3, xe3, xv3, pf.1, xc3, ⟨_, fun _ => rfl⟩, fun _ _ => rfl⟩, sup := xp3, subV := xw3, mroS := xz3, opq := xo3, htop := pf.2, hsup := PySem.W.mg_none_of X G xu3, f1 := by decide, f2 := by decide, f3 := by decide, f4 := by decide, ml := by decide +kernel },
    ⟨xg3, xh3, xb3, xj3, xca3, xcb3, xcc3, xcd3⟩,
    ⟨xg3, xh3, xb3, xj3⟩,
    kit_of xq3_R1 rb1 rc1 xn3_R1,
    kit_of xq3_R2 rb2 rc2 xn3_R2,
    kit_of xb3_0 rb0 rc0 xa3_0,
    kit_ty_of (by decide +kernel) xw3,
    exm_of rd0 rb0 rc0 xm3_0,
    exm_of xb3 xsc3 xy3 xss3,
    kit_of xq3_E0 xsc0 xy0 xn3_E0,
    kit_of xq3_E1 xsc1 xy1 xn3_E1,
    nl0,
    nh0,
    nl1,
    nh1⟩, rfl, rfl, fun s v => .of_eq rfl⟩
end K11
set_option Elab.async false
set_option linter.all false
set_option maxRecDepth 100000
set_option maxHeartbeats 4000000
namespace K11
open PySem PySem.Spec PyProof.Rows L2 XL
end K11
open PySem PySem.W PyProof.Rows
set_option maxHeartbeats 0 in
theorem PySem.Challenge.cw_drawnanew_k11_between_leads_holds : PySem.Challenge.rw_drawnanew_k11_between_leads.Holds := by
  w_on; o_law; k_head; (case hw => w_witness2)
  k_fill
  refine L2.walk_of (l := PySem.Challenge.rw_drawnanew_k11_between_leads) (n := 63) (k := 100) (x := "_law_script") (CX := fun _ => L2.CX0) (sp := fun w => K11.spLaw _) rfl (by decide) rfl ⟨rfl, by decide, by decide⟩ (fun w h Y => PySem.W.kIn_of Y) ?F (fun _ _ a ns hl _ hS => ⟨a, ns, rfl, hS, hl, fun _ => rfl⟩) (fun _ _ _ _ _ h => h)
  case F =>
    intro w mg fa h KX G hmg
    refine' K11.law_end KX G hmg (K11.top_mk (W := w) KX G ?ca0 ?ca1 ?a0 ?l0 ?c0 ?k0 ?a1 ?l1 ?c1 ?k1 ?a2 ?l2 ?c2 ?k2 ?a3 ?i3 ?l3 ?c3 ?k3 ?a4 ?pg4 ?pt4 ?pc4 ?l4 ?c4 ?k4 ?a5 ?i5 ?fi5 ?l5 ?c5 ?k5 ?a6 ?i6 ?l6 ?c6 ?k6 ?a7 ?i7 ?l7 ?c7 ?k7 ?a8 ?i8 ?l8 ?c8 ?k8 ?a9 ?i9 ?l9 ?c9 ?k9 ?a10 ?l10 ?c10 ?k10 ?a11 ?l11 ?c11 ?k11 ?a12 ?l12 ?c12 ?k12 ?a13 ?l13 ?c13 ?k13 ?a14 ?l14 ?c14 ?k14 ?a15 ?l15 ?c15 ?k15 ?a16 ?l16 ?c16 ?k16 ?a17 ?l17 ?c17 ?k17 ?a18 ?l18 ?c18 ?k18 ?a19 ?l19 ?c19 ?k19 ?a20 ?l20 ?c20 ?k20 ?a21 ?l21 ?c21 ?k21 ?a22 ?i22 ?l22 ?c22 ?k22 ?a23 ?pg23 ?pt23 ?pc23 ?l23 ?c23 ?k23 ?a24 ?pg24 ?pt24 ?pc24 ?l24 ?c24 ?k24 ?a25 ?i25 ?l25 ?c25 ?k25 ?a26 ?l26 ?c26 ?k26 ?a27 ?l27 ?c27 ?k27 ?a28 ?l28 ?c28 ?k28 ?a29 ?l29 ?c29 ?k29 ?a30 ?l30 ?c30 ?k30 ?a31 ?l31 ?c31 ?k31 ?a32 ?l32 ?c32 ?k32 ?a33 ?l33 ?c33 ?k33 ?a34 ?l34 ?c34 ?k34 ?a35 ?l35 ?c35 ?k35 ?a36 ?l36 ?c36 ?k36 ?a37 ?l37 ?c37 ?k37 ?a38 ?l38 ?c38 ?k38 ?a39 ?l39 ?c39 ?k39 ?a40 ?l40 ?c40 ?k40 ?a41 ?l41 ?c41 ?k41 ?a42 ?l42 ?c42 ?k42 ?a43 ?l43 ?c43 ?k43 ?a44 ?l44 ?c44 ?k44 ?a45 ?l45 ?c45 ?k45 ?a46 ?l46 ?c46 ?k46 ?a47 ?l47 ?c47 ?k47 ?a48 ?l48 ?c48 ?k48 ?a49 ?l49 ?c49 ?k49 ?a50 ?l50 ?c50 ?k50 ?a51 ?l51 ?c51 ?k51 ?a52 ?l52 ?c52 ?k52 ?a53 ?l53 ?c53 ?k53 ?a54 ?l54 ?c54 ?k54 ?a55 ?l55 ?c55 ?k55 ?z0 ?z1 ?z2 ?z3 ?z4 ?z5 ?z6 ?z7 ?z8 ?z9 ?z10 ?z11 ?y0 ?x0 ?ua0 ?ul0 ?ua1 ?ul1 ?cg0 ?ch0 ?co0 ?cs0 ?cf0_0 ?cf0_1 ?cf0_2 ?cf0_3 ?cm0 ?ck0 ?ct0_a ?ct0_b ?ct0_c ?ct0_d ?cg1 ?ch1 ?co1 ?cs1 ?cf1_0 ?cf1_1 ?cf1_2 ?cf1_3 ?cm1 ?ck1 ?ct1_a ?ct1_b ?ct1_c ?ct1_d ?xa0 ?xa1 ?xa2 ?xa3 ?ra0 ?rb0 ?rc0 ?rd0 ?ra1 ?rb1 ?rc1 ?ra2 ?rb2 ?rc2 ?xL0 ?xr0 ?xs0 ?xg0 ?xh0 ?xf0 ?xi0 ?xt0 ?xl0 ?xd0 ?xe0 ?xv0 ?xc0 ?xk0 ?xb0 ?xy0 ?xj0 ?xp0 ?xw0 ?xz0 ?xo0 ?xu0 ?xca0 ?xcb0 ?xcc0 ?xcd0 ?xsc0 ?xss0 ?xL1 ?xr1 ?xs1 ?xg1 ?xh1 ?xf1 ?xi1 ?xt1 ?xl1 ?xd1 ?xe1 ?xv1 ?xc1 ?xk1 ?xb1 ?xy1 ?xj1 ?xp1 ?xw1 ?xz1 ?xo1 ?xu1 ?xca1 ?xcb1 ?xcc1 ?xcd1 ?xsc1 ?xss1 ?xL2 ?xr2 ?xs2 ?xg2 ?xh2 ?xf2 ?xi2 ?xt2 ?xl2 ?xd2 ?xe2 ?xv2 ?xc2 ?xk2 ?xb2 ?xy2 ?xj2 ?xp2 ?xw2 ?xz2 ?xo2 ?xu2 ?xca2 ?xcb2 ?xcc2 ?xcd2 ?xsc2 ?xss2 ?xL3 ?xr3 ?xs3 ?xg3 ?xh3 ?xf3 ?xi3 ?xt3 ?xl3 ?xd3 ?xe3 ?xv3 ?xc3 ?xk3 ?xb3 ?xy3 ?xj3 ?xp3 ?xw3 ?xz3 ?xo3 ?xu3 ?xca3 ?xcb3 ?xcc3 ?xcd3 ?xn3_R1 ?xq3_R1 ?xn3_E0 ?xq3_E0 ?xn3_R2 ?xq3_R2 ?xn3_E1 ?xq3_E1 ?xa3_0 ?xb3_0 ?xm3_0 ?xsc3 ?xss3 ?nl0 ?nh0 ?nl1 ?nh1) ?pf
    (case ca0 => k_is)
    (case ca1 => k_is)
    (case a0 => k_is)
    (case l0 => k_is)
    (case c0 => k_is)
    (case k0 => k_is)
    (case a1 => k_is)
    (case l1 => k_is)
    (case c1 => k_is)
    (case k1 => k_is)
    (case a2 => k_is)
    (case l2 => k_is)
    (case c2 => k_is)
    (case k2 => k_is)
    (case a3 => k_is)
    (case i3 => k_is)
    (case l3 => k_is)
    (case c3 => k_is)
    (case k3 => k_is)
    (case a4 => k_is)
    (case pg4 => k_is)
    (case pt4 => k_is)
    (case pc4 => k_is)
    (case l4 => k_is)
    (case c4 => k_is)
    (case k4 => k_is)
    (case a5 => k_is)
    (case i5 => k_is)
    (case fi5 => k_is)
    (case l5 => k_is)
    (case c5 => k_is)
    (case k5 => k_is)
    (case a6 => k_is)
    (case i6 => k_is)
    (case l6 => k_is)
    (case c6 => k_is)
    (case k6 => k_is)
    (case a7 => k_is)
    (case i7 => k_is)
    (case l7 => k_is)
    (case c7 => k_is)
    (case k7 => k_is)
    (case a8 => k_is)
    (case i8 => k_is)
    (case l8 => k_is)
    (case c8 => k_is)
    (case k8 => k_is)
    (case a9 => k_is)
    (case i9 => k_is)
    (case l9 => k_is)
    (case c9 => k_is)
    (case k9 => k_is)
    (case a10 => k_is)
    (case l10 => k_is)
    (case c10 => k_is)
    (case k10 => k_is)
    (case a11 => k_is)
    (case l11 => k_is)
    (case c11 => k_is)
    (case k11 => k_is)
    (case a12 => k_is)
    (case l12 => k_is)
    (case c12 => k_is)
    (case k12 => k_is)
    (case a13 => k_is)
    (case l13 => k_is)
    (case c13 => k_is)
    (case k13 => k_is)
    (case a14 => k_is)
    (case l14 => k_is)
    (case c14 => k_is)
    (case k14 => k_is)
    (case a15 => k_is)
    (case l15 => k_is)
    (case c15 => k_is)
    (case k15 => k_is)
    (case a16 => k_is)
    (case l16 => k_is)
    (case c16 => k_is)
    (case k16 => k_is)
    (case a17 => k_is)
    (case l17 => k_is)
    (case c17 => k_is)
    (case k17 => k_is)
    (case a18 => k_is)
    (case l18 => k_is)
    (case c18 => k_is)
    (case k18 => k_is)
    (case a19 => k_is)
    (case l19 => k_is)
    (case c19 => k_is)
    (case k19 => k_is)
    (case a20 => k_is)
    (case l20 => k_is)
    (case c20 => k_is)
    (case k20 => k_is)
    (case a21 => k_is)
    (case l21 => k_is)
    (case c21 => k_is)
    (case k21 => k_is)
    (case a22 => k_is)
    (case i22 => k_is)
    (case l22 => k_is)
    (case c22 => k_is)
    (case k22 => k_is)
    (case a23 => k_is)
    (case pg23 => k_is)
    (case pt23 => k_is)
    (case pc23 => k_is)
    (case l23 => k_is)
    (case c23 => k_is)
    (case k23 => k_is)
    (case a24 => k_is)
    (case pg24 => k_is)
    (case pt24 => k_is)
    (case pc24 => k_is)
    (case l24 => k_is)
    (case c24 => k_is)
    (case k24 => k_is)
    (case a25 => k_is)
    (case i25 => k_is)
    (case l25 => k_is)
    (case c25 => k_is)
    (case k25 => k_is)
    (case a26 => k_is)
    (case l26 => k_is)
    (case c26 => k_is)
    (case k26 => k_is)
    (case a27 => k_is)
    (case l27 => k_is)
    (case c27 => k_is)
    (case k27 => k_is)
    (case a28 => k_is)
    (case l28 => k_is)
    (case c28 => k_is)
    (case k28 => k_is)
    (case a29 => k_is)
    (case l29 => k_is)
    (case c29 => k_is)
    (case k29 => k_is)
    (case a30 => k_is)
    (case l30 => k_is)
    (case c30 => k_is)
    (case k30 => k_is)
    (case a31 => k_is)
    (case l31 => k_is)
    (case c31 => k_is)
    (case k31 => k_is)
    (case a32 => k_is)
    (case l32 => k_is)
    (case c32 => k_is)
    (case k32 => k_is)
    (case a33 => k_is)
    (case l33 => k_is)
    (case c33 => k_is)
    (case k33 => k_is)
    (case a34 => k_is)
    (case l34 => k_is)
    (case c34 => k_is)
    (case k34 => k_is)
    (case a35 => k_is)
    (case l35 => k_is)
    (case c35 => k_is)
    (case k35 => k_is)
    (case a36 => k_is)
    (case l36 => k_is)
    (case c36 => k_is)
    (case k36 => k_is)
    (case a37 => k_is)
    (case l37 => k_is)
    (case c37 => k_is)
    (case k37 => k_is)
    (case a38 => k_is)
    (case l38 => k_is)
    (case c38 => k_is)
    (case k38 => k_is)
    (case a39 => k_is)
    (case l39 => k_is)
    (case c39 => k_is)
    (case k39 => k_is)
    (case a40 => k_is)
    (case l40 => k_is)
    (case c40 => k_is)
    (case k40 => k_is)
    (case a41 => k_is)
    (case l41 => k_is)
    (case c41 => k_is)
    (case k41 => k_is)
    (case a42 => k_is)
    (case l42 => k_is)
    (case c42 => k_is)
    (case k42 => k_is)
    (case a43 => k_is)
    (case l43 => k_is)
    (case c43 => k_is)
    (case k43 => k_is)
    (case a44 => k_is)
    (case l44 => k_is)
    (case c44 => k_is)
    (case k44 => k_is)
    (case a45 => k_is)
    (case l45 => k_is)
    (case c45 => k_is)
    (case k45 => k_is)
    (case a46 => k_is)
    (case l46 => k_is)
    (case c46 => k_is)
    (case k46 => k_is)
    (case a47 => k_is)
    (case l47 => k_is)
    (case c47 => k_is)
    (case k47 => k_is)
    (case a48 => k_is)
    (case l48 => k_is)
    (case c48 => k_is)
    (case k48 => k_is)
    (case a49 => k_is)
    (case l49 => k_is)
    (case c49 => k_is)
    (case k49 => k_is)
    (case a50 => k_is)
    (case l50 => k_is)
    (case c50 => k_is)
    (case k50 => k_is)
    (case a51 => k_is)
    (case l51 => k_is)
    (case c51 => k_is)
    (case k51 => k_is)
    (case a52 => k_is)
    (case l52 => k_is)
    (case c52 => k_is)
    (case k52 => k_is)
    (case a53 => k_is)
    (case l53 => k_is)
    (case c53 => k_is)
    (case k53 => k_is)
    (case a54 => k_is)
    (case l54 => k_is)
    (case c54 => k_is)
    (case k54 => k_is)
    (case a55 => k_is)
    (case l55 => k_is)
    (case c55 => k_is)
    (case k55 => k_is)
    (case z0 => k_is)
    (case z1 => k_is)
    (case z2 => k_is)
    (case z3 => k_is)
    (case z4 => k_is)
    (case z5 => k_is)
    (case z6 => k_is)
    (case z7 => k_is)
    (case z8 => k_is)
    (case z9 => k_is)
    (case z10 => k_is)
    (case z11 => k_is)
    (case y0 => k_is)
    (case x0 => exact ⟨_, rfl⟩)
    (case ua0 => k_is)
    (case ul0 => k_is)
    (case ua1 => k_is)
    (case ul1 => k_is)
    (case cg0 => k_is)
    (case ch0 => k_is)
    (case co0 => k_is)
    (case cs0 => k_is)
    (case cf0_0 => k_is)
    (case cf0_1 => k_is)
    (case cf0_2 => k_is)
    (case cf0_3 => k_is)
    (case cm0 => k_is)
    (case ck0 => k_is)
    (case ct0_a => k_is)
    (case ct0_b => k_is)
    (case ct0_c => k_is)
    (case ct0_d => k_is)
    (case cg1 => k_is)
    (case ch1 => k_is)
    (case co1 => k_is)
    (case cs1 => k_is)
    (case cf1_0 => k_is)
    (case cf1_1 => k_is)
    (case cf1_2 => k_is)
    (case cf1_3 => k_is)
    (case cm1 => k_is)
    (case ck1 => k_is)
    (case ct1_a => k_is)
    (case ct1_b => k_is)
    (case ct1_c => k_is)
    (case ct1_d => k_is)
    (case xa0 => k_is)
    (case xa1 => k_is)
    (case xa2 => k_is)
    (case xa3 => k_is)
    (case ra0 => k_is)
    (case rb0 => k_is)
    (case rc0 => k_is)
    (case rd0 => k_is)
    (case ra1 => k_is)
    (case rb1 => k_is)
    (case rc1 => k_is)
    (case ra2 => k_is)
    (case rb2 => k_is)
    (case rc2 => k_is)
    (case xL0 => k_is)
    (case xr0 => first | rfl | decide +kernel)
    (case xs0 => k_is)
    (case xg0 => k_is)
    (case xh0 => k_is)
    (case xf0 => k_is)
    (case xi0 => k_is)
    (case xt0 => k_is)
    (case xl0 => k_is)
    (case xd0 => k_is)
    (case xe0 => k_is)
    (case xv0 => rfl)
    (case xc0 => k_is)
    (case xk0 => k_is)
    (case xb0 => k_is)
    (case xy0 => k_is)
    (case xj0 => k_is)
    (case xp0 => ks_is)
    (case xw0 => k_is)
    (case xz0 => k_is)
    (case xo0 => k_is)
    (case xu0 => k_is)
    (case xca0 => k_is)
    (case xcb0 => k_is)
    (case xcc0 => k_is)
    (case xcd0 => k_is)
    (case xsc0 => k_is)
    (case xss0 => k_is)
    (case xL1 => k_is)
    (case xr1 => first | rfl | decide +kernel)
    (case xs1 => k_is)
    (case xg1 => k_is)
    (case xh1 => k_is)
    (case xf1 => k_is)
    (case xi1 => k_is)
    (case xt1 => k_is)
    (case xl1 => k_is)
    (case xd1 => k_is)
    (case xe1 => k_is)
    (case xv1 => rfl)
    (case xc1 => k_is)
    (case xk1 => k_is)
    (case xb1 => k_is)
    (case xy1 => k_is)
    (case xj1 => k_is)
    (case xp1 => ks_is)
    (case xw1 => k_is)
    (case xz1 => k_is)
    (case xo1 => k_is)
    (case xu1 => k_is)
    (case xca1 => k_is)
    (case xcb1 => k_is)
    (case xcc1 => k_is)
    (case xcd1 => k_is)
    (case xsc1 => k_is)
    (case xss1 => k_is)
    (case xL2 => k_is)
    (case xr2 => first | rfl | decide +kernel)
    (case xs2 => k_is)
    (case xg2 => k_is)
    (case xh2 => k_is)
    (case xf2 => k_is)
    (case xi2 => k_is)
    (case xt2 => k_is)
    (case xl2 => k_is)
    (case xd2 => k_is)
    (case xe2 => k_is)
    (case xv2 => rfl)
    (case xc2 => k_is)
    (case xk2 => k_is)
    (case xb2 => k_is)
    (case xy2 => k_is)
    (case xj2 => k_is)
    (case xp2 => ks_is)
    (case xw2 => k_is)
    (case xz2 => k_is)
    (case xo2 => k_is)
    (case xu2 => k_is)
    (case xca2 => k_is)
    (case xcb2 => k_is)
    (case xcc2 => k_is)
    (case xcd2 => k_is)
    (case xsc2 => k_is)
    (case xss2 => k_is)
    (case xL3 => k_is)
    (case xr3 => first | rfl | decide +kernel)
    (case xs3 => k_is)
    (case xg3 => k_is)
    (case xh3 => k_is)
    (case xf3 => k_is)
    (case xi3 => k_is)
    (case xt3 => k_is)
    (case xl3 => k_is)
    (case xd3 => k_is)
    (case xe3 => k_is)
    (case xv3 => rfl)
    (case xc3 => k_is)
    (case xk3 => k_is)
    (case xb3 => k_is)
    (case xy3 => k_is)
    (case xj3 => k_is)
    (case xp3 => ks_is)
    (case xw3 => k_is)
    (case xz3 => k_is)
    (case xo3 => k_is)
    (case xu3 => k_is)
    (case xca3 => k_is)
    (case xcb3 => k_is)
    (case xcc3 => k_is)
    (case xcd3 => k_is)
    (case xn3_R1 => k_is)
    (case xq3_R1 => rfl)
    (case xn3_E0 => k_is)
    (case xq3_E0 => rfl)
    (case xn3_R2 => k_is)
    (case xq3_R2 => rfl)
    (case xn3_E1 => k_is)
    (case xq3_E1 => rfl)
    (case xa3_0 => k_is)
    (case xb3_0 => rfl)
    (case xm3_0 => k_is)
    (case xsc3 => k_is)
    (case xss3 => k_is)
    (case nl0 => k_is)
    (case nh0 => k_is)
    (case nl1 => k_is)
    (case nh1 => k_is)
    (case pf => exact ⟨by first | rfl | decide +kernel, by first | rfl | decide +kernel⟩)
