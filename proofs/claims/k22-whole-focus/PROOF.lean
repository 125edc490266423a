import PyProof.Rows.All
import Wide.All
import OpenK.AllK
import Wide.FinOn
import HandS.ForMost
import HandS.Flow
import HandS.IsInst
import HandS.Wide
import HandS.Walk
import PyProof.Rows.IntBool
import HandS.Property
import HandS.Star
import HandS.OwnEq
import HandS.SetFor
import KE.GoesEnum
import KE.GoesMore
import HandS.Strs
import HandS.Deep
import HandS.TupAny
import KE.KRevSl
import KE.KOpsOwn
import HandS.ForExc
import HandS.FStr
import HandS.ExcField
import HandS.ExcIs
import HandS.ExcSuper
import KE.KExcSuper
import KE.KExcIs
import HandS.OwnIter
import HandS.IterNext
import HandS.Text
import HandS.Zip
import HandS.HotCalls
import PyProof.ReprRoads
import HandS.Ends
import PyProof.AutoSeq1
import HandS.IterVal
import OpenK.KMake
import HandS.Defaults
import HandS.NoneIn
import PyProof.StrLawsRepr
import HandS.MakeKw
import PySem.Challenge.RW_drawnanew_k22_whole_focus
set_option Elab.async false
set_option linter.all false
set_option maxRecDepth 100000
set_option maxHeartbeats 4000000
/-! XBase: readings that compute, over the hand layer; the heap cut into a part that only grows and cells that change. -/
namespace XL
open PySem PySem.Spec PyProof.Rows L2
abbrev St := L2.St

/-! ### a reading may be exchanged for a stronger one -/
theorem pe_str {X : Cx} {e : Expr} {t t' : TE} (h : PE X e t) (k : ∀ σ H Q, t' σ H Q → t σ H Q) : PE X e t' := ⟨fun pins s σ H Q I q => h.run pins s σ H Q I (k σ H Q q)⟩
theorem pt_str {X : Cx} {e : Expr} {t t' : TT} (h : PT X e t) (k : ∀ σ H Q, t' σ H Q → t σ H Q) : PT X e t' := ⟨fun pins s σ H Q I q => h.run pins s σ H Q I (k σ H Q q)⟩
theorem ps_str {X : Cx} {e : Stmt} {t t' : TS} (h : PS X e t) (k : ∀ D σ H, t' D σ H → t D σ H) : PS X e t' := ⟨fun pins s σ H D I q => h.run pins s σ H D I (k D σ H q)⟩
theorem or_str {X : Cx} {f : Value → Value → Sem Value} {r r' : R2} (h : OpR X f r) (k : ∀ x y H Q, r' x y H Q → r x y H Q) : OpR X f r' := fun pins s σ H x y v u Q I rx ry q => h pins s σ H x y v u Q I rx ry (k x y H Q q)
theorem cr_str {X : Cx} {f : Value} {r r' : List V → Hp → VK → Prop} (h : CallR X f r) (k : ∀ xs H Q, r' xs H Q → r xs H Q) : CallR X f r' := fun pins s σ H xs us Q I rx q => h pins s σ H xs us Q I rx (k xs H Q q)
theorem OpR.or {X : Cx} {f : Value → Value → Sem Value} {r r' : R2} (h : OpR X f r) (h' : OpR X f r') : OpR X f (fun x y H Q => r x y H Q ∨ r' x y H Q) := by
  intro pins s σ H x y v u Q I rx ry q
  rcases q with q | q
  · exact h pins s σ H x y v u Q I rx ry q
  · exact h' pins s σ H x y v u Q I rx ry q

/-! ### names -/
def nth : St → Nat → Option V
  | [], _ => none
  | x :: _, 0 => x
  | _ :: r, n + 1 => nth r n
theorem nth_get : ∀ {σ : St} {i : Nat} {v : V}, nth σ i = some v → σ[i]? = some (some v)
  | [], _, _, h => nomatch h
  | _ :: _, 0, _, h => congrArg some h
  | _ :: r, n + 1, _, h => by
    rw [List.getElem?_cons_succ]
    exact nth_get (σ := r) h
def xVar (i : Nat) : TE := fun σ H Q => match nth σ i with
  | some v => Q v H
  | none => False
section
variable {X : Cx} {a b c : Expr} {ta tb tc : TE} {pos : Pos} {tA tB' : TT} {rest : List Expr}
theorem xv (i : Nat) {x : Str} {pos : Pos} (hN : X.N[i]? = some x := by rfl) (hv : Vis X.env.scope x := by first | exact Or.inl rfl | exact Or.inr (Or.inl rfl) | exact Or.inr (Or.inr rfl)) (hd : (x == ("__debug__" : Str)) = false := by decide)
    (hcd : (x == ("__classdict__" : Str)) = false := by decide) : PE X (.Name x pos) (xVar i) := pe_str (pe_var hN hv hd hcd) fun σ H Q h => by
  unfold xVar at h
  cases e : nth σ i with
  | none => rw [e] at h; exact h.elim
  | some v => rw [e] at h; exact ⟨v, nth_get e, h⟩

/-! ### arithmetic -/
theorem op_mul_ib : OpR X (binaryOp .Mult) (fun x y H Q => ∃ i k, x = .int i ∧ y = .bl k ∧ Q (.int (i * b2i k)) H) := by
  intro pins s σ H x y v u Q I rx ry h
  obtain ⟨i, k, rfl, rfl, q⟩ := h
  obtain ⟨t, rfl⟩ := rx
  cases ry
  refine PySem.IntBool.mul_int_bool ?_
  have e : (if k = true then (1 : Int) else 0) = b2i k := by cases k <;> rfl
  rw [e]
  exact ⟨.int (i * b2i k), H, I.tok _, ⟨_, rfl⟩, q⟩
def yAdd : R2 := fun x y H Q => match x, y with
  | .int i, .int j => Q (.int (i + j)) H
  | .int i, .bl k => Q (.int (i + b2i k)) H
  | .str a, .str b => a.length + b.length ≤ sizeLine ∧ ∀ r : Str, r = a ++ b → Q (.str r) H
  | .ref l, .ref b => rCat (.ref l) (.ref b) H Q
  | _, _ => False
theorem op_addY : OpR X (binaryOp .Add) yAdd := by
  refine or_str (OpR.or (op_add (X := X)) (OpR.or (op_add_ib (X := X)) (OpR.or (op_add_str (X := X)) (op_cat (X := X))))) fun x y H Q h => ?_
  unfold yAdd at h
  split at h
  · exact .inl ⟨_, _, rfl, rfl, h⟩
  · exact .inr (.inl ⟨_, _, rfl, rfl, h⟩)
  · exact .inr (.inr (.inl ⟨_, _, rfl, rfl, h.1, h.2 _ rfl⟩))
  · exact .inr (.inr (.inr h))
  · exact h.elim
def ySub : R2 := fun x y H Q => match x, y with
  | .int i, .int j => Q (.int (i - j)) H
  | _, _ => False
theorem op_subY : OpR X (binaryOp .Sub) ySub := by
  refine or_str (op_sub (X := X)) fun x y H Q h => ?_
  unfold ySub at h
  split at h
  · exact ⟨_, _, rfl, rfl, h⟩
  · exact h.elim
def yMul : R2 := fun x y H Q => match x, y with
  | .int i, .int j => CMul i j ∧ Q (.int (i * j)) H
  | .int i, .bl k => Q (.int (i * b2i k)) H
  | .ref l, .int k => rRep (.ref l) (.int k) H Q
  | _, _ => False
theorem op_mulY : OpR X (binaryOp .Mult) yMul := by
  refine or_str (OpR.or (op_mul (X := X)) (OpR.or (op_mul_ib (X := X)) (op_rep (X := X)))) fun x y H Q h => ?_
  unfold yMul at h
  split at h
  · exact .inl ⟨_, _, rfl, rfl, h.1, h.2⟩
  · exact .inr (.inl ⟨_, _, rfl, rfl, h⟩)
  · exact .inr (.inr h)
  · exact h.elim
def yMod : R2 := fun x y H Q => match x, y with
  | .int i, .int j => 0 < j ∧ ∀ r : Int, r = i % j → 0 ≤ r → r < j → Q (.int r) H
  | _, _ => False
theorem op_modY : OpR X (binaryOp .Mod) yMod := by
  refine or_str (op_mod (X := X)) fun x y H Q h => ?_
  unfold yMod at h
  split at h
  · exact ⟨_, _, rfl, rfl, h.1, h.2 _ rfl (Int.emod_nonneg _ (by have := h.1; omega)) (Int.emod_lt_of_pos _ h.1)⟩
  · exact h.elim
def yDiv : R2 := fun x y H Q => match x, y with
  | .int i, .int j => (0 < j ∧ j < 1073741824) ∧ ∀ r : Int, r = i / j → (0 ≤ i → 0 ≤ r) → Q (.int r) H
  | _, _ => False
theorem op_divY : OpR X (binaryOp .FloorDiv) yDiv := by
  refine or_str (op_fdiv (X := X)) fun x y H Q h => ?_
  unfold yDiv at h
  split at h
  · exact ⟨_, _, rfl, rfl, h.1, h.2 _ rfl (fun h0 => Int.ediv_nonneg h0 (by have := h.1.1; omega))⟩
  · exact h.elim
def yPow : R2 := fun x y H Q => match x, y with
  | .int i, .int j => CPow i j ∧ ∀ r : Int, r = i ^ j.toNat → Q (.int r) H
  | _, _ => False
theorem op_powY : OpR X (binaryOp .Pow) yPow := by
  refine or_str (op_pow (X := X)) fun x y H Q h => ?_
  unfold yPow at h
  split at h
  · exact ⟨_, _, rfl, rfl, h.1, h.2 _ rfl⟩
  · exact h.elim

/-! ### comparisons -/
def yCmp (p : Int → Int → Bool) : R2 := fun x y H Q => match x, y with
  | .int i, .int j => Q (.bl (p i j)) H
  | _, _ => False
theorem yCmp_rI {p : Int → Int → Bool} {x y : V} {H : Hp} {Q : VK} (h : yCmp p x y H Q) : rI0 (fun i j => .bl (p i j)) x y H Q := by
  unfold yCmp at h
  split at h
  · exact ⟨_, _, rfl, rfl, h⟩
  · exact h.elim
theorem op_ltY : OpR X (compareOp .Lt) (yCmp fun i j => decide (i < j)) := or_str (op_lt (X := X)) fun _ _ _ _ h => yCmp_rI h
theorem op_leY : OpR X (compareOp .LtE) (yCmp fun i j => decide (i ≤ j)) := or_str (op_le (X := X)) fun _ _ _ _ h => yCmp_rI h
theorem op_gtY : OpR X (compareOp .Gt) (yCmp fun i j => decide (j < i)) := or_str (op_gt (X := X)) fun _ _ _ _ h => yCmp_rI h
theorem op_geY : OpR X (compareOp .GtE) (yCmp fun i j => decide (j ≤ i)) := or_str (op_ge (X := X)) fun _ _ _ _ h => yCmp_rI h
def yEq (K : PySem.W.Frag) : R2 := fun x y H Q => match x, y with
  | .int i, .int j => Q (.bl (decide (i = j))) H
  | .str i, .str j => Q (.bl (decide (i = j))) H
  | .bl i, .bl j => Q (.bl (decide (i = j))) H
  | .ref a, .ref b => rEqD K (.ref a) (.ref b) H Q
  | x, y => scal x y = true ∧ Q (.bl (decide (x = y))) H
def yNe (K : PySem.W.Frag) : R2 := fun x y H Q => match x, y with
  | .int i, .int j => Q (.bl (!decide (i = j))) H
  | .str i, .str j => Q (.bl (!decide (i = j))) H
  | .bl i, .bl j => Q (.bl (!decide (i = j))) H
  | .ref a, .ref b => rNeD K (.ref a) (.ref b) H Q
  | x, y => scal x y = true ∧ Q (.bl (!decide (x = y))) H
theorem deci {i j : Int} : decide (V.int i = V.int j) = decide (i = j) := by by_cases h : i = j <;> simp [h]
theorem decs {i j : Str} : decide (V.str i = V.str j) = decide (i = j) := by by_cases h : i = j <;> simp [h]
theorem decb {i j : Bool} : decide (V.bl i = V.bl j) = decide (i = j) := by by_cases h : i = j <;> simp [h]
theorem op_eqY (hu : X.A.units + 64 < cLine) : OpR X (compareOp .Eq) (yEq X.K) := by
  refine or_str (OpR.or (op_eq (X := X)) (op_eqD hu)) fun x y H Q h => ?_
  unfold yEq at h
  split at h
  · exact .inl ⟨rfl, by rw [deci]; exact h⟩
  · exact .inl ⟨rfl, by rw [decs]; exact h⟩
  · exact .inl ⟨rfl, by rw [decb]; exact h⟩
  · exact .inr h
  · exact .inl h
theorem op_neY (hu : X.A.units + 64 < cLine) : OpR X (compareOp .NotEq) (yNe X.K) := by
  refine or_str (OpR.or (op_ne (X := X)) (op_neD hu)) fun x y H Q h => ?_
  unfold yNe at h
  split at h
  · exact .inl ⟨rfl, by rw [deci]; exact h⟩
  · exact .inl ⟨rfl, by rw [decs]; exact h⟩
  · exact .inl ⟨rfl, by rw [decb]; exact h⟩
  · exact .inr h
  · exact .inl h

/-! ### tests -/
/-- a bool as a test -/
def xB (t : TE) : TT := fun σ H Q => t σ H fun x H1 => match x with
  | .bl c => Q c H1
  | _ => False
theorem pe_mono {X : Cx} {e : Expr} {t : TE} (_h : PE X e t) : True := trivial
theorem xt_cmp {op : CmpOp} {r : R2} (ho : OpR X (compareOp op) r) (ha : PE X a ta) (hb : PE X b tb) (hm : behindInMarks op b = false) : PT X (.Compare a [op] [b] pos) (xB (tOp r ta tb)) := by
  refine ⟨fun pins s σ H Q I h => ?_⟩
  refine wpAny_isTrue_Compare1 (thn (ha.run pins s σ H _ I h) fun v s1 ⟨x, H1, I1, r1, q1⟩ => thn (hb.run pins s1 σ H1 _ I1 q1) fun u s2 ⟨y, H2, I2, r2, q2⟩ =>
    thn (ho pins s2 σ H2 x y v u _ I2 r1 r2 q2) fun c s3 ⟨z, H3, I3, r3, q3⟩ => ?_) hm
  cases z with
  | bl k =>
    cases r3
    exact wpAny_truthy_bool ⟨H3, I3, q3⟩
  | _ => exact False.elim q3
theorem xt_val {e : Expr} {t : TE} (h : PE X e t) (he : ∀ whole, isTrue e X.env whole = (do let v ← whole; standAt e.pos; holding [v] (truthy v)) := by intro _; rfl) : PT X e (xB t) := by
  refine ⟨fun pins s σ H Q I hw => ?_⟩
  refine isTrue_plain (thn (h.run pins s σ H _ I hw) fun v s1 ⟨x, H1, I1, r1, q1⟩ => ?_) (he _)
  cases x with
  | bl k =>
    cases r1
    exact wpAny_truthy_bool ⟨H1, I1, q1⟩
  | _ => exact False.elim q1
/-- the truth of a value -/
def yTru (K : PySem.W.Frag) (x : V) (H : Hp) (Q : Bool → Hp → Prop) : Prop := match x with
  | .bl c => Q c H
  | .int i => Q (i != 0) H
  | .non => Q false H
  | x => ∃ k, TruV K x H k ∧ Q k H
def xTru (K : PySem.W.Frag) (t : TE) : TT := fun σ H Q => t σ H fun x H1 => yTru K x H1 Q
theorem xt_tru (ha : PE X a ta) (he : ∀ whole, isTrue a X.env whole = (do let v ← whole; standAt a.pos; holding [v] (truthy v)) := by intro _; rfl) : PT X a (xTru X.K ta) := by
  have hq : PE X a (fun σ H Q => ta σ H Q) := ha
  refine ⟨fun pins s σ H Q I hw => ?_⟩
  refine isTrue_plain (thn (ha.run pins s σ H _ I hw) fun v s1 ⟨x, H1, I1, r1, q1⟩ => ?_) (he _)
  have q2 : ∃ k, TruV X.K x H1 k ∧ Q k H1 := by
    change yTru X.K x H1 Q at q1
    unfold yTru at q1
    split at q1
    · exact ⟨_, rfl, q1⟩
    · exact ⟨_, rfl, q1⟩
    · exact ⟨_, rfl, q1⟩
    · exact q1
  exact tru_ok pins s1 σ H1 x v Q I1 r1 q2
def xAnd (t u : TT) : TT := fun σ H Q => t σ H fun c H1 => (c = true → u σ H1 Q) ∧ (c = false → Q false H1)
def xOr (t u : TT) : TT := fun σ H Q => t σ H fun c H1 => (c = true → Q true H1) ∧ (c = false → u σ H1 Q)
theorem xw_and (ha : PT X a tA) (hb : PW X (.BoolOp .And (b :: rest) pos) tB') : PW X (.BoolOp .And (a :: b :: rest) pos) (xAnd tA tB') := by
  refine ⟨fun wh pins s0 σ H Q J h => ?_⟩
  refine isTrue_and (thn (ha.run pins s0 σ H _ J h) fun k s2 ⟨H2, J2, q2⟩ => ?_)
  cases k with
  | true => exact hb.run wh pins s2 σ H2 Q J2 (q2.1 rfl)
  | false => exact ⟨H2, J2, q2.2 rfl⟩
theorem xw_or (ha : PT X a tA) (hb : PW X (.BoolOp .Or (b :: rest) pos) tB') : PW X (.BoolOp .Or (a :: b :: rest) pos) (xOr tA tB') := by
  refine ⟨fun wh pins s0 σ H Q J h => ?_⟩
  refine isTrue_or (thn (ha.run pins s0 σ H _ J h) fun k s2 ⟨H2, J2, q2⟩ => ?_)
  cases k with
  | true => exact ⟨H2, J2, q2.1 rfl⟩
  | false => exact hb.run wh pins s2 σ H2 Q J2 (q2.2 rfl)
/-- and, or, not as values: of bools -/
def xAndV (ta tb : TE) : TE := fun σ H Q => ta σ H fun x H1 => match x with
  | .bl c => (c = true → tb σ H1 Q) ∧ (c = false → Q (.bl false) H1)
  | _ => False
def xOrV (ta tb : TE) : TE := fun σ H Q => ta σ H fun x H1 => match x with
  | .bl c => (c = true → Q (.bl true) H1) ∧ (c = false → tb σ H1 Q)
  | _ => False
def xNotV (ta : TE) : TE := fun σ H Q => ta σ H fun x H1 => match x with
  | .bl c => Q (.bl (!c)) H1
  | _ => False
theorem xe_and (ha : PE X a ta) (hb : PE X (.BoolOp .And (b :: rest) pos) tb) : PE X (.BoolOp .And (a :: b :: rest) pos) (xAndV ta tb) := by
  refine ⟨fun pins s0 σ H Q J h => ?_⟩
  refine BoolOp_and (thn (ha.run pins s0 σ H _ J h) fun v s2 ⟨x, H2, J2, r2, q2⟩ => ?_)
  cases x with
  | bl k =>
    cases r2
    refine wpAny_truthy_bool ?_
    cases k with
    | true => exact hb.run pins s2 σ H2 Q J2 (q2.1 rfl)
    | false => exact ⟨.bl false, H2, J2, rfl, q2.2 rfl⟩
  | _ => exact False.elim q2
theorem xe_or (ha : PE X a ta) (hb : PE X (.BoolOp .Or (b :: rest) pos) tb) : PE X (.BoolOp .Or (a :: b :: rest) pos) (xOrV ta tb) := by
  refine ⟨fun pins s0 σ H Q J h => ?_⟩
  refine BoolOp_or (thn (ha.run pins s0 σ H _ J h) fun v s2 ⟨x, H2, J2, r2, q2⟩ => ?_)
  cases x with
  | bl k =>
    cases r2
    refine wpAny_truthy_bool ?_
    cases k with
    | true => exact ⟨.bl true, H2, J2, rfl, q2.1 rfl⟩
    | false => exact hb.run pins s2 σ H2 Q J2 (q2.2 rfl)
  | _ => exact False.elim q2
theorem xe_not (ha : PE X a ta) : PE X (.UnaryOp .Not a pos) (xNotV ta) := by
  refine ⟨fun pins s0 σ H Q J h => ?_⟩
  refine UnaryOp_ (thn (ha.run pins s0 σ H _ J h) fun v s2 ⟨x, H2, J2, r2, q2⟩ => ?_)
  cases x with
  | bl k =>
    cases r2
    exact not_of (wpAny_truthy_bool ⟨.bl (!k), H2, J2, rfl, q2⟩)
  | _ => exact False.elim q2
/-- a if t else b -/
def xIf (t : TT) (ta tb : TE) : TE := fun σ H Q => t σ H fun c H1 => (c = true → ta σ H1 Q) ∧ (c = false → tb σ H1 Q)
theorem xe_if {c : Expr} (hc : PT X c tA) (ha : PE X a ta) (hb : PE X b tb) : PE X (.IfExp c a b pos) (xIf tA ta tb) := by
  refine ⟨fun pins s0 σ H Q J h => ?_⟩
  refine wpAny_IfExp (thn (hc.run pins s0 σ H _ J h) fun k s2 ⟨H2, J2, q2⟩ => ?_)
  cases k with
  | true => exact ha.run pins s2 σ H2 Q J2 (q2.1 rfl)
  | false => exact hb.run pins s2 σ H2 Q J2 (q2.2 rfl)
/-- if t: .. else: .. -/
def xIfS (c : TT) (t u : TS) : TS := fun D σ H => c σ H fun b H1 => (b = true → t D σ H1) ∧ (b = false → u D σ H1)
theorem xs_if {c : Expr} {as bs : List Stmt} {tc : TT} {t u : TS} (hc : PT X c tc) (ha : PSs X as t) (hb : PSs X bs u) : PS X (.If c as bs pos) (xIfS tc t u) := by
  refine ⟨fun pins s0 σ H D J h => ?_⟩
  refine wpAny_If (thn (hc.run pins s0 σ H _ J h) fun k s2 ⟨H2, J2, q2⟩ => ?_)
  cases k with
  | true => exact ha.run pins s2 σ H2 D J2 (q2.1 rfl)
  | false => exact hb.run pins s2 σ H2 D J2 (q2.2 rfl)

/-! ### calls of built-ins -/
def yLen (K : PySem.W.Frag) : List V → Hp → VK → Prop := fun xs H Q => match xs with
  | [.str y] => y.length ≤ sizeLine ∧ Q (.int y.length) H
  | [.ref p] => ∃ ys, (SqL K H p ys ∨ SqT K H p ys) ∧ Q (.int ys.length) H
  | _ => False
theorem cr_len : CallR X (.builtin "len") (yLen X.K) := by
  refine cr_str (call_len (X := X)) fun xs H Q h => ?_
  unfold yLen at h
  split at h
  · exact ⟨_, _, rfl, ⟨h.1, rfl⟩, h.2⟩
  · obtain ⟨ys, hy, q⟩ := h
    rcases hy with hy | hy
    · exact ⟨_, _, rfl, .inl ⟨ys, hy, rfl⟩, q⟩
    · exact ⟨_, _, rfl, .inr ⟨ys, hy, rfl⟩, q⟩
  · exact h.elim
def yInt : List V → Hp → VK → Prop := fun xs H Q => match xs with
  | [.int i] => Q (.int i) H
  | [.bl k] => Q (.int (if k then 1 else 0)) H
  | [.str z] => ∃ n, PySem.intText? z = some n ∧ z.length ≤ 640 ∧ Q (.int n) H
  | _ => False
theorem cr_int : CallR X (.type "int") yInt := by
  refine cr_str (CallR.or (call_int1 (X := X)) (call_int_str (X := X))) fun xs H Q h => ?_
  unfold yInt at h
  split at h
  · exact .inl (.inl ⟨_, rfl, h⟩)
  · exact .inl (.inr ⟨_, rfl, h⟩)
  · obtain ⟨n, h1, h2, q⟩ := h
    exact .inr ⟨_, n, rfl, h1, h2, q⟩
  · exact h.elim
def yAbs : List V → Hp → VK → Prop := fun xs H Q => match xs with
  | [.int i] => Q (.int i.natAbs) H
  | _ => False
theorem cr_abs : CallR X (.builtin "abs") yAbs := by
  refine cr_str (call_abs (X := X)) fun xs H Q h => ?_
  unfold yAbs at h
  split at h
  · rename_i i
    refine ⟨i, rfl, ?_⟩
    have e : (if i < 0 then -i else i) = (i.natAbs : Int) := by split <;> omega
    rw [e]
    exact h
  · exact h.elim
def yStr : List V → Hp → VK → Prop := fun xs H Q => match xs with
  | [.int i] => i.natAbs.log2 < 1920 ∧ Q (.str (toString i)) H
  | _ => False
theorem cr_strI : CallR X (.type "str") yStr := by
  refine cr_str (call_str_int (X := X)) fun xs H Q h => ?_
  unfold yStr at h
  split at h
  · exact ⟨_, rfl, h.1, h.2⟩
  · exact h.elim
def yIx (K : PySem.W.Frag) : R2 := fun x y H Q => match x, y with
  | .ref p, .int i => ∃ xs v, (SqL K H p xs ∨ SqT K H p xs) ∧ atI xs i = some v ∧ Q v H
  | .str z, .int i => ∃ c, z.length ≤ sizeLine ∧ atI z.cps.toList i = some c ∧ Q (.str ⟨#[c]⟩) H
  | _, _ => False
theorem ix_y : IxR X (yIx X.K) := by
  intro value slice pins s σ H x y v u Q I rx ry h hs
  refine ix_seq (X := X) value slice pins s σ H x y v u Q I rx ry ?_ hs
  unfold yIx at h
  split at h
  · obtain ⟨xs, z, h1, h2, q⟩ := h
    rcases h1 with h1 | h1
    · exact .inl ⟨_, xs, _, z, rfl, rfl, h1, h2, q⟩
    · exact .inr (.inl ⟨_, xs, _, z, rfl, rfl, h1, h2, q⟩)
  · obtain ⟨k, h1, h2, q⟩ := h
    exact .inr (.inr ⟨_, _, k, rfl, rfl, h1, h2, q⟩)
  · exact h.elim
end

/-! ### the heap: what only grows, and the cells that change -/
def Sep (G : Hp) (M : List (Addr × HO)) (H : Hp) : Prop := Same G H ∧ (∀ p ∈ M, H p.1 = some p.2 ∧ G p.1 = none) ∧ (M.map (·.1)).Nodup
section
variable {G G' H H' : Hp} {M : List (Addr × HO)} {p a b : Addr} {o o' u : HO}
theorem same_upd (h : H p = none) : Same H (upd H p o) := fun b x e => by
  rw [upd_ne (ne_of_none e h)]
  exact e
theorem sep0 : Sep H [] H := ⟨Same.refl H, (fun _ h => nomatch h), List.nodup_nil⟩
theorem Sep.st (S : Sep G M H) (h : G a = some o) : H a = some o := S.1 a o h
theorem Sep.hd (S : Sep G ((a, o) :: M) H) : H a = some o := (S.2.1 _ List.mem_cons_self).1
theorem Sep.at (S : Sep G M H) (h : (a, o) ∈ M) : H a = some o := (S.2.1 _ h).1
theorem Sep.fresh (S : Sep G M H) (h : H p = none) : G p = none := S.1.free h
theorem Sep.new (S : Sep G M H) (h : H p = none) : Sep G ((p, o) :: M) (upd H p o) := by
  refine ⟨S.1.trans (same_upd h), fun q hq => ?_, ?_⟩
  · rcases List.mem_cons.mp hq with rfl | hq
    · exact ⟨upd_same, S.fresh h⟩
    · exact ⟨same_upd h _ _ (S.2.1 q hq).1, (S.2.1 q hq).2⟩
  · rw [List.map_cons, List.nodup_cons]
    refine ⟨fun hm => ?_, S.2.2⟩
    obtain ⟨q, hq, e⟩ := List.mem_map.mp hm
    have z := (S.2.1 q hq).1
    rw [e, h] at z
    cases z
theorem Sep.newG (S : Sep G M H) (h : H p = none) : Sep (upd G p o) M (upd H p o) := by
  refine ⟨fun b x e => ?_, fun q hq => ?_, S.2.2⟩
  · by_cases hb : b = p
    · subst hb
      rw [upd_same] at e ⊢
      exact e
    · rw [upd_ne hb] at e ⊢
      exact S.1 b x e
  · have z := S.2.1 q hq
    refine ⟨same_upd h _ _ z.1, ?_⟩
    rw [upd_ne (ne_of_none z.1 h)]
    exact z.2
theorem Sep.grow (S : Sep G M H) (h : H p = none) : Same G (upd G p o) := same_upd (S.fresh h)
theorem Sep.set (S : Sep G ((a, o) :: M) H) : Sep G ((a, o') :: M) (upd H a o') := by
  have hn := S.2.2
  rw [List.map_cons, List.nodup_cons] at hn
  have ha := S.2.1 _ List.mem_cons_self
  refine ⟨fun b x e => ?_, fun q hq => ?_, S.2.2⟩
  · rw [upd_ne (ne_of_none e ha.2)]
    exact S.1 b x e
  · rcases List.mem_cons.mp hq with rfl | hq
    · exact ⟨upd_same, ha.2⟩
    · refine ⟨?_, (S.2.1 q (List.mem_cons_of_mem _ hq)).2⟩
      rw [upd_ne (show q.1 ≠ a from fun e => hn.1 (by have z : q.1 ∈ M.map (·.1) := List.mem_map_of_mem hq
                                                      rw [e] at z; exact z))]
      exact (S.2.1 q (List.mem_cons_of_mem _ hq)).1
theorem Sep.frz (S : Sep G ((a, o) :: M) H) : Sep (upd G a o) M H := by
  have hn := S.2.2
  rw [List.map_cons, List.nodup_cons] at hn
  have ha := S.2.1 _ List.mem_cons_self
  refine ⟨fun b x e => ?_, fun q hq => ?_, hn.2⟩
  · by_cases hb : b = a
    · subst hb
      rw [upd_same] at e
      cases e
      exact ha.1
    · rw [upd_ne hb] at e
      exact S.1 b x e
  · have z := S.2.1 q (List.mem_cons_of_mem _ hq)
    refine ⟨z.1, ?_⟩
    rw [upd_ne (show q.1 ≠ a from fun e => hn.1 (by have z : q.1 ∈ M.map (·.1) := List.mem_map_of_mem hq
                                                    rw [e] at z; exact z))]
    exact z.2
theorem Sep.none (S : Sep G ((a, o) :: M) H) : G a = none := (S.2.1 _ List.mem_cons_self).2
theorem Sep.frzS (S : Sep G ((a, o) :: M) H) : Same G (upd G a o) := same_upd S.none
theorem Sep.drop {q : Addr × HO} (S : Sep G (q :: M) H) : Sep G M H := by
  have hn := S.2.2
  rw [List.map_cons, List.nodup_cons] at hn
  exact ⟨S.1, fun p hp => S.2.1 p (List.mem_cons_of_mem _ hp), hn.2⟩
theorem Sep.perm {M' : List (Addr × HO)} (S : Sep G M H) (h : M.Perm M') : Sep G M' H :=
  ⟨S.1, fun q hq => S.2.1 q (h.mem_iff.mpr hq), (h.map _).nodup_iff.mp S.2.2⟩
theorem Sep.sw {q r : Addr × HO} (S : Sep G (q :: r :: M) H) : Sep G (r :: q :: M) H := S.perm (List.Perm.swap _ _ _)
theorem same_l {K : PySem.W.Frag} {xs : List V} (e : Same H H') (h : SqL K H a xs) : SqL K H' a xs := e.seq h
theorem same_t {K : PySem.W.Frag} {xs : List V} (e : Same H H') (h : SqT K H a xs) : SqT K H' a xs := by
  rcases h with (h | ⟨o, h⟩) | h
  · exact .inl (.inl (e _ _ h))
  · exact .inl (.inr ⟨o, e _ _ h⟩)
  · exact .inr h
theorem Sep.l {K : PySem.W.Frag} {xs : List V} (S : Sep G M H) (h : SqL K G a xs) : SqL K H a xs := same_l S.1 h
theorem Sep.t {K : PySem.W.Frag} {xs : List V} (S : Sep G M H) (h : SqT K G a xs) : SqT K H a xs := same_t S.1 h
end
mutual
theorem dp_same {K : PySem.W.Frag} {H H' : Hp} (e : Same H H') : ∀ {d : PyData} {v : V}, Dp K H v d → Dp K H' v d
  | _, _, .non => .non
  | _, _, .bl b => .bl b
  | _, _, .int i => .int i
  | _, _, .str x => .str x
  | _, _, .lst h hs => .lst (same_l e h) (dpa_same e hs)
  | _, _, .tup h hs => .tup (same_t e h) (dpa_same e hs)
theorem dpa_same {K : PySem.W.Frag} {H H' : Hp} (e : Same H H') : ∀ {ds : List PyData} {vs : List V}, DpAll K H vs ds → DpAll K H' vs ds
  | _, _, .nil => .nil
  | _, _, .cons h hs => .cons (dp_same e h) (dpa_same e hs)
end

/-! ### loops by what has been gone through -/
theorem take_pre {α : Type} {xs : List α} {i : Nat} {x : α} (h : xs[i]? = some x) : xs = xs.take i ++ x :: xs.drop (i + 1) ∧ xs.take (i + 1) = xs.take i ++ [x] := by
  have hi : i < xs.length := (List.getElem?_eq_some_iff.mp h).1
  have e : xs[i] = x := (List.getElem?_eq_some_iff.mp h).2
  refine ⟨?_, ?_⟩
  · rw [← e, List.getElem_cons_drop, List.take_append_drop]
  · rw [List.take_add_one, h]
    rfl
section
variable {K : PySem.W.Frag} {a : Addr} {xs : List V} {g : TG} {tb : TS} {D : Ends} {σ : L2.St} {H : Hp}
theorem for_pre (Pv : List V → L2.St → Hp → Prop) (h0 : Pv [] σ H) (hl : ∀ pre σ H, Pv pre σ H → SqL K H a xs)
    (hs : ∀ pre x post σ H, xs = pre ++ x :: post → Pv pre σ H → g x σ H fun σ2 H2 => tb { D with nx := Pv (pre ++ [x]), ct := Pv (pre ++ [x]), bk := D.nx } σ2 H2) (hd : ∀ σ H, Pv xs σ H → D.nx σ H) :
    ∃ W : Nat → Nat → L2.St → Hp → Prop, (∃ m, W 0 m σ H) ∧ ∀ i m σ H, W i m σ H →
      ((Itl K a).stop i H ∧ D.nx σ H) ∨ ((Itl K a).go i H ∧ ∃ N : L2.St → Hp → Prop, (∀ σ' H', N σ' H' → ∃ m', m' < m ∧ W (i + 1) m' σ' H') ∧ ∀ x H', (Itl K a).yld i H x H' → g x σ H' fun σ2 H2 => tb { D with nx := N, ct := N, bk := D.nx } σ2 H2) :=
  for_list (fun i => Pv (xs.take i)) h0 (fun i σ H _ p => hl _ σ H p) (fun i x σ H hx p => by
    rw [(take_pre hx).2]
    exact hs _ x _ σ H (take_pre hx).1 p) (fun σ H p => hd σ H (by rw [List.take_length] at p; exact p))
theorem for_preT (Pv : List V → L2.St → Hp → Prop) (h0 : Pv [] σ H) (hl : ∀ pre σ H, Pv pre σ H → SqT K H a xs)
    (hs : ∀ pre x post σ H, xs = pre ++ x :: post → Pv pre σ H → g x σ H fun σ2 H2 => tb { D with nx := Pv (pre ++ [x]), ct := Pv (pre ++ [x]), bk := D.nx } σ2 H2) (hd : ∀ σ H, Pv xs σ H → D.nx σ H) :
    ∃ W : Nat → Nat → L2.St → Hp → Prop, (∃ m, W 0 m σ H) ∧ ∀ i m σ H, W i m σ H →
      ((Itt K a).stop i H ∧ D.nx σ H) ∨ ((Itt K a).go i H ∧ ∃ N : L2.St → Hp → Prop, (∀ σ' H', N σ' H' → ∃ m', m' < m ∧ W (i + 1) m' σ' H') ∧ ∀ x H', (Itt K a).yld i H x H' → g x σ H' fun σ2 H2 => tb { D with nx := N, ct := N, bk := D.nx } σ2 H2) :=
  for_tup (fun i => Pv (xs.take i)) h0 (fun i σ H _ p => hl _ σ H p) (fun i x σ H hx p => by
    rw [(take_pre hx).2]
    exact hs _ x _ σ H (take_pre hx).1 p) (fun σ H p => hd σ H (by rw [List.take_length] at p; exact p))
/-- for i, x in enumerate(xs) -/
theorem for_enum {i j : Nat} (Pv : List V → L2.St → Hp → Prop) (h0 : Pv [] σ H) (hl : ∀ pre σ H, Pv pre σ H → SqL K H a xs)
    (hs : ∀ pre x post σ H T, xs = pre ++ x :: post → Pv pre σ H → H T = none →
      tb { D with nx := Pv (pre ++ [x]), ct := Pv (pre ++ [x]), bk := D.nx } ((σ.set i (some (.int (pre.length : Nat)))).set j (some x)) (upd H T (.tup [.int (pre.length : Nat), x]))) (hd : ∀ σ H, Pv xs σ H → D.nx σ H) :
    ∃ W : Nat → Nat → L2.St → Hp → Prop, (∃ m, W 0 m σ H) ∧ ∀ k m σ H, W k m σ H →
      ((Ite K a).stop k H ∧ D.nx σ H) ∨ ((Ite K a).go k H ∧ ∃ N : L2.St → Hp → Prop, (∀ σ' H', N σ' H' → ∃ m', m' < m ∧ W (k + 1) m' σ' H') ∧ ∀ x H', (Ite K a).yld k H x H' →
        (gTup K 2 (gCons (gName i) (gCons (gName j) gNil))) x σ H' fun σ2 H2 => tb { D with nx := N, ct := N, bk := D.nx } σ2 H2) := by
  refine ⟨fun k m σ H => m = xs.length - k ∧ k ≤ xs.length ∧ Pv (xs.take k) σ H, ⟨xs.length, by simp, Nat.zero_le _, h0⟩, ?_⟩
  rintro k m σ H ⟨rfl, hk, p⟩
  have q := hl _ σ H p
  by_cases hlt : k < xs.length
  · refine .inr ⟨⟨xs, xs[k], q, by simp [hlt]⟩, Pv (xs.take (k + 1)), fun σ' H' p' => ⟨xs.length - (k + 1), by omega, rfl, hlt, p'⟩, fun v H' y => ?_⟩
    obtain ⟨T, x, rfl, nT, rfl, hx⟩ := y
    have hx := hx xs q
    refine ⟨T, _, rfl, SqT.of upd_same, rfl, _, _, rfl, _, _, rfl, rfl, ?_⟩
    have z := hs _ x _ σ H T (take_pre hx).1 p nT
    rw [(take_pre hx).2]
    rw [show (xs.take k).length = k by rw [List.length_take]; omega] at z
    exact z
  · have e : k = xs.length := by omega
    subst e
    rw [List.take_length] at p
    exact .inl ⟨⟨xs, q, Nat.le_refl _⟩, hd σ H p⟩
/-- [e for x in xs] -/
theorem lc_pre {te : TE} {vs : List Nat} {i : Nat} {H1 : Hp} {L : Addr} {Qd : Hp → Prop} (Pv : List V → Hp → Prop) (h0 : Pv [] (upd H1 L (.lst []))) (hl : ∀ pre H, Pv pre H → SqL K H a xs)
    (hw : ∀ x, wipe ((wipe σ vs).set i (some x)) vs = wipe σ vs)
    (hs : ∀ pre x post H, xs = pre ++ x :: post → Pv pre H → te ((wipe σ vs).set i (some x)) H fun y H4 => ∃ acc, H4 L = some (.lst acc) ∧ acc.length < sizeLine ∧ Pv (pre ++ [x]) (upd H4 L (.lst (acc ++ [y])))) (hd : ∀ H, Pv xs H → Qd H) :
    ∃ W : Nat → Nat → Hp → Prop, (∃ m, W 0 m (upd H1 L (.lst []))) ∧ ∀ k m H, W k m H →
      ((Itl K a).stop k H ∧ Qd H) ∨ ((Itl K a).go k H ∧ ∃ Nx : Hp → Prop, (∀ H', Nx H' → ∃ m', m' < m ∧ W (k + 1) m' H') ∧ ∀ x H', (Itl K a).yld k H x H' → gName i x (wipe σ vs) H' fun σ2 H2 => wipe σ2 vs = wipe σ vs ∧ tYes σ2 H2 fun b H3 =>
        if b = true then te σ2 H3 fun y H4 => ∃ acc, H4 L = some (.lst acc) ∧ acc.length < sizeLine ∧ Nx (upd H4 L (.lst (acc ++ [y]))) else Nx H3) :=
  lc_list (fun k => Pv (xs.take k)) h0 (fun k H _ p => hl _ H p) (fun k x H hx p => ⟨hw x, by
    rw [(take_pre hx).2]
    exact hs _ x _ H (take_pre hx).1 p⟩) (fun H p => hd H (by rw [List.take_length] at p; exact p))
/-- [e for x in range(n)] -/
theorem lc_rng {te : TE} {vs : List Nat} {i : Nat} {n : Nat} {lo : Int} {H1 : Hp} {L : Addr} {Qd : Hp → Prop} (Pv : Nat → Hp → Prop) (h0 : Pv 0 (upd H1 L (.lst [])))
    (hw : ∀ x, wipe ((wipe σ vs).set i (some x)) vs = wipe σ vs)
    (hs : ∀ k H, k < n → Pv k H → te ((wipe σ vs).set i (some (.int (lo + k)))) H fun y H4 => ∃ acc, H4 L = some (.lst acc) ∧ acc.length < sizeLine ∧ Pv (k + 1) (upd H4 L (.lst (acc ++ [y])))) (hd : ∀ H, Pv n H → Qd H) :
    ∃ W : Nat → Nat → Hp → Prop, (∃ m, W 0 m (upd H1 L (.lst []))) ∧ ∀ k m H, W k m H →
      ((Itr lo n).stop k H ∧ Qd H) ∨ ((Itr lo n).go k H ∧ ∃ Nx : Hp → Prop, (∀ H', Nx H' → ∃ m', m' < m ∧ W (k + 1) m' H') ∧ ∀ x H', (Itr lo n).yld k H x H' → gName i x (wipe σ vs) H' fun σ2 H2 => wipe σ2 vs = wipe σ vs ∧ tYes σ2 H2 fun b H3 =>
        if b = true then te σ2 H3 fun y H4 => ∃ acc, H4 L = some (.lst acc) ∧ acc.length < sizeLine ∧ Nx (upd H4 L (.lst (acc ++ [y]))) else Nx H3) :=
  lc_range (lo := lo) (n := n) Pv h0 (fun k H hk p => ⟨hw _, hs k H hk p⟩) hd
end
/-! ### places of lists -/
theorem atI_in {α : Type} {xs : List α} {i : Int} (h0 : 0 ≤ i) (h1 : i < xs.length) : ∃ v, atI xs i = some v ∧ v ∈ xs := by
  obtain ⟨j, rfl⟩ : ∃ j : Nat, i = (j : Int) := ⟨i.toNat, by omega⟩
  have hj : j < xs.length := by omega
  exact ⟨xs[j], atI_nat (List.getElem?_eq_getElem hj), List.getElem_mem hj⟩
theorem small {n : Nat} (h : n ≤ 100000) : n ≤ sizeLine := Nat.le_trans h (by decide)
theorem smallL {n : Nat} (h : n < 100000) : n < sizeLine := Nat.lt_of_lt_of_le h (by decide)
theorem sz {n : Nat} (h : Nat.ble n 100000 = true := by rfl) : n ≤ sizeLine := small (Nat.le_of_ble_eq_true h)
theorem seqIdx {i : Int} {n : Nat} (h0 : 0 ≤ i) (h1 : i < n) : seqIndex? i n = some i.toNat := by
  unfold seqIndex?
  have e : (if i < 0 then i + n else i) = i := by rw [if_neg (by omega)]
  simp only [e]
  rw [if_pos (by simp; omega)]
theorem atN {α : Type} {xs : List α} {i : Int} {v : α} (h0 : 0 ≤ i) (h : atI xs i = some v) : xs[i.toNat]? = some v := by
  obtain ⟨j, rfl⟩ : ∃ j : Nat, i = (j : Int) := ⟨i.toNat, by omega⟩
  unfold atI ixN at h
  rw [if_pos (by omega)] at h
  split at h
  · simpa using h
  · cases h
theorem mem_erase {α : Type} {xs : List α} {k : Nat} {y : α} (h : y ∈ xs.eraseIdx k) : y ∈ xs := List.mem_of_mem_eraseIdx h
/-- the i-th of a paired list -/
theorem prd_get {α β : Type} {F : α → β → Prop} : ∀ {xs : List α} {ys : List β} {i : Nat} {x : α}, Paired F xs ys → xs[i]? = some x → ∃ y, ys[i]? = some y ∧ F x y
  | _, _, _, _, .nil, h => by simp at h
  | _, _, 0, _, .cons r _, h => by
    simp at h
    subst h
    exact ⟨_, rfl, r⟩
  | _, _, i + 1, _, .cons _ t, h => by
    rw [List.getElem?_cons_succ] at h
    obtain ⟨y, h1, h2⟩ := prd_get t h
    exact ⟨y, by rw [List.getElem?_cons_succ]; exact h1, h2⟩
theorem prd_len {α β : Type} {F : α → β → Prop} : ∀ {xs : List α} {ys : List β}, Paired F xs ys → xs.length = ys.length
  | _, _, .nil => rfl
  | _, _, .cons _ t => congrArg (· + 1) (prd_len t)
theorem prd_imp {α β : Type} {F F' : α → β → Prop} (k : ∀ x y, F x y → F' x y) : ∀ {xs : List α} {ys : List β}, Paired F xs ys → Paired F' xs ys
  | _, _, .nil => .nil
  | _, _, .cons r t => .cons (k _ _ r) (prd_imp k t)
theorem prd_app {α β : Type} {F : α → β → Prop} : ∀ {xs xs' : List α} {ys ys' : List β}, Paired F xs ys → Paired F xs' ys' → Paired F (xs ++ xs') (ys ++ ys')
  | _, _, _, _, .nil, s => s
  | _, _, _, _, .cons r t, s => .cons r (prd_app t s)
theorem prd_take {α β : Type} {F : α → β → Prop} : ∀ {xs : List α} {ys : List β} (n : Nat), Paired F xs ys → Paired F (xs.take n) (ys.take n)
  | _, _, 0, _ => .nil
  | _, _, _ + 1, .nil => .nil
  | _, _, n + 1, .cons r t => .cons r (prd_take n t)
/-- each has a partner -/
theorem prd_ex {α β : Type} {F : α → β → Prop} : ∀ {xs : List α}, (∀ x ∈ xs, ∃ y, F x y) → ∃ ys, Paired F xs ys
  | [], _ => ⟨[], .nil⟩
  | x :: r, h => by
    obtain ⟨y, hy⟩ := h x List.mem_cons_self
    obtain ⟨ys, hs⟩ := prd_ex fun x hx => h x (List.mem_cons_of_mem _ hx)
    exact ⟨y :: ys, .cons hy hs⟩
theorem prd_mem {α β : Type} {F : α → β → Prop} {x : α} : ∀ {xs : List α} {ys : List β}, Paired F xs ys → x ∈ xs → ∃ y ∈ ys, F x y
  | _, _, .nil, h => nomatch h
  | _, _, .cons (b := b) r t, h => by
    rcases List.mem_cons.mp h with rfl | h
    · exact ⟨b, List.mem_cons_self, r⟩
    · obtain ⟨y, h1, h2⟩ := prd_mem t h
      exact ⟨y, List.mem_cons_of_mem _ h1, h2⟩
/-- a statement and what follows it, with a word J between them -/
def xCut (t u : TS) : TS := fun D σ H => ∃ J : L2.St → Hp → Prop, t { D with nx := J } σ H ∧ ∀ σ' H', J σ' H' → u D σ' H'
theorem xss_cut {X : Cx} {st : Stmt} {sts : List Stmt} {t u : TS} (h1 : PS X st t) (h2 : PSs X sts u) : PSs X (st :: sts) (xCut t u) := by
  refine ⟨fun pins s0 σ H D I h => ?_⟩
  obtain ⟨J, hj, hu⟩ := h
  refine wpAny_execs_cons (thn (h1.run pins s0 σ H { D with nx := J } I hj) fun fl s2 q => ?_)
  cases fl with
  | next =>
    obtain ⟨σ2, H2, I2, q2⟩ := q
    exact h2.run pins s2 σ2 H2 D I2 (hu σ2 H2 q2)
  | _ => exact q
section
variable {K : PySem.W.Frag} {a : Addr} {xs : List V} {σ : L2.St}
/-- [e for x in xs], by the turn -/
theorem lc_at {te : TE} {vs : List Nat} {i : Nat} {H1 : Hp} {L : Addr} {Qd : Hp → Prop} (Pv : Nat → Hp → Prop) (h0 : Pv 0 (upd H1 L (.lst []))) (hl : ∀ k H, Pv k H → SqL K H a xs)
    (hw : ∀ x, wipe ((wipe σ vs).set i (some x)) vs = wipe σ vs)
    (hs : ∀ k x H, xs[k]? = some x → Pv k H → te ((wipe σ vs).set i (some x)) H fun y H4 => ∃ acc, H4 L = some (.lst acc) ∧ acc.length < sizeLine ∧ Pv (k + 1) (upd H4 L (.lst (acc ++ [y])))) (hd : ∀ H, Pv xs.length H → Qd H) :
    ∃ W : Nat → Nat → Hp → Prop, (∃ m, W 0 m (upd H1 L (.lst []))) ∧ ∀ k m H, W k m H →
      ((Itl K a).stop k H ∧ Qd H) ∨ ((Itl K a).go k H ∧ ∃ Nx : Hp → Prop, (∀ H', Nx H' → ∃ m', m' < m ∧ W (k + 1) m' H') ∧ ∀ x H', (Itl K a).yld k H x H' → gName i x (wipe σ vs) H' fun σ2 H2 => wipe σ2 vs = wipe σ vs ∧ tYes σ2 H2 fun b H3 =>
        if b = true then te σ2 H3 fun y H4 => ∃ acc, H4 L = some (.lst acc) ∧ acc.length < sizeLine ∧ Nx (upd H4 L (.lst (acc ++ [y]))) else Nx H3) :=
  lc_list Pv h0 (fun k H _ p => hl _ H p) (fun k x H hx p => ⟨hw x, hs _ x H hx p⟩) hd
end
theorem take_snoc {α : Type} {xs : List α} {i : Nat} {x : α} (h : xs[i]? = some x) : xs.take (i + 1) = xs.take i ++ [x] := (take_pre h).2
theorem ff {A : Prop} (h : false = true) : A := nomatch h
theorem tt {A : Prop} (h : true = false) : A := nomatch h
/-! ### the same with the written part K said (within a comprehension the reading must not name its context) -/
section
variable {X : Cx} (K : PySem.W.Frag) {a b e o : Expr} {es : List Expr} {ta tb te to : TE} {t : TA} {pos : Pos} {tg : Expr}
theorem ix_k (h : X.K = K := by rfl) : IxR X (yIx K) := h ▸ ix_y
theorem cr_lenK (h : X.K = K := by rfl) : CallR X (.builtin "len") (yLen K) := h ▸ cr_len
theorem op_eqK (hu : X.A.units + 64 < cLine) (h : X.K = K := by rfl) : OpR X (compareOp .Eq) (yEq K) := h ▸ op_eqY hu
theorem op_neK (hu : X.A.units + 64 < cLine) (h : X.K = K := by rfl) : OpR X (compareOp .NotEq) (yNe K) := h ▸ op_neY hu
theorem xt_truK (ha : PE X a ta) (h : X.K = K := by rfl) (he : ∀ whole, isTrue a X.env whole = (do let v ← whole; standAt a.pos; holding [v] (truthy v)) := by intro _; rfl) : PT X a (xTru K ta) := h ▸ xt_tru ha he
theorem call_isK (h : X.K = K := by rfl) : CallR X (.builtin "isinstance") (rIsi K) := h ▸ call_isi
def yList (K : PySem.W.Frag) : List V → Hp → VK → Prop := fun xs H Q => ∃ p ys, xs = [.ref p] ∧ (SqL K H p ys ∨ SqT K H p ys) ∧ ∀ l, H l = none → Q (.ref l) (upd H l (.lst ys))
theorem call_listK (h : X.K = K := by rfl) : CallR X (.type "list") (yList K) := h ▸ call_list_of
def yTup (K : PySem.W.Frag) : List V → Hp → VK → Prop := fun xs H Q => ∃ p ys, xs = [.ref p] ∧ ((SqL K H p ys ∧ ∀ l, H l = none → Q (.ref l) (upd H l (.tup ys))) ∨ (SqT K H p ys ∧ Q (.ref p) H))
theorem call_tupleK (h : X.K = K := by rfl) : CallR X (.type "tuple") (yTup K) := h ▸ call_tuple_of
theorem cr_sumK (hc : X.calm = true) (h : X.K = K := by rfl) : CallR X (.builtin "sum") (rSum K) := h ▸ cr_sum hc
theorem sl_listK (h : X.K = K := by rfl) : SlR X (rSlL K) := h ▸ sl_list
theorem pi_listK (ha : PE X a ta) (h : X.K = K := by rfl) : PI X tg a (iList K ta) := h ▸ pi_list ha
theorem pi_tupK (ha : PE X a ta) (h : X.K = K := by rfl) : PI X tg a (iTup K ta) := h ▸ pi_tup ha
theorem pe_bmK {T id : String} {name : Str} {apos cpos : Pos} {r : V → List V → Hp → VK → Prop} (pa : PlainAttrs T) (slot : Slot T name id) (hty : typeOf (.builtin id) = pure (.type "method_descriptor")) (hm : MtR X id r) (ho : PE X o to) (ha : PA X (e :: es) t) (hK : X.K = K := by rfl)
    (hbase : attributeBase o name X.env (eval o X.env) = eval o X.env := by rfl)
    (hfew : ((backTo cpos (starEach (e :: es) X.env)).all (fun x => !x.1) && (backToKw cpos (keywordEach [] X.env)).all (fun x => x.1.isSome)
      && decide ((e :: es).length + ([] : List Keyword).length + (if ([] : List Keyword).isEmpty then 0 else 1) < 30)) = true := by rfl)
    (hline : (apos.endLine == cpos.line) = true := by rfl) (hs : starEach (e :: es) X.env = (false, eval e X.env) :: starEach es X.env := by rfl) (hplain : (backTo cpos (starEach es X.env)).any (·.1) = false := by rfl) :
    PE X (.Call (.Attribute o name apos) (e :: es) [] cpos) (tBM K T r to t) := hK ▸ pe_bm pa slot hty hm ho ha hbase hfew hline hs hplain
end
section
variable {X : Cx} {a b c o : Expr} {ta tb tc : TE} {pos : Pos}
/-- a op1 b op2 c, b asked once -/
def xChain (r r' : R2) (ta tb tc : TE) : TE := fun σ H Q => ta σ H fun x H1 => tb σ H1 fun y H2 => r x y H2 fun z H3 => match z with
  | .bl k => (k = true → tc σ H3 fun w' H4 => r' y w' H4 Q) ∧ (k = false → Q (.bl false) H3)
  | _ => False
theorem xe_chain {op op' : CmpOp} {r r' : R2} (ho : OpR X (compareOp op) r) (ho' : OpR X (compareOp op') r') (ha : PE X a ta) (hb : PE X b tb) (hc : PE X c tc)
    (hm : lastMarks [op, op'] [b, c] = false := by with_unfolding_all rfl) : PE X (.Compare a [op, op'] [b, c] pos) (xChain r r' ta tb tc) := by
  refine ⟨fun pins s0 σ H Q J h => ?_⟩
  refine Compare_chain (thn (ha.run pins s0 σ H _ J h) fun v s1 ⟨x, H1, J1, r1, q1⟩ => chain_link (thn (hb.run pins s1 σ H1 _ J1 q1) fun u s2 ⟨y, H2, J2, r2, q2⟩ =>
    thn (ho pins s2 σ H2 x y v u _ J2 r1 r2 q2) fun d s3 ⟨z, H3, J3, r3, q3⟩ => ?_)) hm
  cases z with
  | bl k =>
    cases r3
    refine wpAny_truthy_bool ?_
    cases k with
    | false => exact ite_ff ⟨.bl false, H3, J3, rfl, q3.2 rfl⟩
    | true => exact ite_tt (chain_last (thn (hc.run pins s3 σ H3 _ J3 (q3.1 rfl)) fun w' s4 ⟨z', H4, J4, r4, q4⟩ => ho' pins s4 σ H4 y z' u w' Q J4 r2 r4 q4))
  | _ => exact False.elim q3
theorem xt_chain {op op' : CmpOp} {r r' : R2} (ho : OpR X (compareOp op) r) (ho' : OpR X (compareOp op') r') (ha : PE X a ta) (hb : PE X b tb) (hc : PE X c tc)
    (hm : lastMarks [op, op'] [b, c] = false := by with_unfolding_all rfl) : PT X (.Compare a [op, op'] [b, c] pos) (xB (xChain r r' ta tb tc)) := by
  refine ⟨fun pins s0 σ H Q J h => ?_⟩
  refine isTrue_chain (thn (ha.run pins s0 σ H _ J h) fun v s1 ⟨x, H1, J1, r1, q1⟩ => test_link (thn (hb.run pins s1 σ H1 _ J1 q1) fun u s2 ⟨y, H2, J2, r2, q2⟩ =>
    thn (ho pins s2 σ H2 x y v u _ J2 r1 r2 q2) fun d s3 ⟨z, H3, J3, r3, q3⟩ => ?_)) hm
  cases z with
  | bl k =>
    cases r3
    refine wpAny_truthy_bool ?_
    cases k with
    | false => exact ite_ff ⟨H3, J3, q3.2 rfl⟩
    | true =>
      refine ite_tt (test_last (thn (hc.run pins s3 σ H3 _ J3 (q3.1 rfl)) fun w' s4 ⟨z', H4, J4, r4, q4⟩ => thn (ho' pins s4 σ H4 y z' u w' _ J4 r2 r4 q4) fun d' s5 ⟨z2, H5, J5, r5, q5⟩ => ?_))
      cases z2 with
      | bl k2 =>
        cases r5
        exact wpAny_truthy_bool ⟨H5, J5, q5⟩
      | _ => exact False.elim q5
  | _ => exact False.elim q3
/-- while: a word with its measure -/
def xWhile (c : TT) (tb : TS) : TS := fun D σ H => ∃ W : Nat → L2.St → Hp → Prop, (∃ m, W m σ H) ∧ ∀ m σ H, W m σ H → c σ H fun b H1 =>
  (b = true → tb { D with nx := fun σ' H' => ∃ m', m' < m ∧ W m' σ' H', ct := fun σ' H' => ∃ m', m' < m ∧ W m' σ' H', bk := D.nx } σ H1) ∧ (b = false → D.nx σ H1)
theorem xs_while {c : Expr} {body : List Stmt} {tc : TT} {tb : TS} (hp : PassesOwn (model X.prog X.w) X.A X.env X.xe) (hc : PT X c tc) (hb : PSs X body tb) : PS X (.While c body [] pos) (xWhile tc tb) := by
  refine ⟨fun pins s0 σ H D J h => ?_⟩
  obtain ⟨W, ⟨m0, w0⟩, turn⟩ := h
  refine wpAny_While (codeAny_whileLoop (fun n s' => ∃ σ' H', L2.Inv X pins σ' H' s' ∧ W n σ' H') ?_ m0 ⟨σ, H, J, w0⟩)
  rintro n s1 ⟨σ1, H1, J1, w1⟩
  refine wpAny_passesOwn hp (thn (hc.run pins s1 σ1 H1 _ J1 (turn n σ1 H1 w1)) fun k s2 ⟨H2, J2, q2⟩ => ?_)
  cases k with
  | true =>
    rw [if_pos rfl]
    refine wpAny_passesOwn hp (thn (hb.run pins s2 σ1 H2 _ J2 (q2.1 rfl)) fun f s3 q3 => ?_)
    cases f with
    | next =>
      obtain ⟨σ3, H3, J3, m', hm, w3⟩ := q3
      exact ⟨m', hm, σ3, H3, J3, w3⟩
    | cont =>
      obtain ⟨σ3, H3, J3, m', hm, w3⟩ := q3
      exact ⟨m', hm, σ3, H3, J3, w3⟩
    | brk => exact q3
    | ret v => exact q3
  | false =>
    rw [if_neg Bool.false_ne_true]
    exact wpAny_execs_nil ⟨σ1, H2, J2, q2.2 rfl⟩
/-- a comparison by an own method (__le__ ..) of two instances of C -/
def yOwn (C : Addr) (sp : Sp) (E : XK) : R2 := fun x y H Q => ∃ a b dx dy fs gs, x = .ref a ∧ y = .ref b ∧ H a = some (.ins C dx fs) ∧ H b = some (.ins C dy gs) ∧ sp [.ref a, .ref b] H Q E
theorem op_own {CX : CXT} {C f : Addr} {fd : FuncData} {ps : List Str} {sp : Sp} {E : XK} {op : CmpOp} {n : Nat} (hop : compareOp op = richCompare op) (F : FnOk X.prog X.w X.K X.mg X.base CX n f fd ps sp)
    (hs : PySem.W.findIn X.K (.ref C) (cmpInfo op).2.1 = some (some (.ref f))) (hf : PySem.W.isFn X.K (.ref f) = true) (hb : Binds X.K fd ps []) (hx : Passes CX X E) (hr : Room n X.A) : OpR X (compareOp op) (yOwn C sp E) := by
  intro pins s σ H x y u v Q I rx ry h
  obtain ⟨a, b, dx, dy, fs, gs, rfl, rfl, ha, hb', hsp⟩ := h
  cases rx
  cases ry
  rw [hop]
  obtain ⟨mA, J1, _⟩ := ins_get I.hok ha
  obtain ⟨mB, J2, _⟩ := ins_get I.hok hb'
  obtain ⟨od, J1, _⟩ := J1.look
  obtain ⟨od', J2, _⟩ := J2.look
  obtain ⟨m, hF⟩ := I.fr
  refine PySem.W.cmp_K (op := op) (tb := .ref C) hr.units0 hF I.ok.mod.kin J1 J2.type (by simp [PySem.W.notFirst]) hs hf ?_
  have hl := F.len _ _ _ _ hsp
  refine wpAny_mono (run_fn (us := [.ref a, .ref b]) (vs := [.ref a, .ref b]) (dvs := []) F hr hb .nil hx I (.cons rfl (.cons rfl .nil)) hsp) (fun v s' q => ?_) fun _ _ e => e
  obtain ⟨z, H', I', rz, q⟩ := q
  have fin : EP X pins σ Q v s' := ⟨z, H', I', rz, q⟩
  cases v <;> first | exact fin | (cases z <;> first | exact absurd (show _ = _ from rz) (by intro e; cases e) | (obtain ⟨_, e⟩ := rz; cases e))
variable (K : PySem.W.Frag)
theorem pe_fldK {f : Str} (ha : PE X a ta) (hb : attributeBase a f X.env (eval a X.env) = eval a X.env := by rfl) (h : X.K = K := by rfl) : PE X (.Attribute a f pos) (tFld K ta f) := h ▸ pe_fld ha hb
theorem in_seqK (h : X.K = K := by rfl) : OpR X (compareOp .In) (rIn K false) := h ▸ op_in_seq
theorem notin_seqK (h : X.K = K := by rfl) : OpR X (compareOp .NotIn) (rIn K true) := h ▸ op_notIn_seq
theorem mt_countK (h : X.K = K := by rfl) : MtR X "list.count" (rCntI K) := h ▸ mt_lcount
theorem cr_allK (hc : X.calm = true) (h : X.K = K := by rfl) : CallR X (.builtin "all") (rAll K) := h ▸ cr_all hc
theorem cr_anyK (hc : X.calm = true) (h : X.K = K := by rfl) : CallR X (.builtin "any") (rAny K) := h ▸ cr_any hc
end
theorem xe_glob {X : Cx} {x z : Str} {pos : Pos} (hg : Gl X x) (hm : ∃ t, X.mg x = some (.str z t)) (hd : (x == ("__debug__" : Str)) = false := by decide) : PE X (.Name x pos) (tC (.str z)) := by
  obtain ⟨t, hm⟩ := hm
  exact pe_glob hg hm ⟨_, rfl⟩ hd
theorem xe_globI {X : Cx} {x : Str} {z : Int} {pos : Pos} (hg : Gl X x) (hm : ∃ t, X.mg x = some (.int z t)) (hd : (x == ("__debug__" : Str)) = false := by decide) : PE X (.Name x pos) (tC (.int z)) := by
  obtain ⟨t, hm⟩ := hm
  exact pe_glob hg hm ⟨_, rfl⟩ hd
theorem prd_unsnoc {α β : Type} {F : α → β → Prop} {x : α} : ∀ {xs : List α} {ys : List β}, Paired F (xs ++ [x]) ys → ∃ ys' y, ys = ys' ++ [y] ∧ Paired F xs ys' ∧ F x y
  | [], _, .cons r .nil => ⟨[], _, rfl, .nil, r⟩
  | _ :: xs, _, .cons (b := b) r t => by
    obtain ⟨ys', y, rfl, h1, h2⟩ := prd_unsnoc (xs := xs) t
    exact ⟨b :: ys', y, rfl, .cons r h1, h2⟩
theorem nil_or_snoc {α : Type} (xs : List α) : xs = [] ∨ ∃ ys y, xs = ys ++ [y] := by
  rcases List.eq_nil_or_concat xs with h | ⟨ys, y, h⟩
  · exact .inl h
  · exact .inr ⟨ys, y, by simpa using h⟩
theorem pg_tupK {X : Cx} (K : PySem.W.Frag) (n : Nat) {es : List Expr} {k : Nat} {pos : Pos} {t : TGs} (h : PGs X es t) (hc : X.calm = true := by rfl) (hK : X.K = K := by rfl)
    (hn : (assignEach es X.env).length = n := by rfl) (hst : (assignEach es X.env).findIdx? (·.1) = none := by rfl) : PG X (.Tuple es k pos) (gTup K n t) := hK ▸ pg_tup hc h hn hst
theorem perm_erase {α : Type} : ∀ {xs : List α} {i : Nat} {x : α}, xs[i]? = some x → (x :: xs.eraseIdx i).Perm xs
  | [], _, _, h => by simp at h
  | y :: r, 0, x, h => by
    simp at h
    subst h
    exact List.Perm.refl _
  | y :: r, i + 1, x, h => by
    rw [List.getElem?_cons_succ] at h
    exact (List.Perm.swap _ _ _).trans (List.Perm.cons _ (perm_erase h))
theorem Sep.new2 {G H : Hp} {M : List (Addr × HO)} {x dx : Addr} {o u : HO} (S : Sep G M H) (h1 : H x = Option.none) (h2 : H dx = Option.none) (ne : dx ≠ x) : Sep G ((x, o) :: (dx, u) :: M) (upd (upd H dx u) x o) :=
  (S.new h2).new (by rw [upd_ne (Ne.symm ne)]; exact h1)
end XL
set_option Elab.async false
set_option linter.all false
set_option maxRecDepth 100000
set_option maxHeartbeats 4000000
/-! XIter: enumerate of a tuple. -/
namespace XL
open PySem PySem.Spec PyProof.Rows L2
theorem meets_enum1 {v : Value} {o : Obj} {Hq : Heap → Prop} (B : Begins v o Hq) :
    Meets (Builtin.«enumerate.__new__» ⟨[.type "enumerate", v], []⟩) (fun _ R s => Hq s.heap ∧
      R (.ok (.ret (.ref (s.heap.push o).objs.size))) { s with heap := (s.heap.push o).push { cls := .type "enumerate", data := .fields #[.none, .bool false, .ref s.heap.objs.size, rawInt 0, .none, .none] } }) :=
  .of_wp fun prog w A R s z => by
    obtain ⟨hp, g, d, tk, os⟩ := s
    obtain ⟨z1, z2⟩ := z
    have hsub := sub_enumerate
    have begin1 : ∀ {A' : Around} {E : Value → Shared → Prop} {Q : Value → Shared → Prop}, Q (.ref hp.objs.size) ⟨hp.push o, g, d, tk, os⟩ → wpAny (model prog w) A' (pyIter v) Q E ⟨hp, g, d, tk, os⟩ := fun q => B.iter prog w _ _ ⟨hp, g, d, tk, os⟩ _ z1 q
    wp_walk using begin1
    refine wpAny_stack_any fun st => wpAny_pure ?_
    split
    · rename_i c _ _ _ _ _
      cases (c == Value.type "enumerate") <;> (wp_walk using begin1; exact ⟨_, rfl, z2⟩)
    · wp_walk using begin1
      exact ⟨_, rfl, z2⟩
theorem call_enum1 {prog : Program} {w : World} {A : Around} {E : Value → Shared → Prop} {s : Shared} {v : Value} {o : Obj} {Hq : Heap → Prop} {Q : Value → Shared → Prop} (B : Begins v o Hq) (h1 : Hq s.heap)
    (k : ∀ h', IsEnum h' (s.heap.objs.size + 1) s.heap.objs.size 0 .none → h'.get? s.heap.objs.size = some o → (∀ b o, s.heap.get? b = some o → h'.get? b = some o) → Q (.ref (s.heap.objs.size + 1)) { s with heap := h' }) :
    wpAny (model prog w) A (call (.type "enumerate") [v]) Q E s := by
  refine callType_new F.called_enumerate (by decide) (F.typeCall_enumerate_1 _) (F.newCall_enumerate_1 _) (fun ob => F.args_object_init_2 ob _) F.entry_enumerate_new (meets_enum1 B) ⟨h1, ?_⟩
  have hz : (s.heap.push o).objs.size = s.heap.objs.size + 1 := Heap.size_push ..
  show _ ∧ _
  rw [hz]
  have he : IsEnum ((s.heap.push o).push { cls := .type "enumerate", data := .fields #[.none, .bool false, .ref s.heap.objs.size, rawInt 0, .none, .none] }) (s.heap.objs.size + 1) s.heap.objs.size 0 .none := by
    have z := Heap.get?_push_size (s.heap.push o) (o := { cls := .type "enumerate", data := .fields #[.none, .bool false, .ref s.heap.objs.size, rawInt 0, .none, .none] }) rfl
    rw [hz] at z
    exact z
  exact ⟨⟨_, he, rfl⟩, k _ he (Heap.get?_push_of_some _ (Heap.get?_push_size _ B.free)) fun b o x => Heap.get?_push_of_some _ (Heap.get?_push_of_some _ x)⟩
/-- the tuple at a, each item in a new pair -/
def IteT (K : PySem.W.Frag) (a : Addr) : It :=
  ⟨fun i H => ∃ (xs : List V) (x : V), SqT K H a xs ∧ xs[i]? = some x, fun i H v H' => ∃ T x, v = .ref T ∧ H T = none ∧ H' = upd H T (.tup [.int (i : Nat), x]) ∧ ∀ xs, SqT K H a xs → xs[i]? = some x, fun i H => ∃ xs : List V, SqT K H a xs ∧ xs.length ≤ i⟩
theorem turn_enumT {P : Program} {w : World} {K : PySem.W.Frag} {elts : List Expr} {kk : Nat} {tpos : Pos} (a e it : Addr) (hai : a ≠ it) (hae : a ≠ e) :
    Turn P w K (.Tuple elts kk tpos) (IteT K a) [e, it] e (fun i h => (∃ old, IsEnum h e it ((i : Nat) : Int) old) ∧ h.IsTupleIter it a i ∧ e ≠ it) where
  mem := by simp
  obj := fun i h st b hb => by
    obtain ⟨⟨old, he⟩, ⟨o, ho, hc, hd⟩, _⟩ := st
    have q : b = e ∨ b = it := by simpa using hb
    rcases q with z | z
    · rw [z]; exact ⟨_, he, fun v q => nomatch q⟩
    · rw [z]; exact ⟨o, ho, fun v q => by rw [hd] at q; cases q⟩
  keep := fun i h h' st k => let ⟨⟨old, he⟩, hi, hne⟩ := st; ⟨⟨old, k e (by simp) _ he⟩, hi.at fun o q => k it (by simp) o q, hne⟩
  item := by
    intro X hP hw hK hc i pins s σ H E I hf st hg
    subst hP hw hK
    obtain ⟨⟨old, he⟩, hit, hne⟩ := st
    obtain ⟨xs, x, hq, hx⟩ := hg
    obtain ⟨its, rv, p, hz⟩ := I.tuple hq
    obtain ⟨u, hu, ru⟩ := rv.get hx
    have hel : e < s.heap.objs.size := Heap.lt_size he
    have hil : it < s.heap.objs.size := by obtain ⟨_, q, _⟩ := hit; exact Heap.lt_size q
    have hlen : i < its.toArray.size := by
      have z := (List.getElem?_eq_some_iff.mp hu).1
      simpa using z
    refine wpAny_pyNext_enum_itemC (c := ((i : Nat) : Int)) (Draws.tuple (A := X.A.in1) (I.ok.hd hc) it a hai its.toArray) he ⟨hit, p⟩ hlen hne (by simp; exact ⟨hne, fun z => hae z.symm⟩) fun y h' tk hy ho st' hT hsz hk => ?_
    have ey : y = u := by
      have z : its[i]? = some y := by simpa using hy
      rw [hu] at z
      exact (Option.some.inj z).symm
    subst ey
    refine ⟨_, rfl, wpAny_letOwnedTupleGo_enum (s := { s with heap := h', toks := tk + 1 }) ho fun h'' he' sb => ?_⟩
    have hT2 : h''.get? s.heap.objs.size = some { cls := .type "tuple", data := .seq #[.int i tk, y] } := (sb.2 _ (Nat.ne_of_gt hel)).trans hT
    have new : ObjOk X.prog X.w (upd H s.heap.objs.size (.tup [.int (i : Nat), x])) h'' s.heap.objs.size (.tup [.int (i : Nat), x]) :=
      ⟨by show 2 ≤ sizeLine; decide, [.int i tk, y], .cons ⟨_, rfl⟩ (.cons ru .nil), ⟨_, hT2, rfl, _, rfl⟩⟩
    have I1 : L2.Inv X pins σ (upd H s.heap.objs.size (.tup [.int (i : Nat), x])) { s with heap := h'', toks := tk + 1 } :=
      I.turnedNew (ch := [e, it]) (fun b ob hb q => (sb.2 b (fun z => hb (by simp [z]))).trans (hk b ob (fun z => hb (by simp [z])) (fun z => hb (by simp [z])) q)) hf (Nat.le_refl _) new
    refine ⟨.ref s.heap.objs.size, _, I1, rfl, ⟨_, x, rfl, I.hok.fresh (Nat.le_refl _), rfl, fun ys hy => by rw [I.tuple_inj hy hq]; exact hx⟩, ⟨⟨y, ?_⟩, st'.1.at fun o q => (sb.2 it (Ne.symm hne)).trans q, hne⟩, fun b hb => ?_⟩
    · have e1 : ((i + 1 : Nat) : Int) = (i : Int) + 1 := by omega
      rw [e1]; exact he'
    · have hb2 : b < s.heap.objs.size := by
        have q : b = e ∨ b = it := by simpa using hb
        rcases q with z | z
        · rw [z]; exact hel
        · rw [z]; exact hil
      rw [upd_ne (Nat.ne_of_lt hb2)]
      exact (hf b hb).1
  done := by
    intro X hP hw hK hc i pins s σ H E I hf st hg
    subst hP hw hK
    obtain ⟨⟨old, he⟩, hit, hne⟩ := st
    obtain ⟨xs, hq, hx⟩ := hg
    obtain ⟨its, rv, p, hz⟩ := I.tuple hq
    obtain ⟨f0, f1, f2, f3, f4, f5⟩ := hf it (by simp)
    have hl := rv.length
    have D := Draws.tuple (prog := X.prog) (w := X.w) (A := X.A.in1) (I.ok.hd hc) it a hai its.toArray
    by_cases hi : i = its.toArray.size
    · subst hi
      exact wpAny_pyNext_enum_endD D he ⟨hit, p⟩ fun h' eb => ⟨rfl, I.turned (t' := s.toks) (fun b o hb q => eb b o hb q) f0 f1 f3 f4 f5⟩
    · have D2 : Draws X.prog X.w X.A.in1 it [it, a] i (fun _ _ => False) (fun j h => (j = i ∨ False) ∧ h.IsTupleIter it a i ∧ h.IsTuple a its.toArray) := {
        live := fun _ _ st => let ⟨o, ho, _⟩ := st.2.1; ⟨o, ho⟩
        frame := fun _ _ _ st hk => ⟨st.1, st.2.1.at fun o e => hk it (by simp) o e, st.2.2.at fun o e => hk a (by simp) o e⟩
        item := fun j s Q E hj st hQ => by
          rcases st.1 with z | z
          · omega
          · exact z.elim
        done := fun s Q E st hE => wpAny_nextOf_tuple_end (I.ok.hd hc) st.2.1 st.2.2 (by
          simp only [List.getElem?_toArray]
          exact List.getElem?_eq_none_iff.mpr (by omega)) hE }
      exact wpAny_pyNext_enum_endD D2 he ⟨.inl rfl, hit, p⟩ fun h' eb => ⟨rfl, I.turned (t' := s.toks) (fun b o hb q => eb b o hb q) f0 f1 f3 f4 f5⟩
  self := fun A i s Q E st h => let ⟨⟨_, he⟩, _⟩ := st; wpAny_pyIter_enum he h
def iEnumT (K : PySem.W.Frag) (ta : TA) : TI := fun σ H R => ta σ H fun vs H1 => ∃ a xs, vs = [.ref a] ∧ SqT K H1 a xs ∧ R (IteT K a) H1
theorem pi_enumT {X : Cx} {e : Expr} {ta : TA} {p pos tpos : Pos} {elts : List Expr} {kk : Nat} (hg : Gl X "enumerate") (hm : X.mg "enumerate" = none) (ha : PA X [e] ta) (hs : starEach [e] X.env = [(false, eval e X.env)] := by rfl) :
    PI X (.Tuple elts kk tpos) (.Call (.Name "enumerate" p) [e] [] pos) (iEnumT X.K ta) := by
  refine ⟨fun pins s σ H R I h => ?_⟩
  refine Call_ (ld_blt I hg hm boot_enumerate (PyProof.Rows.callWith_type1 (thn (ha.run pos pins s σ H _ I h) fun us s1 ⟨vs, H1, I1, r1, q1⟩ => ?_) hs rfl))
  obtain ⟨a, xs, ex, hq, q⟩ := q1
  subst ex
  cases r1 with
  | cons r rr =>
    cases rr
    cases r
    obtain ⟨its, rv, p', hz⟩ := I1.tuple hq
    have hal : a < s1.heap.objs.size := by obtain ⟨o, ho, _⟩ := p'; exact Heap.lt_size ho
    refine call_enum1 (begins_tuple a its.toArray) p' fun h' he hit hk => wpAny_pyIter_enum he ?_
    have I2 : L2.Inv X pins σ H1 { s1 with heap := h' } := I1.kept (t' := s1.toks) hk
    refine ⟨s1.heap.objs.size + 1, [s1.heap.objs.size + 1, s1.heap.objs.size], _, _, H1, rfl, I2, turn_enumT a (s1.heap.objs.size + 1) s1.heap.objs.size (Nat.ne_of_lt hal) (Nat.ne_of_lt (Nat.lt_succ_of_lt hal)), ⟨⟨.none, he⟩, ⟨_, hit, rfl, rfl⟩, Nat.succ_ne_self _⟩, fun b hb => ?_, q⟩
    have q' : b = s1.heap.objs.size + 1 ∨ b = s1.heap.objs.size := by simpa using hb
    have hle : s1.heap.objs.size ≤ b := by
      rcases q' with z | z
      · rw [z]; exact Nat.le_add_right _ _
      · rw [z]; exact Nat.le_refl _
    exact I1.fpOk hle (I1.hok.fresh hle)
theorem for_enumT {K : PySem.W.Frag} {a : Addr} {xs : List V} {tb : TS} {D : Ends} {σ : L2.St} {H : Hp} {i j : Nat} (Pv : Nat → L2.St → Hp → Prop) (h0 : Pv 0 σ H) (hl : ∀ k σ H, Pv k σ H → SqT K H a xs)
    (hs : ∀ k x σ H T, xs[k]? = some x → Pv k σ H → H T = none →
      tb { D with nx := Pv (k + 1), ct := Pv (k + 1), bk := D.nx } ((σ.set i (some (.int (k : Nat)))).set j (some x)) (upd H T (.tup [.int (k : Nat), x]))) (hd : ∀ σ H, Pv xs.length σ H → D.nx σ H) :
    ∃ W : Nat → Nat → L2.St → Hp → Prop, (∃ m, W 0 m σ H) ∧ ∀ k m σ H, W k m σ H →
      ((IteT K a).stop k H ∧ D.nx σ H) ∨ ((IteT K a).go k H ∧ ∃ N : L2.St → Hp → Prop, (∀ σ' H', N σ' H' → ∃ m', m' < m ∧ W (k + 1) m' σ' H') ∧ ∀ x H', (IteT K a).yld k H x H' →
        (gTup K 2 (gCons (gName i) (gCons (gName j) gNil))) x σ H' fun σ2 H2 => tb { D with nx := N, ct := N, bk := D.nx } σ2 H2) := by
  refine ⟨fun k m σ H => m = xs.length - k ∧ k ≤ xs.length ∧ Pv k σ H, ⟨xs.length, by simp, Nat.zero_le _, h0⟩, ?_⟩
  rintro k m σ H ⟨rfl, hk, p⟩
  have q := hl _ σ H p
  by_cases hlt : k < xs.length
  · refine .inr ⟨⟨xs, xs[k], q, by simp [hlt]⟩, Pv (k + 1), fun σ' H' p' => ⟨xs.length - (k + 1), by omega, rfl, hlt, p'⟩, fun v H' y => ?_⟩
    obtain ⟨T, x, rfl, nT, rfl, hx⟩ := y
    refine ⟨T, _, rfl, SqT.of upd_same, rfl, _, _, rfl, _, _, rfl, rfl, ?_⟩
    exact hs k x σ H T (hx xs q) p nT
  · have e : k = xs.length := by omega
    subst e
    exact .inl ⟨⟨xs, q, Nat.le_refl _⟩, hd σ H p⟩
end XL
set_option Elab.async false
set_option linter.all false
set_option maxRecDepth 100000
set_option maxHeartbeats 4000000
/-! XDeep: x in t, t.index(x), items data of any depth, t a list or a tuple. -/
namespace XL
open PySem PySem.Spec PyProof.Rows L2
section
variable {X : Cx} (K : PySem.W.Frag)
def rInX (K : PySem.W.Frag) (neg : Bool) : R2 := fun x y H Q => ∃ d ds, Dp K H x d ∧ (Dp K H y (.list ds) ∨ Dp K H y (.tuple ds)) ∧ SeqAt.shaped d = true ∧ PyData.canLayAll0 ds = true ∧ Q (.bl (if neg then !(ds.any fun z => PyData.eqv z d) else ds.any fun z => PyData.eqv z d)) H
theorem in_deepK (hu : X.A.units + 65 < cLine) (h : X.K = K := by rfl) : OpR X (compareOp .In) (rInX K false) := by
  subst h
  intro pins s σ H x y v u Q I rx ry h
  obtain ⟨d, ds, hd, he, sd, se, q⟩ := h
  obtain ⟨as, r1⟩ := Dp.reads I d x v hd rx
  rcases he with he | he
  · obtain ⟨bs, r2⟩ := Dp.reads I (.list ds) y u he ry
    exact SeqAt.in_list_reads r2 r1 se (SeqAt.canLay_of_shaped sd) (room_in_shaped sd hu) ⟨.bl _, H, I, rfl, q⟩
  · obtain ⟨bs, r2⟩ := Dp.reads I (.tuple ds) y u he ry
    exact SeqAt.in_tuple_reads r2 r1 se (SeqAt.canLay_of_shaped sd) (room_in_shaped sd hu) ⟨.bl _, H, I, rfl, q⟩
theorem notin_deepK (hu : X.A.units + 65 < cLine) (h : X.K = K := by rfl) : OpR X (compareOp .NotIn) (rInX K true) := by
  subst h
  intro pins s σ H x y v u Q I rx ry h
  obtain ⟨d, ds, hd, he, sd, se, q⟩ := h
  obtain ⟨as, r1⟩ := Dp.reads I d x v hd rx
  rcases he with he | he
  · obtain ⟨bs, r2⟩ := Dp.reads I (.list ds) y u he ry
    exact SeqAt.notIn_list_reads r2 r1 se (SeqAt.canLay_of_shaped sd) (room_in_shaped sd hu) ⟨.bl _, H, I, rfl, q⟩
  · obtain ⟨bs, r2⟩ := Dp.reads I (.tuple ds) y u he ry
    exact SeqAt.notIn_tuple_reads r2 r1 se (SeqAt.canLay_of_shaped sd) (room_in_shaped sd hu) ⟨.bl _, H, I, rfl, q⟩
/-- t.index(x), t a tuple: the first place of an equal one -/
def rIndexT (K : PySem.W.Frag) : V → List V → Hp → VK → Prop := fun x xs H Q => ∃ (a : Addr) (y : V) (d : PyData) (ds : List PyData) (j : Nat) (z : PyData), x = V.ref a ∧ xs = [y] ∧ Dp K H (V.ref a) (.tuple ds) ∧ Dp K H y d ∧
  PyData.canLayAll0 ds = true ∧ SeqAt.shaped d = true ∧ ds[j]? = some z ∧ PyData.eqv z d = true ∧ (∀ (m : Nat) (z' : PyData), m < j → ds[m]? = some z' → PyData.eqv z' d = false) ∧ Q (.int (j : Nat)) H
theorem mt_tindexK (hu : X.A.units + 65 < cLine) (h : X.K = K := by rfl) : MtR X "tuple.index" (rIndexT K) := by
  subst h
  intro pins s σ H x xs v us Q I rx rxs h
  obtain ⟨a, y, d, ds, j, z, rfl, rfl, hl, hy, hxs, sd, hz, hzj, hno, q⟩ := h
  cases rx
  cases rxs with
  | cons ry rt =>
    rename_i uy ut
    cases rt
    obtain ⟨bs, r1⟩ := Dp.reads I d y uy hy ry
    have hroom : X.A.units + 1 + min (PyData.depthAll ds) d.depth < cLine := room_in_shaped sd hu
    cases hl with
    | tup hs ha =>
      obtain ⟨its, rv, ⟨⟨cls, dd, data, sls⟩, ho, hc, n, hdt⟩, hlen⟩ := I.tuple hs
      simp only at hc hdt
      subst hc hdt
      obtain ⟨as, h4⟩ := Dp.readsAll I ds _ its ha rv
      have hn : its.length = ds.length := SeqAt.ReadsAll.length ds its as h4
      have hmap : its.map (SeqAt.readOf s.heap) = ds := SeqAt.readsAll_map ds its as hxs h4
      have hvl := rv.length
      obtain ⟨hjd, _⟩ := List.getElem?_eq_some_iff.mp hz
      have hjl : j < its.length := by omega
      have hj : j < its.toArray.size := by simpa using hjl
      have at_ : ∀ (m : Nat) (hm : m < its.toArray.size) (z' : PyData), ds[m]? = some z' → SeqAt.readOf s.heap its.toArray[m] = z' := by
        intro m hm z' hz'
        have hml : m < its.length := by simpa using hm
        rw [← hmap, List.getElem?_map, List.getElem?_eq_getElem hml] at hz'
        have e1 : SeqAt.readOf s.heap its[m] = z' := Option.some.inj (show some (SeqAt.readOf s.heap its[m]) = some z' from hz')
        simpa using e1
      refine call_meets PySem.F.slot_tuple_index ⟨_, ho, rfl⟩ PySem.F.entry_tuple_index (PySem.F.args_tuple_index_2 _ _)
        (TI.tuple_indexAt a its.toArray n dd sls uy (fun u => PyData.eqv (SeqAt.readOf s.heap u) d) j hj ?_ ?_) ⟨ho, SeqAt.items_eqAt (vs := its.toArray) (show ReadsAll s.heap its.toArray.toList ds as from h4) r1 hxs (SeqAt.canLay_of_shaped sd) hroom, ?_⟩
      · show PyData.eqv (SeqAt.readOf s.heap its.toArray[j]) d = true
        rw [at_ j hj z hz]
        exact hzj
      · intro m hm hmj
        have hmd : m < ds.length := by omega
        have hz' : ds[m]? = some ds[m] := List.getElem?_eq_getElem hmd
        show PyData.eqv (SeqAt.readOf s.heap its.toArray[m]) d = false
        rw [at_ m hm _ hz']
        exact hno m _ hmj hz'
      · exact ⟨.int (j : Nat), H, I.tok _, ⟨_, rfl⟩, q⟩
end
theorem u65 {k : Nat} {A : Around} (r : Room k A) : A.units + 65 < cLine := by have := r.un; omega
/-- xs[::-1] of a list -/
def tRev (K : PySem.W.Frag) (te : TE) : TE := fun σ H Q => te σ H fun x H1 => ∃ a xs, x = .ref a ∧ SqL K H1 a xs ∧ ∀ p, H1 p = none → Q (.ref p) (upd H1 p (.lst xs.reverse))
theorem pe_rev {X : Cx} {e m : Expr} {te : TE} {p2 pos : Pos} (he : PE X e te) (hm : PE X m (tC (.int (-1)))) : PE X (.Subscript e (.Slice none none (some m) p2) pos) (tRev X.K te) := by
  refine ⟨fun pins s σ H Q I h => ?_⟩
  refine Subscript_ (thn (he.run pins s σ H _ I h) fun v s1 ⟨x, H1, I1, r1, q1⟩ => ?_)
  refine wpAny_Slice (wpAny_evalPart_none (wpAny_evalPart_none (wpAny_evalPart_some (thn (hm.run pins s1 σ H1 (fun y H2 => y = .int (-1) ∧ H2 = H1) I1 ⟨rfl, rfl⟩) fun vm s3 ⟨y, H3, I3, r3, ey, eH⟩ => ?_))))
  subst ey eH
  obtain ⟨t, rfl⟩ := r3
  obtain ⟨a, xs, rfl, hx, q⟩ := q1
  cases r1
  have I4 : L2.Inv X pins σ H3 { s3 with heap := s3.heap.push { cls := .type "slice", data := .fields #[.none, .none, .int (-1) t] } } := I3.kept (t' := s3.toks) fun b ob q => Heap.get?_push_of_some _ q
  obtain ⟨its, r, ht, hz⟩ := I4.list hx
  have hlen := r.length
  show wpAny (model X.prog X.w) X.A (subscriptTail e (.Slice none none (some m) p2) (.ref a) (.ref s3.heap.objs.size)) (EP X pins σ Q) X.xe { s3 with heap := s3.heap.push { cls := .type "slice", data := .fields #[.none, .none, .int (-1) t] } }
  refine tail_any (ops := [.ref a, .ref s3.heap.objs.size]) ht.isList.typeIs slot_list_getitem.lookup ?_ (by with_unfolding_all rfl)
  refine wpAny_getItem_list_slice ht.isList (Heap.IsSliceOf.new ..) .none .none (.int (-1) t) (by decide) ?_ (by rw [List.size_toArray] <;> omega)
  rw [PySem.W.krv_pick]
  refine ⟨.ref _, _, I4.laid (t' := s3.toks) (o := .lst xs.reverse) (fun b ob q => Heap.get?_push_of_some _ q) (Nat.le_refl _) ?_, rfl, q _ (I4.hok.fresh (Nat.le_refl _))⟩
  exact ⟨by rw [List.length_reverse]; exact hz, _, 0, r.reverse, Heap.get?_push_size _ rfl⟩
theorem pe_revK {X : Cx} {e m : Expr} {te : TE} {p2 pos : Pos} (K : PySem.W.Frag) (he : PE X e te) (hm : PE X m (tC (.int (-1)))) (h : X.K = K := by rfl) : PE X (.Subscript e (.Slice none none (some m) p2) pos) (tRev K te) := h ▸ pe_rev he hm
theorem tst {b : Bool} {A B : Prop} (h1 : b = true → A) (h0 : b = false → B) : if b = true then A else B := by
  cases b
  · exact h0 rfl
  · exact h1 rfl
theorem sl_tupAK {X : Cx} (K : PySem.W.Frag) (h : X.K = K := by rfl) : SlR X (rSlA K) := h ▸ sl_tupA
/-! ### tuples whose object has no dict (so that their methods are reached) -/
def TupF (G : Hp) (a : Addr) (xs : List V) : Prop := ∃ o : Obj, o.dict = none ∧ G a = some (.frz o (.tup xs))
def Tu (G : Hp) (a : Addr) (xs : List V) : Prop := G a = some (.tup xs) ∨ TupF G a xs
theorem TupF.same {G G' : Hp} {a : Addr} {xs : List V} (e : Same G G') (h : TupF G a xs) : TupF G' a xs := let ⟨o, h1, h2⟩ := h; ⟨o, h1, e _ _ h2⟩
theorem Tu.same {G G' : Hp} {a : Addr} {xs : List V} (e : Same G G') (h : Tu G a xs) : Tu G' a xs := by
  rcases h with h | h
  · exact .inl (e _ _ h)
  · exact .inr (h.same e)
theorem Tu.sq {K : PySem.W.Frag} {H : Hp} {a : Addr} {xs : List V} (h : Tu H a xs) : SqT K H a xs := by
  rcases h with h | ⟨o, _, h⟩
  · exact .inl (.inl h)
  · exact .inl (.inr ⟨o, h⟩)
theorem Tu.ty {K : PySem.W.Frag} {H : Hp} {a : Addr} {xs : List V} (h : Tu H a xs) : TyX K H (.ref a) (.type "tuple") := by
  rcases h with h | ⟨o, _, h⟩
  · exact .base (.tup h)
  · exact .fTuple h
theorem TupF.tu {G : Hp} {a : Addr} {xs : List V} (h : TupF G a xs) : Tu G a xs := .inr h
section
variable {X : Cx} (K : PySem.W.Frag)
/-- tuple(xs) -/
def yTupF (K : PySem.W.Frag) : List V → Hp → VK → Prop := fun xs H Q => ∃ p ys, xs = [.ref p] ∧ ((SqL K H p ys ∧ ∀ l o, H l = none → o.dict = none → Q (.ref l) (upd H l (.frz o (.tup ys)))) ∨ (SqT K H p ys ∧ Q (.ref p) H))
theorem call_tupleFK (h : X.K = K := by rfl) : CallR X (.type "tuple") (yTupF K) := by
  subst h
  intro pins s σ H xs us Q I r h
  obtain ⟨p, ys, rfl, h⟩ := h
  obtain ⟨u, rfl, rx⟩ := vals1 r
  cases rx
  rcases h with ⟨hq, q⟩ | ⟨hq, q⟩
  · obtain ⟨its, r', pl, hz⟩ := I.list hq
    have hlen := r'.length
    refine call_tuple_list pl.isList (fun h' kp => ?_) (by simp only [List.size_toArray] <;> omega)
    have I1 : L2.Inv X pins σ H { s with heap := h' } := I.kept (t' := s.toks) kp
    have I2 : L2.Inv X pins σ (upd H h'.objs.size (.frz { cls := .type "tuple", data := .seq its.toArray } (.tup ys))) { s with heap := h'.push { cls := .type "tuple", data := .seq its.toArray } } :=
      I1.laid (t' := s.toks) (fun b o e => Heap.get?_push_of_some _ e) (Nat.le_refl _) (show ObjOk X.prog X.w _ _ _ (.frz { cls := .type "tuple", data := .seq its.toArray } (.tup ys)) from ⟨Heap.get?_push_size _ rfl, hz, its, r', IsTup.new _ _⟩)
    exact ⟨.ref h'.objs.size, _, I2, rfl, q _ _ (I1.hok.fresh (Nat.le_refl _)) rfl⟩
  · obtain ⟨its, r', pl, hz⟩ := I.tuple hq
    exact call_tuple_same pl ⟨.ref p, H, I, rfl, q⟩
/-- t.m(e, ..), t a tuple -/
def tTM (r : V → List V → Hp → VK → Prop) (to : TE) (t : TA) : TE := fun σ H Q => to σ H fun x H1 => (∃ a xs, x = .ref a ∧ TupF H1 a xs) ∧ t σ H1 fun vs H2 => r x vs H2 Q
theorem pe_tm {o e : Expr} {es : List Expr} {to : TE} {t : TA} {id : String} {name : Str} {apos cpos : Pos} {r : V → List V → Hp → VK → Prop} (slot : Slot "tuple" name id) (hty : typeOf (.builtin id) = pure (.type "method_descriptor")) (hm : MtR X id r) (ho : PE X o to) (ha : PA X (e :: es) t)
    (hbase : attributeBase o name X.env (eval o X.env) = eval o X.env := by rfl)
    (hfew : ((backTo cpos (starEach (e :: es) X.env)).all (fun x => !x.1) && (backToKw cpos (keywordEach [] X.env)).all (fun x => x.1.isSome)
      && decide ((e :: es).length + ([] : List Keyword).length + (if ([] : List Keyword).isEmpty then 0 else 1) < 30)) = true := by rfl)
    (hline : (apos.endLine == cpos.line) = true := by rfl) (hs : starEach (e :: es) X.env = (false, eval e X.env) :: starEach es X.env := by rfl) (hplain : (backTo cpos (starEach es X.env)).any (·.1) = false := by rfl) :
    PE X (.Call (.Attribute o name apos) (e :: es) [] cpos) (tTM r to t) := by
  refine ⟨fun pins s σ H Q I h => ?_⟩
  refine wpAny_Call_method_late hbase hfew hline rfl (thn (ho.run pins s σ H _ I h) fun v s1 ⟨x, H1, I1, r1, ty, q1⟩ => ?_)
  obtain ⟨a, xs, rfl, ob, hd, ha'⟩ := ty
  cases r1
  obtain ⟨h1, _, _, _, h2⟩ := I1.hok _ _ ha'
  refine ⟨"tuple", id, PySem.F.plainAttrs_tuple, slot, hty, ⟨ob, h1, ?_⟩, fun b e => ?_, ?_⟩
  · obtain ⟨ob', e1, e2, _⟩ := h2
    rw [h1] at e1
    rw [Option.some.inj e1]
    exact e2
  · cases e
    exact ⟨ob, h1, hd⟩
  have hA := ha.run cpos pins s1 σ H1 _ I1 q1
  rw [hs] at hA ⊢
  refine Calls.callWith_builtin (by show (false || (backTo cpos (starEach es X.env)).any (·.1)) = false; rw [hplain] <;> rfl) (Calls.evalArgs_plain ?_)
  exact thn hA fun us s2 ⟨vs, H2, I2, r2, q2⟩ => hm pins s2 σ H2 (V.ref a) vs (.ref a) us Q I2 rfl r2 q2
end
/-- t[lo:hi]: the whole of it is t itself -/
def rSlF (K : PySem.W.Frag) : V → Option Int → Option Int → Hp → VK → Prop := fun x lo hi H Q => ∃ a xs, x = .ref a ∧ SqT K H a xs ∧
  (HT.sIx xs.length 0 lo = 0 ∧ HT.sIx xs.length xs.length hi = xs.length → Q (.ref a) H) ∧ (¬ (HT.sIx xs.length 0 lo = 0 ∧ HT.sIx xs.length xs.length hi = xs.length) → ∀ p ob, H p = none → ob.dict = none → Q (.ref p) (upd H p (.frz ob (.tup (cutV xs lo hi)))))
theorem sl_tupFK {X : Cx} (K : PySem.W.Frag) (h : X.K = K := by rfl) : SlR X (rSlF K) := by
  subst h
  intro pins s σ H x v vl vu lo hi sl Q I rx hs pl pu h
  obtain ⟨a, xs, rfl, hx, q1, q2⟩ := h
  by_cases hw : HT.sIx xs.length 0 lo = 0 ∧ HT.sIx xs.length xs.length hi = xs.length
  · exact sl_tupA pins s σ H _ v vl vu lo hi sl Q I rx hs pl pu ⟨a, xs, rfl, hx, q1, fun z => absurd hw z⟩
  · cases rx
    obtain ⟨its, r, ht, hz⟩ := I.tuple hx
    have hlen : its.toArray.size = xs.length := by rw [List.size_toArray]; exact r.length.symm
    refine ⟨"tuple", _, PyProof.Rows.slot_tuple_getitem.lookup, ht.typeIs, ?_⟩
    refine HT.getItem_tuple_cut ht hs pl pu (by rw [hlen]; exact hw) ?_ (by rw [hlen]; exact hz)
    rw [hlen]
    refine ⟨.ref s.heap.objs.size, _, I.laid (t' := s.toks) (o := .frz { cls := .type "tuple", data := .seq (List.take (HT.sIx xs.length xs.length hi - HT.sIx xs.length 0 lo) (List.drop (HT.sIx xs.length 0 lo) its.toArray.toList)).toArray } (.tup (cutV xs lo hi))) (fun b ob q => Heap.get?_push_of_some _ q) (Nat.le_refl _) ?_, rfl, q2 hw _ _ (I.hok.fresh (Nat.le_refl _)) ?_⟩
    · exact ⟨Heap.get?_push_size _ rfl, Nat.le_trans (cutV_length xs lo hi) hz, _, (r.drop (HT.sIx xs.length 0 lo)).take (HT.sIx xs.length xs.length hi - HT.sIx xs.length 0 lo), IsTup.new _ _⟩
    · rfl
theorem Sep.sub {G H : Hp} {M M' : List (Addr × HO)} (S : Sep G M H) (h : M'.Sublist M) : Sep G M' H := ⟨S.1, fun p hp => S.2.1 p (h.subset hp), List.Nodup.sublist (h.map _) S.2.2⟩
theorem Sep.rot2 {G H : Hp} {a b c d : Addr × HO} {M : List (Addr × HO)} (S : Sep G (a :: b :: c :: d :: M) H) : Sep G (c :: d :: a :: b :: M) H := S.perm (List.perm_append_comm_assoc [a, b] [c, d] M)
theorem Sep.no3 {G H : Hp} {a b c : Addr × HO} {M : List (Addr × HO)} (S : Sep G (a :: b :: c :: M) H) : Sep G (a :: b :: M) H := S.sub ((List.sublist_cons_self c M).cons₂ b |>.cons₂ a)
/-! ### lists of ints, of pairs of ints, as data -/
def prd (p : Int × Int) : PyData := .tuple [.int p.1, .int p.2]
theorem prd_can (p : Int × Int) : (prd p).canLay0 = true := by simp [prd, PyData.canLay0, PyData.canLayAll0]
theorem prd_shaped (p : Int × Int) : SeqAt.shaped (prd p) = true := by
  unfold SeqAt.shaped
  rw [prd_can]
  simp [prd, PyData.depth, PyData.depthAll]
theorem prds_can : ∀ ps : List (Int × Int), PyData.canLayAll0 (ps.map prd) = true
  | [] => by simp [PyData.canLayAll0]
  | p :: r => by simp [PyData.canLayAll0, prd_can p, prds_can r]
theorem ints_can : ∀ ns : List Int, PyData.canLayAll0 (ns.map PyData.int) = true
  | [] => by simp [PyData.canLayAll0]
  | n :: r => by simp [PyData.canLayAll0, PyData.canLay0, ints_can r]
theorem prd_eqv (p q : Int × Int) : PyData.eqv (prd p) (prd q) = decide (p = q) := by
  obtain ⟨a, b⟩ := p
  obtain ⟨c, d⟩ := q
  simp only [prd, PyData.eqv, PyData.eqvAll, Bool.and_true]
  by_cases h1 : a = c <;> by_cases h2 : b = d <;> simp [h1, h2]
theorem int_shaped (n : Int) : SeqAt.shaped (.int n) = true := by simp [SeqAt.shaped, PyData.canLay0, PyData.depth]
theorem ints_dp {K : PySem.W.Frag} {H : Hp} : ∀ ns : List Int, DpAll K H (ns.map V.int) (ns.map PyData.int)
  | [] => .nil
  | n :: r => .cons (.int n) (ints_dp r)
theorem any_ints (n : Int) (ns : List Int) : ((ns.map PyData.int).any fun z => PyData.eqv z (.int n)) = decide (n ∈ ns) := by
  induction ns with
  | nil => rfl
  | cons m r ih =>
    rw [List.map_cons, List.any_cons, ih]
    show ((m == n) || decide (n ∈ r)) = decide (n ∈ m :: r)
    by_cases e : n = m
    · subst e; simp
    · have e2 : ¬ m = n := fun q => e q.symm
      simp [e, e2]
theorem any_prds (p : Int × Int) (ps : List (Int × Int)) : ((ps.map prd).any fun z => PyData.eqv z (prd p)) = decide (p ∈ ps) := by
  induction ps with
  | nil => rfl
  | cons q r ih =>
    rw [List.map_cons, List.any_cons, ih, prd_eqv]
    by_cases e : p = q
    · subst e; simp
    · have e2 : ¬ q = p := fun h => e h.symm
      simp [e, e2]
end XL
set_option Elab.async false
set_option linter.all false
set_option maxRecDepth 100000
set_option maxHeartbeats 4000000
/-! XOwn: o[i], o[i] = v by own methods. -/
namespace XL
open PySem PySem.Spec PyProof.Rows L2
section
variable {X : Cx} {CX : CXT} {C f : Addr} {fd : FuncData} {ps : List Str} {sp : Sp} {E : XK} {n : Nat} {o i : Expr} {to ti : TE} {pos : Pos}
def yIxO (C : Addr) (sp : Sp) (E : XK) : R2 := fun x y H Q => ∃ a dx fs, x = .ref a ∧ H a = some (.ins C dx fs) ∧ sp [.ref a, y] H Q E
theorem pe_ixO (ho : PE X o to) (hi : PE X i ti) (F : FnOk X.prog X.w X.K X.mg X.base CX n f fd ps sp) (hs : PySem.W.findIn X.K (.ref C) "__getitem__" = some (some (.ref f))) (hf : PySem.W.fnIn X.K f = true) (hfn : PySem.W.isFn X.K (.ref f) = true)
    (hb : Binds X.K fd ps []) (hx : Passes CX X E) (hr : Room (n + 1) X.A) (hsl : ∀ x v, subscripted i true (.ref x) v = runValue (.builtin "lifetime.subscript" ⟨[.ref x, v], []⟩) := by intro _ _; with_unfolding_all rfl) :
    PE X (.Subscript o i pos) (tOp (yIxO C sp E) to ti) := by
  refine ⟨fun pins s σ H Q I h => ?_⟩
  refine Subscript_ (thn (ho.run pins s σ H _ I h) fun v s1 ⟨x, H1, I1, r1, q1⟩ => thn (hi.run pins s1 σ H1 _ I1 q1) fun u s2 ⟨y, H2, I2, r2, q2⟩ => ?_)
  obtain ⟨a, dx, fs, rfl, ha, hsp⟩ := q2
  cases r1
  obtain ⟨mA, J, _⟩ := ins_get I2.hok ha
  obtain ⟨od, J, _⟩ := J.look
  obtain ⟨m, hF⟩ := I2.fr
  refine PySem.W.sub_K hF I2.ok.mod.kin J hs hf hfn ?_ (hsl _ _)
  have hl : ([Value.ref a, u] ++ []).length = ps.length := F.len _ _ _ _ hsp
  refine wpAny_call (codeAny_mono (F.run X.A.in1 X.stack s2 H2 ⟨[.ref a, u], []⟩ [.ref a, u] [.ref a, y] Q E hr.in1 I2.env0.in1 (hb s2 [.ref a, u] I2.kIn hl) (.cons rfl (.cons r2 .nil)) hsp) fun r s' hq => ?_)
  cases r with
  | error e => exact hx pins σ H2 s2 e s' I2 hq
  | ok fl =>
    cases fl with
    | ret u => exact I2.after hq
    | next => exact False.elim hq
    | brk => exact False.elim hq
    | cont => exact False.elim hq
def yStO (C : Addr) (sp : Sp) (E : XK) : TSet := fun x y v H Q => ∃ a dx fs, x = .ref a ∧ H a = some (.ins C dx fs) ∧ sp [.ref a, y, v] H (fun _ H' => Q H') E
theorem set_own (F : FnOk X.prog X.w X.K X.mg X.base CX n f fd ps sp) (hq : PySem.W.noSeq X.K C = true) (hs : PySem.W.findIn X.K (.ref C) "__setitem__" = some (some (.ref f))) (hfn : PySem.W.isFn X.K (.ref f) = true)
    (hb : Binds X.K fd ps []) (hx : Passes CX X E) (hr : Room n X.A) : PSet X (yStO C sp E) := by
  intro pins s σ H x y v xv yv vv Q I rx ry rv h
  obtain ⟨a, dx, fs, rfl, ha, hsp⟩ := h
  cases rx
  obtain ⟨mA, J, _⟩ := ins_get I.hok ha
  obtain ⟨od, J, _⟩ := J.look
  obtain ⟨m, hF⟩ := I.fr
  refine PySem.W.ksp_setItem hF I.ok.mod.kin J hq hs hfn ?_
  refine wpAny_mono (run_fn (us := [.ref a, yv, vv]) (vs := [.ref a, y, v]) (dvs := []) F hr hb .nil hx I (.cons rfl (.cons ry (.cons rv .nil))) hsp) (fun r s' q => ?_) fun _ _ e => e
  obtain ⟨z, H', I', rz, q⟩ := q
  exact ⟨H', I', q⟩
end
end XL
set_option Elab.async false
set_option linter.all false
set_option maxRecDepth 100000
set_option maxHeartbeats 4000000
/-! XTup: tuples made by a display or by +, as objects without a dict. -/
namespace XL
open PySem PySem.Spec PyProof.Rows L2
section
variable {X : Cx} {es : List Expr} {t : TA} {pos : Pos}
def tTupF (t : TA) : TE := fun σ H Q => t σ H fun xs H1 => xs.length ≤ sizeLine ∧ ∀ p ob, H1 p = none → ob.dict = none → Q (.ref p) (upd H1 p (.frz ob (.tup xs)))
theorem pe_tupF {x1} (h : PA X es t) : PE X (.Tuple es x1 pos) (tTupF t) := by
  refine ⟨fun pins s σ H Q I hq => ?_⟩
  refine wpAny_Tuple_spliced (thn (h.run pos pins s σ H _ I hq) fun us s1 ⟨xs, H1, I1, r, z, q⟩ => ⟨by rw [← r.length]; exact z, ?_⟩)
  have hf : H1 s1.heap.objs.size = none := I1.hok.fresh (Nat.le_refl _)
  refine ⟨.ref s1.heap.objs.size, _, I1.laid (t' := s1.toks) (o := .frz { cls := .type "tuple", data := .seq us.toArray } (.tup xs)) (fun b u e => Heap.get?_push_of_some _ e) (Nat.le_refl _) ?_, rfl, q _ _ hf rfl⟩
  exact ⟨Heap.get?_push_size _ rfl, z, us, r, ⟨_, Heap.get?_push_size _ rfl, rfl, _, rfl⟩⟩
def rCatF (K : PySem.W.Frag) : R2 := fun x y H Q => ∃ a b xs ys, x = .ref a ∧ y = .ref b ∧ SqT K H a xs ∧ SqT K H b ys ∧ xs.length + ys.length ≤ sizeLine ∧
  (xs = [] → Q (.ref b) H) ∧ (xs ≠ [] → ys = [] → Q (.ref a) H) ∧ (xs ≠ [] → ys ≠ [] → ∀ p ob, H p = none → ob.dict = none → Q (.ref p) (upd H p (.frz ob (.tup (xs ++ ys)))))
theorem op_catFK (K : PySem.W.Frag) (h : X.K = K := by rfl) : OpR X (binaryOp .Add) (rCatF K) := by
  subst h
  intro pins s σ H x y v u Q I rx ry h
  obtain ⟨a, b, xs, ys, rfl, rfl, ha, hb, hz, q0, q1, q2⟩ := h
  by_cases hx : xs = []
  · exact op_catA pins s σ H _ _ v u Q I rx ry ⟨a, b, xs, ys, rfl, rfl, ha, hb, hz, q0, fun z => absurd hx z, fun z => absurd hx z⟩
  · cases rx
    cases ry
    obtain ⟨its, r1, p1, _⟩ := I.tuple ha
    obtain ⟨its2, r2, p2, _⟩ := I.tuple hb
    refine HT.cat_tup p1 p2 (fun z => hx (r1.nil_iff.mp z)) (fun z => ⟨.ref a, H, I, rfl, q1 hx (r2.nil_iff.mp z)⟩) (fun z => ?_) (by rw [← r1.length, ← r2.length]; exact hz)
    refine ⟨.ref s.heap.objs.size, _, I.laid (t' := s.toks) (o := .frz { cls := .type "tuple", data := .seq (its ++ its2).toArray } (.tup (xs ++ ys))) (fun b ob q => Heap.get?_push_of_some _ q) (Nat.le_refl _) ?_, rfl, q2 hx (fun w => z (r2.nil_iff.mpr w)) _ _ (I.hok.fresh (Nat.le_refl _)) rfl⟩
    exact ⟨Heap.get?_push_size _ rfl, by rw [List.length_append]; exact hz, _, r1.append r2, IsTup.new _ _⟩
end
section
variable {K : PySem.W.Frag} {a : Addr} {xs : List V} {Qd : Hp → Prop} {B : V → Hp → (Hp → Prop) → Prop} {H0 : Hp}
/-- a clause of a comprehension over a list -/
theorem loopL (Pv : Nat → Hp → Prop) (h0 : Pv 0 H0) (hl : ∀ k H, Pv k H → SqL K H a xs) (hs : ∀ k x H, xs[k]? = some x → Pv k H → B x H (Pv (k + 1))) (hd : ∀ H, Pv xs.length H → Qd H) :
    ∃ W : Nat → Nat → Hp → Prop, (∃ m, W 0 m H0) ∧ ∀ i m H, W i m H → ((Itl K a).stop i H ∧ Qd H) ∨ ((Itl K a).go i H ∧ ∃ Nx : Hp → Prop, (∀ H', Nx H' → ∃ m', m' < m ∧ W (i + 1) m' H') ∧ ∀ x H', (Itl K a).yld i H x H' → B x H' Nx) := by
  refine ⟨fun i m H => m = xs.length - i ∧ i ≤ xs.length ∧ Pv i H, ⟨xs.length, by simp, Nat.zero_le _, h0⟩, ?_⟩
  rintro i m H ⟨rfl, hi, p⟩
  have q := hl i H p
  by_cases hlt : i < xs.length
  · refine .inr ⟨⟨xs, xs[i], q, by simp [hlt]⟩, Pv (i + 1), fun H' p' => ⟨xs.length - (i + 1), by omega, rfl, hlt, p'⟩, fun x H' y => ?_⟩
    obtain ⟨e, y⟩ := y
    subst e
    exact hs i x _ (y xs q) p
  · have e : i = xs.length := by omega
    subst e
    exact .inl ⟨⟨xs, q, Nat.le_refl _⟩, hd H p⟩
/-- a clause of a comprehension over a range -/
theorem loopR {lo : Int} {n : Nat} (Pv : Nat → Hp → Prop) (h0 : Pv 0 H0) (hs : ∀ k H, k < n → Pv k H → B (.int (lo + k)) H (Pv (k + 1))) (hd : ∀ H, Pv n H → Qd H) :
    ∃ W : Nat → Nat → Hp → Prop, (∃ m, W 0 m H0) ∧ ∀ i m H, W i m H → ((Itr lo n).stop i H ∧ Qd H) ∨ ((Itr lo n).go i H ∧ ∃ Nx : Hp → Prop, (∀ H', Nx H' → ∃ m', m' < m ∧ W (i + 1) m' H') ∧ ∀ x H', (Itr lo n).yld i H x H' → B x H' Nx) := by
  refine ⟨fun i m H => m = n - i ∧ i ≤ n ∧ Pv i H, ⟨n, by simp, Nat.zero_le _, h0⟩, ?_⟩
  rintro i m H ⟨rfl, hi, p⟩
  by_cases hlt : i < n
  · refine .inr ⟨hlt, Pv (i + 1), fun H' p' => ⟨n - (i + 1), by omega, rfl, hlt, p'⟩, fun x H' y => ?_⟩
    obtain ⟨e, y⟩ := y
    subst e y
    exact hs i _ hlt p
  · have e : i = n := by omega
    subst e
    exact .inl ⟨Nat.le_refl _, hd H p⟩
/-- row + (item,) -/
theorem cat_one {G H : Hp} {M : List (Addr × HO)} {r : Addr} {n : List Int} {i : Int} {Q : VK} (S : Sep G M H) (hr : TupF G r (n.map V.int)) (hl : n.length ≤ 1000)
    (q : ∀ (p : Addr) (G' H' : Hp), Same G G' → Sep G' M H' → TupF G' p ((n ++ [i]).map V.int) → Q (.ref p) H') :
    [V.int i].length ≤ sizeLine ∧ ∀ p ob, H p = none → ob.dict = none → rCatF K (.ref r) (.ref p) (upd H p (.frz ob (.tup [.int i]))) Q := by
  refine ⟨sz, fun p ob np hob => ?_⟩
  have S1 := S.newG (o := .frz ob (.tup [.int i])) np
  have s1 := S.grow (o := .frz ob (.tup [.int i])) np
  have h1 : TupF (upd G p (.frz ob (.tup [.int i]))) p [.int i] := ⟨ob, hob, upd_same⟩
  refine ⟨r, p, n.map V.int, [.int i], rfl, rfl, ((hr.same s1).same S1.1).tu.sq, (h1.same S1.1).tu.sq, small (by rw [List.length_map]; simp; omega), fun e => ?_, fun _ e => (nomatch e), fun _ _ p2 ob2 np2 hob2 => ?_⟩
  · have e2 : n = [] := List.map_eq_nil_iff.mp e
    subst e2
    exact q p _ _ s1 S1 h1
  · have e3 : n.map V.int ++ [V.int i] = (n ++ [i]).map V.int := by rw [List.map_append]; rfl
    rw [e3]
    exact q p2 _ _ (s1.trans (S1.grow np2)) (S1.newG np2) ⟨ob2, hob2, upd_same⟩
end
end XL
set_option Elab.async false
set_option linter.all false
set_option maxRecDepth 100000
set_option maxHeartbeats 4000000
/-! XExc: an error of the program's own, class E(ScreenError): __init__(self, x): super().__init__(f'..{x!r}'); self.x = x: made, raised, caught. -/
namespace PySem
namespace XExc
open PySem.W PySem.Calls PyProof.Rows PySem.HandSPX
/-! ### the text of __init__ -/
def iA (fld : Str) (p1 p2 : Pos) : Arguments := { posonlyargs := [], args := [{ arg := "self", annotation := none, pos := p1 }, { arg := fld, annotation := none, pos := p2 }], vararg := none, kwonlyargs := [], kw_defaults := [], kwarg := none, defaults := [] }
structure Ps where
  a : Pos
  b : Pos
  c : Pos
  d : Pos
  e : Pos
  f : Pos
  g : Pos
  h : Pos
  i : Pos
  j : Pos
  k : Pos
  l : Pos
  m : Pos
def iSup (q : Ps) : Expr := .Call (.Name "super" q.a) [] [] q.b
def iArg (fld : Str) (msg : Str) (q : Ps) : Expr := .JoinedStr [.Constant (.str msg) 0 q.d, .FormattedValue (.Name fld q.e) 114 none q.f] q.g
def iCall (fld : Str) (msg : Str) (q : Ps) : Expr := .Call (.Attribute (iSup q) "__init__" q.c) [iArg fld msg q] [] q.h
def iB (fld : Str) (msg : Str) (q : Ps) : List Stmt := [.Expr (iCall fld msg q) q.i, .Assign [.Attribute (.Name "self" q.j) fld q.k] (.Name fld q.l) q.m]
/-- how the call is evaluated (the positions decide nothing here) -/
def Evals (fld msg : Str) (q : Ps) : Prop := ∃ pl : Env → Sem Bool, ∀ env : Env, eval (iCall fld msg q) env = (do
  let ov ← attributeBase (iSup q) "__init__" env (eval (iSup q) env)
  standAt q.c.atName
  let (f, first) ← holding [ov] (getMethod ov "__init__" (pl env))
  callWith q.h f first (backTo q.h (starEach [iArg fld msg q] env)) [])
def iN (fld : Str) : List (Str × NameKind) := [(PySem.Str.ofString "self", .local), (fld, .local), (PySem.Str.ofString "__class__", .free), (PySem.Str.ofString "super", .globalImplicit)]
def iS (fld : Str) : Scope := { kind := .function, names := iN fld, isGenerator := false, isCoroutine := false, more := [] }
/-- what the written part says of the class at C and of its __init__ at fI -/
structure ExTxt (P : Program) (K : Frag) (mg : Str → Option Value) (nm fld msg : Str) (C fI : Addr) : Prop where
  gC : mg nm = some (.ref C)
  cls : ∃ nm q N bs bm sn sub ab col dd k0 k1 k2 k3 k5, K.lookup C = some (excClassObj nm q C N bs bm true sn sub ab col dd k0 k1 k2 k3 k5 "ValueError.__new__") ∧ refsVE bm = true
  sa : findIn K (.ref C) "__setattr__" = some (some (.builtin "object.__setattr__"))
  ga : findIn K (.ref C) "__getattribute__" = some (some (.builtin "BaseException.__getattribute__"))
  gg : findIn K (.ref C) "__getattr__" = some none
  noN : findIn K (.ref C) fld = some none
  iC : findIn K (.ref C) "__init__" = some (some (.ref fI))
  tC : typeIn K (.ref fI) = some (.type "function")
  kC : keepIn K (.ref C) = true
  exC : subIn K (.ref C) (.type "BaseException") = some true
  tyC : typeIn K (.ref C) = some (.type "type")
  hdC : hasDictIn K C = true
  fn : ∃ (oc kV doc pm ct : Value) (od an : Option Addr) (osl : Array (Option Value)) (qual : Str) (cda cc : Addr) (p1 p2 : Pos) (q : Ps) (vs : Array Value) (file : Str) (tf : Tok) (ccl cl : Value) (cdd cld : Option Addr) (ccs csl : Array (Option Value)),
    K.lookup fI = some ⟨oc, od, .func (ksFn "__init__" qual (iA fld p1 p2) (iB fld msg q) (iS fld) .none kV doc pm an (.ref cda) ct cc), osl⟩ ∧ codeIn K (.ref cda) qual = true ∧ K.lookup cda = some ⟨ccl, cdd, .fields vs, ccs⟩ ∧ vs[2]? = some (.str file tf) ∧
    ((P.main.file : Str) == file) = true ∧ K.lookup cc = some ⟨cl, cld, .cell (some (.ref C)), csl⟩ ∧ Evals fld msg q ∧
    ∀ x v : Value, bindArgs (ksFn "__init__" qual (iA fld p1 p2) (iB fld msg q) (iS fld) .none kV doc pm an (.ref cda) ct cc) ⟨[x, v], []⟩ = pure [(("self" : Str), x), (fld, v)]
  sup : ks_superIn K C C "__init__" = some (some (.builtin "ValueError.__init__"))
  subV : subIn K (.ref C) (.type "ValueError") = some true
  mroS : mroIn K C (.ref C) = some true
  opq : nsIn K cStatics "thirdparty.any" = some none
  htop : (P.main.scope.names.lookup ("super" : Str)).isSome = false
  hsup : mg "super" = none
  f1 : fld ≠ "self"
  f2 : fld ≠ "__class__"
  f3 : fld ≠ "super"
  f4 : (fld == ("__debug__" : Str)) = false
  ml : msg.length ≤ 1000
/-- where the program stands -/
def PF (P : Program) (fl : Str) : Prop := ((P.main.file : Str) == fl) = true ∧ (P.main.scope.names.lookup ("super" : Str)).isSome = false
/-- what can be told in the message -/
def Rp (v : Value) : Prop := (∃ (y : Str) (t : Tok), v = .str y t ∧ (reprText y).length ≤ 100000) ∨ ∃ (i : Int) (t : Tok), v = .int i t ∧ i.natAbs.log2 < 1920
structure InitEnd (h h' : Heap) (x C dx : Addr) (fld : Str) (v : Value) : Prop where
  keep : ∀ b o, b ≠ x → h.get? b = some o → h'.get? b = some o
  obj : ∃ t1 : Addr, h'.get? x = some { cls := .ref C, dict := some dx, data := .fields #[.ref t1, .none, .none, .none, .bool false, .none] }
  dbig : h.objs.size ≤ dx
  dne : dx ≠ x
  ns : h'.Ns1 dx (fun y => if y = fld then some v else none)
structure OwnMade (h h' : Heap) (e C d : Addr) (fld : Str) (v : Value) : Prop where
  keep : ∀ b o, h.get? b = some o → h'.get? b = some o
  new : h.objs.size ≤ e
  obj : ∃ oe vs, h'.get? e = some oe ∧ oe.cls = .ref C ∧ oe.dict = some d ∧ oe.data = .fields vs ∧ vs[1]? = some .none
  dbig : h.objs.size ≤ d
  dne : d ≠ e
  ns : h'.Ns1 d (fun y => if y = fld then some v else none)
section
variable {prog : Program} {w : World} {A : Around} {E : Value → Shared → Prop} {h : Heap} {g : Array GenState} {d : Drawn} {t : Nat} {os : OsState}
variable {nm q : Str} {C N : Addr} {bs bm : List Value} {hdct : Bool} {sn : List Str} {sub : List Value} {ab : Bool} {col : Option Bool} {dd : Option Addr} {k0 k1 k2 k3 k5 : Option Value}
theorem call_mw {u e t0 : Addr} {rest : List Value} {Q : Value → Shared → Prop}
    (hC : h.get? C = some (excClassObj nm q C N bs bm hdct sn sub ab col dd k0 k1 k2 k3 k5 "ValueError.__new__")) (he : h.get? e = some (excO C t0)) (hu : h.get? u = some (kxs_mw "ValueError.__init__" e)) (hrest : rest.length ≤ sizeLine)
    (hq : ∀ h' t1, (∀ b o, b ≠ e → h.get? b = some o → h'.get? b = some o) → h.objs.size ≤ h'.objs.size → h'.get? e = some (excO C t1) → Q .none ⟨h', g, d, t, os⟩) :
    wpAny (model prog w) A (call (.ref u) rest) Q E ⟨h, g, d, t, os⟩ := by
  refine wpAny_call (codeAny_of_tree ?_)
  show wpAny _ A.in1 (callAny (.ref u) ⟨rest, []⟩) _ _ _
  simp only [callAny]
  refine wpAny_bind (wpAny_load hu ?_)
  simp only [kxs_mw, show (Value.type "method-wrapper" == Value.type "method" || Value.type "method-wrapper" == Value.type "builtin_function_or_method" || Value.type "method-wrapper" == Value.type "method-wrapper") = true by decide, if_true]
  refine W.KFB.if_so (by decide) ?_
  refine wpAny_bind (check_bound_init F.excBase_ValueError.toExcCallFacts hC he rfl ?_)
  refine wpAny_bind (wpAny_pure (wpAny_pure ?_))
  refine ⟨plainId_quiet F.excBase_ValueError.init.plain _, codeAny_builtin F.excBase_ValueError.initEntry ?_⟩
  rw [Around.under_plainId F.excBase_ValueError.init.plain _]
  wp_walk
  refine hq _ h.objs.size (fun b o hb ho => ?_) ?_ ?_
  · rw [Heap.get?_update_other _ _ (Ne.symm hb)]
    exact Heap.get?_push_of_some _ ho
  · simp [Heap.size_push]
  · rw [Heap.get?_update_self _ (Heap.get?_push_of_some _ he) rfl]
    rfl
end
section
variable {prog : Program} {w : World} {A : Around} {E : Value → Shared → Prop} {R : Result → Shared → Prop} {s : Shared} {K : Frag} {mg mb : Str → Option Value} {nm fld msg : Str} {C fI : Addr}
theorem one_size (v : Value) : [v].length ≤ sizeLine := by
  rw [sizeLine_eq]
  exact (by decide : 1 ≤ 16777216)
/-- f'..{v!r}' -/
theorem told_ok {env : Env} {q : Ps} {m : Str → Option Value} {v : Value} {Q : Value → Shared → Prop} (hn : s.heap.Ns env.locals m) (hv : m fld = some v) (hr : Rp v) (hml : msg.length ≤ 1000) (hk : env.scope.kind = .function) (hl : env.kindOf fld = some .local) (hd : (fld == ("__debug__" : Str)) = false)
    (h : ∀ u tk, Q u { s with toks := tk }) : wpAny (model prog w) A (eval (iArg fld msg q) env) Q E s := by
  unfold iArg
  have sm : ∀ n : Nat, n ≤ 200000 → n ≤ sizeLine := fun n hn => Nat.le_trans hn (by decide)
  refine wpAny_JoinedStr ?_
  have e0 : evalEach [Expr.Constant (.str msg) 0 q.d, .FormattedValue (.Name fld q.e) 114 none q.f] env = [eval (.Constant (.str msg) 0 q.d) env, eval (.FormattedValue (.Name fld q.e) 114 none q.f) env] := by first | rfl | simp [evalEach]
  rw [e0]
  refine Calls.Constant_str ⟨msg, _, rfl, ?_, ?_⟩
  · rw [Str.length_append]
    exact sm _ (by show 0 + msg.length ≤ _; omega)
  refine wpAny_FormattedValue_repr (ESX.ldL hn hv ?_ hk hl hd)
  rcases hr with ⟨y, t, rfl, hz⟩ | ⟨i, t, rfl, hz⟩
  · have hz' : (reprText y).length ≤ sizeLine := sm _ (by omega)
    have out : ∀ (tk : Tok) (tt : Nat), ∃ (y' : Str) (t' : Tok), Value.str (reprText y) tk = .str y' t' ∧ (Str.empty ++ msg ++ y').length ≤ sizeLine ∧ Joins (model prog w) A E [] (Str.empty ++ msg ++ y') (fun out s₁ => out.length ≤ sizeLine ∧ Q (.str out s₁.toks) { s₁ with toks := s₁.toks + 1 }) { s with toks := tt } := fun tk tt => by
      have hl : (Str.empty ++ msg ++ reprText y).length ≤ sizeLine := by
        rw [Str.length_append, Str.length_append]
        exact sm _ (by show 0 + msg.length + _ ≤ _; omega)
      exact ⟨_, _, rfl, hl, hl, h _ _⟩
    exact pyReprObj_str (wpAny_formatField_str (out _ _) (out _ _) hz') hz'
  · have hz' := int_text_fits hz
    have ln : (toString i : Str).length ≤ 100000 := by
      have e := int_text_length_le (k := 1920) (by decide) hz
      show (Str.ofString (toString i)).length ≤ 100000
      rw [ofString_length]
      omega
    have out : ∀ (tk : Tok) (tt : Nat), ∃ (y' : Str) (t' : Tok), Value.str (toString i) tk = .str y' t' ∧ (Str.empty ++ msg ++ y').length ≤ sizeLine ∧ Joins (model prog w) A E [] (Str.empty ++ msg ++ y') (fun out s₁ => out.length ≤ sizeLine ∧ Q (.str out s₁.toks) { s₁ with toks := s₁.toks + 1 }) { s with toks := tt } := fun tk tt => by
      have hl : (Str.empty ++ msg ++ (toString i : Str)).length ≤ sizeLine := by
        rw [Str.length_append, Str.length_append]
        exact sm _ (by show 0 + msg.length + _ ≤ _; omega)
      exact ⟨_, _, rfl, hl, hl, h _ _⟩
    exact pyReprObj_int hz (wpAny_formatField_str (out _ _) (out _ _) hz')
end
section
variable {prog : Program} {w : World} {A : Around} {E : Value → Shared → Prop} {R : Result → Shared → Prop} {K : Frag} {mg mb : Str → Option Value} {nm fld msg : Str} {C fI : Addr}
theorem kept_but {K : Frag} {h h' : Heap} {x : Addr} (X : K.In h) (hx : K.lookup x = none) (k : ∀ b o, b ≠ x → h.get? b = some o → h'.get? b = some o) : K.In h' := fun a o e =>
  k a o (fun z => by rw [z, hx] at e; cases e) (X a o e)
theorem exc_init (T : ExTxt prog K mg nm fld msg C fI) {x t0 : Addr} {v : Value} {hp : Heap} {g : Array GenState} {dr : Drawn} {tk : Nat} {os : OsState} (X : K.In hp) (hlim : hp.NoLimit) (hG : hp.Ns mainGlobals mg) (hB : hp.Ns builtinsNs mb) (hbb : ∀ x : Str, x ≠ "__name__" → mb x = bootBuiltins x)
    (hx : hp.get? x = some (excO C t0)) (hnx : K.lookup x = none) (hroom : A.depth < recursionLimit) (hr : Rp v)
    (hq : ∀ h' tk' dx, InitEnd hp h' x C dx fld v → R (.ok (.ret .none)) ⟨h', g, dr, tk', os⟩) :
    codeAny (model prog w) A (.call (.ref fI) ⟨[.ref x, v], []⟩) R ⟨hp, g, dr, tk, os⟩ := by
  obtain ⟨oc, kV, doc, pm, ct, od, an, osl, qual, cda, cc, p1, p2, q, vs, file, tf, ccl, cl, cdd, cld, ccs, csl, ho, hcd, hcda, hvs, hfile, hcc, ⟨pl, hev⟩, hbind⟩ := T.fn
  obtain ⟨nm', q', N, bs, bm, sn, sub, ab, col, dd, k0, k1, k2, k3, k5, hC, hbm⟩ := T.cls
  have hcl : clsIn K C = some { name := nm', bases := bs, mro := .ref C :: bm, ns := N, qualname := q', hasDict := true, slotNames := sn, subclasses := sub, abstract := ab, collection := col, hasDel := false } := by unfold clsIn; rw [hC] <;> rfl
  have e1 : (iS fld).names.lookup fld = some .local := by
    show (iN fld).lookup fld = _
    unfold iN
    have z : (fld == PySem.Str.ofString "self") = false := by simpa using T.f1
    simp [List.lookup, z]
  have e2 : (iS fld).names.lookup ("self" : Str) = some .local := rfl
  have e3 : (iS fld).names.lookup ("__class__" : Str) = some .free := by
    show (iN fld).lookup ("__class__" : Str) = _
    unfold iN
    have z : (("__class__" : Str) == fld) = false := by simpa using Ne.symm T.f2
    have z2 : (("__class__" : Str) == PySem.Str.ofString "self") = false := by decide
    simp [List.lookup, z, z2]
  have e4 : (iS fld).names.lookup ("super" : Str) = some .globalImplicit := by
    show (iN fld).lookup ("super" : Str) = _
    unfold iN
    have z : (("super" : Str) == fld) = false := by simpa using Ne.symm T.f3
    have z2 : (("super" : Str) == PySem.Str.ofString "self") = false := by decide
    have z3 : (("super" : Str) == PySem.Str.ofString "__class__") = false := by decide
    simp [List.lookup, z, z2, z3]
  refine ks_codeAny_call_defAt (fd := ksFn "__init__" qual (iA fld p1 p2) (iB fld msg q) (iS fld) .none kV doc pm an (.ref cda) ct cc) (body := iB fld msg q) (binds := [("self", .ref x), (fld, v)]) hroom (X _ _ ho) rfl hlim (codeRec_of X hcd) rfl (BindsTo.of_eq (hbind _ _)) ?_ ?_ (fun h₁ hn k => ?_) rfl rfl rfl
  · intro y hy
    have hy : y ∈ iN fld := hy
    unfold iN at hy
    simp only [List.mem_cons, List.not_mem_nil, or_false] at hy
    rcases hy with rfl | rfl | rfl | rfl <;> exact fun z => nomatch z
  · intro y hy
    simp only [List.mem_cons, List.not_mem_nil, or_false] at hy
    rcases hy with rfl | rfl
    · exact e2
    · exact e1
  have X₁ : K.In h₁ := X.keeps k
  have hxL : hp.objs.size ≠ x := Nat.ne_of_gt (Heap.lt_size hx)
  have hx₁ := k _ _ hx
  have mS : List.lookup ("self" : Str) (List.reverse [(("self" : Str), Value.ref x), (fld, v)]) = some (.ref x) := by
    show List.lookup ("self" : Str) [(fld, v), (("self" : Str), Value.ref x)] = _
    have z : (("self" : Str) == fld) = false := by simpa using Ne.symm T.f1
    simp [List.lookup, z]
  have mF : List.lookup fld (List.reverse [(("self" : Str), Value.ref x), (fld, v)]) = some v := by
    show List.lookup fld [(fld, v), (("self" : Str), Value.ref x)] = _
    simp [List.lookup]
  refine ks_wpAt_execs_cons (ks_wpAt_Expr_any (ks_wpAt_MethodCall (o := iSup q) (name := "__init__") (he := hev _) ?_))
  have oC := X₁ _ _ hC
  refine ks_wpAt_super_base (env := callEnv (ksFn "__init__" qual (iA fld p1 p2) (iB fld msg q) (iS fld) .none kV doc pm an (.ref cda) ct cc) hp.objs.size fI) e4 e3 (by decide) rfl (X₁ _ _ ho) rfl rfl rfl (X₁ _ _ hcda) rfl hvs hfile T.htop ?_
  refine ks_loadName_global rfl e4 (loadGlobal_builtin (hG.keeps k) T.hsup (hB.keeps k) ((hbb _ (by decide +kernel)).trans (by first | boot_by_name | rfl | kernel_rfl)) ⟨rfl, ?_⟩)
  refine wpAny_loadName_free rfl e3 rfl ⟨_, X₁ _ _ hcc, rfl⟩ ?_
  refine wpAny_loadName_local rfl e2 hn mS ?_
  refine ks_wpAny_isType_cls oC rfl ⟨rfl, ?_⟩
  refine ks_wpAny_call_super oC rfl hx₁ rfl (fun c e => (nomatch e)) (looks_mroIn X₁ T.mroS) (fun h₂ hso k₂ => ?_)
  have X₂ : K.In h₂ := X₁.keeps k₂
  have hx₂ := k₂ _ _ hx₁
  have hsup : alongIn K "__init__" (((Value.ref C :: bm).dropWhile (· != .ref C)).drop 1) = some (some (.builtin "ValueError.__init__")) := by
    have z := T.sup
    unfold ks_superIn at z
    rw [hcl] at z
    exact z
  have I₂ : InstAt h₂ x (excO C t0) C none := ⟨hx₂, rfl, rfl, trivial⟩
  refine kxs_getMethod kxs_ValueError hso (looks_opaque X₂ T.opq) (l₀ := .ref C :: bm) ?_ rfl X₂ hsup (I₂.type.andThen (looks_subIn X₂ T.subV)) (ks_ne X₂ I₂ hcl) (by decide) ?_
  · exact fun A Q E s k q => wpAny_bind ((looks_clsIn X₂ hcl) A _ E s k (wpAny_pure q))
  have hu : (h₂.push (kxs_mw "ValueError.__init__" x)).get? h₂.objs.size = some (kxs_mw "ValueError.__init__" x) := Heap.get?_push_at rfl rfl
  have k₃ : ∀ b o, h₂.get? b = some o → (h₂.push (kxs_mw "ValueError.__init__" x)).get? b = some o := fun b o e => Heap.get?_push_of_some _ e
  have X₃ := X₂.keeps k₃
  have hn₃ : (h₂.push (kxs_mw "ValueError.__init__" x)).Ns hp.objs.size _ := (hn.keeps k₂).keeps k₃
  refine kxs_callWith (i := "ValueError.__init__") (x := x) rfl (evalArgs_plain ?_)
  show wpAny _ _ (spliced ((false, eval (iArg fld msg q) _) :: backTo q.h (starEach [] _))) _ _ _
  refine Calls.spliced_cons (told_ok hn₃ mF hr T.ml rfl e1 T.f4 fun u tk' => Calls.spliced_nil ⟨hu, ?_⟩)
  show wpAny _ _ (call (.ref h₂.objs.size) [u]) _ _ _
  refine call_mw (X₃ _ _ hC) (k₃ _ _ hx₂) hu (one_size _) fun h₄ t1 k₄ sz₄ hx₄ => ?_
  show wpAt _ _ _ (execs _ _) _ _ _
  refine wpAt_of_wpAny ?_
  have X₄ : K.In h₄ := kept_but X₃ hnx k₄
  have hn₄ : h₄.Ns hp.objs.size (fun x_1 => List.lookup x_1 (List.reverse [(("self" : Str), Value.ref x), (fld, v)])) := by
    obtain ⟨oL, es, ep, hL, r⟩ := hn₃
    exact ⟨oL, es, ep, k₄ _ _ hxL hL, r⟩
  refine wpAny_execs_cons (plainObj_wpAny_Assign_Attribute ?_)
  refine ESX.ldL hn₄ mF (ESX.ldL hn₄ mS ?_ rfl e2) rfl e1 T.f4
  refine set_plain X₄ (ox := excO C t1) (od := none) ⟨hx₄, rfl, rfl, trivial⟩ T.sa ?_
  refine exc_osa X₄ hx₄ hcl (show refsVE (.ref C :: bm) = true from hbm) rfl T.noN (fun h₅ tk₅ dx k₅ dn dne hx₅ hn₅ => ?_)
  show wpAny _ _ (execs _ _) _ _ _
  have z : hp.objs.size < h₄.objs.size := hn₄.lt
  exact wpAny_execs_nil (hq h₅ tk₅ dx ⟨fun b o hb e => k₅ b o hb (k₄ b o hb (k₃ b o (k₂ b o (k b o e)))), ⟨t1, hx₅⟩, Nat.le_of_lt (Nat.lt_of_lt_of_le z dn), dne, hn₅⟩)
end
section
variable {prog : Program} {w : World} {A : Around} {R : Result → Shared → Prop} {K : Frag} {mg mb : Str → Option Value} {nm fld msg : Str} {C fI : Addr}
theorem exc_made (T : ExTxt prog K mg nm fld msg C fI) {v : Value} {hp : Heap} {g : Array GenState} {dr : Drawn} {tk : Nat} {os : OsState} (X : K.In hp) (hlim : hp.NoLimit) (hG : hp.Ns mainGlobals mg) (hB : hp.Ns builtinsNs mb) (hbb : ∀ x : Str, x ≠ "__name__" → mb x = bootBuiltins x) (hroom : A.depth + 1 < recursionLimit) (hr : Rp v)
    (hq : ∀ h' tk' e d, OwnMade hp h' e C d fld v → R (.ok (.ret (.ref e))) ⟨h', g, dr, tk', os⟩) :
    codeAny (model prog w) A (.call (.ref C) ⟨[v], []⟩) R ⟨hp, g, dr, tk, os⟩ := by
  obtain ⟨nm', q', N, bs, bm, sn, sub, ab, col, dd, k0, k1, k2, k3, k5, hC, hbm⟩ := T.cls
  have k : ∀ b o, hp.get? b = some o → ((hp.push (kdv_tup [v])).push (excO C hp.objs.size)).get? b = some o := fun b o e => Heap.get?_push_of_some _ (Heap.get?_push_of_some _ e)
  have hget : ((hp.push (kdv_tup [v])).push (excO C hp.objs.size)).get? (hp.objs.size + 1) = some (excO C hp.objs.size) := by heap_get
  have hnx : K.lookup (hp.objs.size + 1) = none := by
    cases e : K.lookup (hp.objs.size + 1) with
    | none => rfl
    | some o =>
      have z : hp.get? (hp.objs.size + 1) = some o := X _ _ e
      exact absurd (Nat.lt_of_succ_lt (Heap.lt_size z)) (Nat.lt_irrefl _)
  refine call_own F.excBase_ValueError (fun X => refsVE_contains X bm hbm) (X _ _ hC) (looks_findIn X T.iC) (fun self => bind_fn X self T.tC) (one_size v) ?_
  refine exc_init (tk := tk) T (X.keeps k) (hlim.keeps k) (hG.keeps k) (hB.keeps k) hbb hget hnx ?_ hr fun h' tk' dx ⟨k', ⟨t1, hx⟩, dn, dne, hns⟩ => ?_
  · show A.depth + 1 < recursionLimit
    exact hroom
  · have old : ∀ b o, hp.get? b = some o → h'.get? b = some o := fun b o e => k' b o (Nat.ne_of_lt (Nat.lt_succ_of_lt (Heap.lt_size e))) (k b o e)
    have z : hp.objs.size + 1 + 1 ≤ dx := by
      first
        | (simpa only [Heap.size_push] using dn)
        | exact dn
        | (have q := dn; rw [Heap.size_push, Heap.size_push] at q; exact q)
    exact ⟨rfl, hq h' tk' (hp.objs.size + 1) dx ⟨old, Nat.le_succ _, ⟨_, _, hx, rfl, rfl, rfl, rfl⟩, Nat.le_trans (Nat.le_trans (Nat.le_succ _) (Nat.le_succ _)) z, dne, hns⟩⟩
end
end XExc
end PySem
namespace XL
open PySem PySem.Spec PyProof.Rows L2
/-! ### the error, over the abstract heap -/
def RpV (v : V) : Prop := (∃ y : Str, v = .str y ∧ (reprText y).length ≤ 100000) ∨ ∃ i : Int, v = .int i ∧ i.natAbs.log2 < 1920
theorem RpV.rp {v : V} {u : Value} (h : RpV v) (r : RelV v u) : PySem.XExc.Rp u := by
  rcases h with ⟨y, rfl, hz⟩ | ⟨i, rfl, hz⟩
  · obtain ⟨t, rfl⟩ := r
    exact .inl ⟨y, t, rfl, hz⟩
  · obtain ⟨t, rfl⟩ := r
    exact .inr ⟨i, t, rfl, hz⟩
theorem relO_one {fld : Str} {v : V} {v' : Value} (r : RelV v v') (f : Str) : RelO (List.lookup f [(fld, v)]) (if f = fld then some v' else none) := by
  by_cases hw : f = fld
  · subst hw
    rw [if_pos rfl]
    have q : List.lookup f [(f, v)] = some v := by simp [List.lookup]
    rw [q]
    exact r
  · rw [if_neg hw]
    have qw : (f == fld) = false := by simpa using hw
    have q2 : List.lookup f [(fld, v)] = none := by simp [List.lookup, qw]
    rw [q2]
    trivial
section
variable {X : Cx} {C fI : Addr} {nm fld msg : Str}
def tMkX (C : Addr) (fld : Str) (ta : TA) : L2.St → Hp → XK → Prop := fun σ H Q => ta σ H fun vs H1 => ∃ v, vs = [v] ∧ RpV v ∧ ∀ d, H1 d = none → Q (.ref C) (some d) (upd H1 d (.xd [(fld, v)]))
theorem pmk_x {a : Expr} {ta : TA} {p pos : Pos} {k : Nat} (T : PySem.XExc.ExTxt X.prog X.K X.mg nm fld msg C fI) (hr : Room (k + 1) X.A) (ha : PA X [a] ta) (hg : Gl X nm := by rfl) (hd : (nm == ("__debug__" : Str)) = false := by decide)
    (he : starEach (a :: []) X.env = (false, eval a X.env) :: starEach [] X.env := by rfl) (hpl : (backTo pos (starEach [] X.env)).any (·.1) = false := by rfl) :
    PMk X (.Call (.Name nm p) [a] [] pos) (tMkX C fld ta) := by
  intro pins s σ H Q I h
  refine wpAny_Call_Name_kw (ld_glob I hg T.gC ?_ hd)
  refine PySem.W.callWith_K (h₀ := X.base) I.ok.mod.kin T.kC (thn (ha.run pos pins s σ H _ I h) fun us s1 hh => ?_) he hpl
  obtain ⟨vs, H1, I1, r1, v, ev, rp, q1⟩ := hh
  subst ev
  refine ⟨I1.kIn, ?_⟩
  cases r1 with
  | cons rv rn =>
    rename_i v' us'
    cases rn
    show wpAny _ _ (call (.ref C) [v']) _ _ _
    have hlim := I1.nolimit
    have hG := I1.mod.glob.keeps I1.bk
    obtain ⟨mb, hB, hbb⟩ := I1.mod.blt
    have hB := hB.keeps I1.bk
    obtain ⟨hp, g, dr, tk, os⟩ := s1
    refine wpAny_call (PySem.XExc.exc_made T I1.kIn hlim hG hB hbb (by have := hr.dp; omega) (rp.rp rv) fun h' tk' e d M => ?_)
    show MkP X pins σ Q (.ref e) ⟨h', g, dr, tk', os⟩
    obtain ⟨oe, fv, hoe, hc, hd, hdat, h1⟩ := M.obj
    have hns := M.ns
    obtain ⟨G', g1, g2⟩ := restrict h' fun b => decide (b ≠ e)
    have gk : ∀ b, b ≠ e → G'.get? b = h'.get? b := fun b hb => g1 b (decide_eq_true hb)
    have ge : G'.get? e = none := g2 e (by simp)
    have old : ∀ b o, hp.get? b = some o → G'.get? b = some o := fun b o q => (gk b (Nat.ne_of_lt (Nat.lt_of_lt_of_le (Heap.lt_size q) M.new))).trans (M.keep b o q)
    have ob : ObjOk X.prog X.w (upd H1 d (.xd [(fld, v)])) G' d (.xd [(fld, v)]) :=
      ⟨_, hns.at (fun o q => (gk d M.dne).trans q), fun f => relO_one rv f⟩
    have J : Inv X pins σ (upd H1 d (.xd [(fld, v)])) ⟨G', g, dr, tk', os⟩ := I1.laid (t' := tk') old M.dbig ob
    refine ⟨e, oe, fv, ⟨G', g, dr, tk', os⟩, _, .ref C, some d, rfl, J, fun b o q => ?_, ge, hoe, ⟨hc, hd⟩, hdat, h1, ?_, rfl, I1.bare, raises_own T.exC T.tyC, q1 d (I1.hok.fresh M.dbig)⟩
    · by_cases hb : b = e
      · have q' : G'.get? b = some o := q
        rw [hb, ge] at q'; cases q'
      · exact (gk b hb).symm.trans q
    · rw [upd_ne (Ne.symm M.dne)]
      exact I1.hok.fresh M.new
def tRaiseX (C : Addr) (fld : Str) (W : WX) (ta : TA) : TS := fun _ σ H => tMkX C fld ta σ H fun cls d H' => W cls d σ H'
theorem ps_raiseX {a : Expr} {ta : TA} {W : WX} {p pos pos2 : Pos} {k : Nat} (hc : X.calm = true) (T : PySem.XExc.ExTxt X.prog X.K X.mg nm fld msg C fI) (hr : Room (k + 1) X.A) (tk : Takes X W) (ha : PA X [a] ta) (hg : Gl X nm := by rfl) (hd : (nm == ("__debug__" : Str)) = false := by decide)
    (he : starEach (a :: []) X.env = (false, eval a X.env) :: starEach [] X.env := by rfl) (hpl : (backTo pos (starEach [] X.env)).any (·.1) = false := by rfl) :
    PS X (.Raise (some (.Call (.Name nm p) [a] [] pos)) none pos2) (tRaiseX C fld W ta) := ps_raise hc tk (pmk_x T hr ha hg hd he hpl)
end
/-! ### isinstance(e, c), isinstance(e, (c, ..)) of a caught error -/
section
variable {X : Cx} {a : Addr} {oe : Obj} {cls : Value} {d : Option Addr} {pn : List (Addr × Obj)}
inductive ClsRs : List V → List Value → Prop where
  | nil : ClsRs [] []
  | cons {c : Addr} {cs : List V} {us : List Value} (h : ClsRs cs us) : ClsRs (.ref c :: cs) (.ref c :: us)
theorem ClsRs.eq : ∀ {cs : List V} {us : List Value}, ClsRs cs us → ∀ {ws : List Value}, Vals cs ws → ws = us
  | _, _, .nil, _, .nil => rfl
  | _, _, .cons h, _, .cons r rs => by
    cases r
    rw [h.eq rs]
def rIsX (K : PySem.W.Frag) (cls : Value) (d : Option Addr) (a : Addr) : List V → Hp → VK → Prop := fun xs H Q => ∃ (D dd : Addr) (fs : List (Str × V)) (b : Bool), cls = .ref D ∧ d = some dd ∧ H dd = some (.xd fs) ∧ ExcC K D ∧
  ((∃ (c : V) (cv : Value), xs = [.ref a, c] ∧ (∀ u, RelV c u → u = cv) ∧ PySem.W.kitOne K (.ref D) cv = some b) ∨ ∃ (p : Addr) (cs : List V) (us : List Value), xs = [.ref a, .ref p] ∧ H p = some (.tup cs) ∧ ClsRs cs us ∧ PySem.W.kitAny K (.ref D) us = some b) ∧ Q (.bl b) H
theorem call_isX (hz : Zc cls d oe) (hf : ∃ vs, oe.data = .fields vs) : CallR (X.suite a ((a, oe) :: pn)) (.builtin "isinstance") (rIsX X.K cls d a) := by
  intro pins s σ H xs us Q I r h
  obtain ⟨D, dd, fs, b, rfl, rfl, hd, C, hcs, q⟩ := h
  obtain ⟨hget, _⟩ := I.pin (a, oe) (List.mem_append.mpr (.inl List.mem_cons_self))
  obtain ⟨vs, hv⟩ := hf
  have hx : ObjOk X.prog X.w H s.heap dd (.xd fs) := I.hok dd _ hd
  obtain ⟨mA, hns, _⟩ := hx
  obtain ⟨od, ho, _⟩ := lookIn_ns hns
  have J : PySem.W.InstAt s.heap a oe D (some od) := ⟨hget, hz.1, by unfold PySem.W.notCls; rw [hv] <;> rfl, by rw [hz.2]; exact ho⟩
  have cl : (PySem.W.clsIn X.K D).isSome = true := by
    obtain ⟨cd, hc, _⟩ := PySem.W.any_some C.hd
    rw [hc]
    rfl
  have Z := PySem.W.kitx_exc (x := a) (ox := oe) (od := some od) cl C.hg C.hk C.hs C.ha C.hn C.ht C.hm
  rcases hcs with ⟨c, cv, rfl, hcv, e⟩ | ⟨p, cs, us2, rfl, hp, hc, e⟩
  · cases r with
    | cons rx rr =>
      cases rr with
      | cons rt rr =>
        cases rr
        cases rx
        have ec := hcv _ rt
        subst ec
        exact PySem.W.kia_one Z I.kIn J e (fun z => nomatch z) fun tk => ⟨.bl b, H, I.kept (t' := tk) fun _ _ z => z, rfl, q⟩
  · cases r with
    | cons rx rr =>
      cases rr with
      | cons rt rr =>
        cases rr
        cases rx
        cases rt
        obtain ⟨_, its, rv, o, h1, h2, n, h3⟩ := (show ObjOk X.prog X.w H s.heap p (.tup cs) from I.hok p _ hp)
        have ei := hc.eq rv
        subst ei
        obtain ⟨oc, od', oda, osl⟩ := o
        dsimp only at h2 h3
        subst h2 h3
        exact PySem.W.kia_tup Z I.kIn J h1 e (fun z => nomatch z) fun tk => ⟨.bl b, H, I.kept (t' := tk) fun _ _ z => z, rfl, q⟩
end
/-! ### own [ ] and [ ] = within a try -/
section
variable {X : Cx} {CX : CXT} {C f : Addr} {fd : FuncData} {ps : List Str} {sp : Sp} {E : L2.St → XK} {n : Nat} {o i e : Expr} {to ti te : TE} {pos pos' : Pos}
def tIxOS (C : Addr) (sp : Sp) (E : L2.St → XK) (to ti : TE) : TE := fun σ H Q => to σ H fun x H1 => ti σ H1 fun y H2 => ∃ a dx fs, x = .ref a ∧ H2 a = some (.ins C dx fs) ∧ sp [.ref a, y] H2 Q (E σ)
theorem pe_ixOS (ho : PE X o to) (hi : PE X i ti) (F : FnOk X.prog X.w X.K X.mg X.base CX n f fd ps sp) (hs : PySem.W.findIn X.K (.ref C) "__getitem__" = some (some (.ref f))) (hf : PySem.W.fnIn X.K f = true) (hfn : PySem.W.isFn X.K (.ref f) = true)
    (hb : Binds X.K fd ps []) (hx : ∀ σ, PassesAt CX X σ (E σ)) (hr : Room (n + 1) X.A) (hsl : ∀ x v, subscripted i true (.ref x) v = runValue (.builtin "lifetime.subscript" ⟨[.ref x, v], []⟩) := by intro _ _; with_unfolding_all rfl) :
    PE X (.Subscript o i pos) (tIxOS C sp E to ti) := by
  refine ⟨fun pins s σ H Q I h => ?_⟩
  refine Subscript_ (thn (ho.run pins s σ H _ I h) fun v s1 ⟨x, H1, I1, r1, q1⟩ => thn (hi.run pins s1 σ H1 _ I1 q1) fun u s2 ⟨y, H2, I2, r2, q2⟩ => ?_)
  obtain ⟨a, dx, fs, rfl, ha, hsp⟩ := q2
  cases r1
  obtain ⟨mA, J, _⟩ := ins_get I2.hok ha
  obtain ⟨od, J, _⟩ := J.look
  obtain ⟨m, hF⟩ := I2.fr
  refine PySem.W.sub_K hF I2.ok.mod.kin J hs hf hfn ?_ (hsl _ _)
  have hl : ([Value.ref a, u] ++ []).length = ps.length := F.len _ _ _ _ hsp
  refine wpAny_call (codeAny_mono (F.run X.A.in1 X.stack s2 H2 ⟨[.ref a, u], []⟩ [.ref a, u] [.ref a, y] Q (E σ) hr.in1 I2.env0.in1 (hb s2 [.ref a, u] I2.kIn hl) (.cons rfl (.cons r2 .nil)) hsp) fun r s' hq => ?_)
  cases r with
  | error e => exact hx σ pins H2 s2 e s' I2 hq
  | ok fl =>
    cases fl with
    | ret u => exact I2.after hq
    | next => exact False.elim hq
    | brk => exact False.elim hq
    | cont => exact False.elim hq
def gSubS (C : Addr) (sp : Sp) (E : L2.St → XK) (to ti : TE) : TG := fun v σ H Q => to σ H fun x H1 => ti σ H1 fun y H2 => ∃ a dx fs, x = .ref a ∧ H2 a = some (.ins C dx fs) ∧ sp [.ref a, y, v] H2 (fun _ H' => Q σ H') (E σ)
theorem pg_subOS (ho : PE X o to) (hi : PE X i ti) (F : FnOk X.prog X.w X.K X.mg X.base CX n f fd ps sp) (hq : PySem.W.noSeq X.K C = true) (hs : PySem.W.findIn X.K (.ref C) "__setitem__" = some (some (.ref f))) (hfn : PySem.W.isFn X.K (.ref f) = true)
    (hb : Binds X.K fd ps []) (hx : ∀ σ, PassesAt CX X σ (E σ)) (hr : Room n X.A)
    (ha : ∀ v, assign (.Subscript o i pos) X.env v = (do
      let ov ← holding [v] (eval o X.env)
      let iv ← holding [v, ov] (eval i X.env)
      standAt pos
      holding [v, ov, iv] (setItem ov iv v)
      release [v, ov, iv] []) := by intro _; rfl) : PG X (.Subscript o i pos) (gSubS C sp E to ti) := by
  refine ⟨fun pins s σ H v u Q I r h => ?_⟩
  rw [ha]
  refine wpAny_bind (wpAny_holding (thn (ho.run pins s σ H _ I h) fun ov s1 ⟨x, H1, I1, r1, q1⟩ => ?_))
  refine wpAny_bind (wpAny_holding (thn (hi.run pins s1 σ H1 _ I1 q1) fun iv s2 ⟨y, H2, I2, r2, q2⟩ => ?_))
  obtain ⟨a, dx, fs, rfl, ha2, hsp⟩ := q2
  cases r1
  obtain ⟨mA, J, _⟩ := ins_get I2.hok ha2
  obtain ⟨od, J, _⟩ := J.look
  obtain ⟨m, hF⟩ := I2.fr
  refine wpAny_bind (wpAny_standAt (wpAny_bind (wpAny_holding (PySem.W.ksp_setItem hF I2.ok.mod.kin J hq hs hfn ?_))))
  refine wpAny_mono (run_fnS (us := [.ref a, iv, u]) (vs := [.ref a, y, v]) (E := E) F hr hb (hx σ) I2 (.cons rfl (.cons r2 (.cons r .nil))) hsp) (fun r s' q => ?_) fun _ _ e => e
  obtain ⟨z, H', I', rz, q⟩ := q
  exact wpAny_release ⟨σ, H', I', q⟩
end
end XL
set_option Elab.async false
set_option linter.all false
set_option maxRecDepth 100000
set_option maxHeartbeats 4000000
/-! XOwnIt: list(o), o an object whose own __iter__ hands on iter(t), t a tuple. -/
namespace XL
open PySem PySem.Spec PyProof.Rows L2
/-- an iterator over the tuple at t, the next place is i -/
def ItT (t it : Addr) (i : Nat) : HO := .ext fun h => IsTupIter h it t i
/-- .. that has ended -/
def ItTE (it : Addr) : HO := .ext fun h => ∃ o, h.get? it = some o
theorem itT_ok {P : Program} {w : World} {H : Hp} {h : Heap} {t it : Addr} {i : Nat} (e : IsTupIter h it t i) : ObjOk P w H h it (ItT t it i) := by
  obtain ⟨o, h1, h2⟩ := e
  exact ⟨⟨o, h1, h2⟩, ⟨_, h1⟩, fun g1 g2 ⟨o', q1, q2⟩ k => ⟨o', k _ q1, q2⟩⟩
theorem itTE_ok {P : Program} {w : World} {H : Hp} {h : Heap} {it : Addr} {o : Obj} (e : h.get? it = some o) : ObjOk P w H h it (ItTE it) := ⟨⟨o, e⟩, ⟨_, e⟩, fun g1 g2 ⟨o', q1⟩ k => ⟨o', k _ q1⟩⟩
section
variable {X : Cx} {pins : List (Addr × Obj)} {σ : L2.St} {H : Hp} {s : Shared}
theorem itT_get {t it : Addr} {i : Nat} (I : Inv X pins σ H s) (e : H it = some (ItT t it i)) : IsTupIter s.heap it t i := (I.hok it _ e).1
theorem call_iter_tup {M : Program} {w : World} {A : Around} {E : Value → Shared → Prop} {s : Shared} {t : Addr} {items : Array Value} {Q : Value → Shared → Prop} (ht : IsTup s.heap t items)
    (h : Q (.ref s.heap.objs.size) { s with heap := s.heap.push { cls := .type "tuple_iterator", data := .fields #[.ref t, .int 0 0] } }) : wpAny (model M w) A (call (.builtin "iter") [.ref t]) Q E s := by
  refine Calls.call_function_entry (by decide +kernel) (by decide +kernel) PySem.W.kdk_entry_iter (PySem.W.kdk_args_iter _) ?_
  unfold Builtin.«iter»
  refine wpAny_bind (m := someArgs "iter" 1 2 _) (wpAny_of_eq (a := [Value.ref t]) (by first | rfl | kernel_rfl!) ?_)
  show wpAny _ _ (pyIter (.ref t) >>= _) _ _ _
  refine wpAny_bind (iter_tuple ht ?_)
  exact wpAny_pure ⟨_, rfl, h⟩
/-- iter(t) -/
def rIterT (K : PySem.W.Frag) : List V → Hp → VK → Prop := fun xs H Q => ∃ (t : Addr) (zs : List V), xs = [.ref t] ∧ SqT K H t zs ∧ ∀ it, H it = none → Q (.ref it) (upd H it (ItT t it 0))
theorem call_iterT : CallR X (.builtin "iter") (rIterT X.K) := by
  intro pins s σ H xs us Q I r h
  obtain ⟨t, zs, rfl, hq, q⟩ := h
  obtain rfl := Vals.ref1 r
  obtain ⟨its, rv, pl, hz⟩ := I.tuple hq
  refine call_iter_tup pl ?_
  exact ⟨.ref s.heap.objs.size, _, I.laid (t' := s.toks) (fun b u e => Heap.get?_push_of_some _ e) (Nat.le_refl _) (itT_ok ⟨_, Heap.get?_push_size _ rfl, rfl, rfl⟩), rfl, q _ (I.hok.fresh (Nat.le_refl _))⟩
theorem call_iterTK (K : PySem.W.Frag) (h : X.K = K := by rfl) : CallR X (.builtin "iter") (rIterT K) := h ▸ call_iterT
theorem sqT_upd {K : PySem.W.Frag} {H : Hp} {t x : Addr} {zs : List V} {o : HO} (h : SqT K H t zs) (hx : ∀ o' xs, H x ≠ some (.tup xs) ∧ H x ≠ some (.frz o' (.tup xs))) : SqT K (upd H x o) t zs := by
  rcases h with (h | ⟨ob, h⟩) | h
  · have ne : t ≠ x := fun z => (hx default zs).1 (by rw [← z]; exact h)
    exact .inl (.inl (by rw [upd_ne ne]; exact h))
  · have ne : t ≠ x := fun z => (hx ob zs).2 (by rw [← z]; exact h)
    exact .inl (.inr ⟨ob, by rw [upd_ne ne]; exact h⟩)
  · exact .inr h
/-- the end of a tuple: the iterator itself stays there -/
theorem next_tup_end {P : Program} {w : World} {A : Around} {E : Value → Shared → Prop} {s : Shared} {it t : Addr} {i : Nat} {items : Array Value} {Q : Option Value → Shared → Prop} (hh : A.handled = none)
    (hit : IsTupIter s.heap it t i) (ht : IsTup s.heap t items) (hx : items[i]? = none)
    (hQ : ∀ h', Heap.ExtBut it s.heap h' → (∃ o, h'.get? it = some o) → Q none { s with heap := h' }) : wpAny (model P w) A (pyNext (.ref it)) Q E s := by
  obtain ⟨o, ho, hc, hd⟩ := id hit
  obtain ⟨ol, hol, _, nl, hdl⟩ := ht
  unfold pyNext
  refine wpAny_bind (wpAny_attempt (wpAny_callSpecial?_slot (name := Str.ofString "__next__") hit.typeIs slot_tupleiter_next (wpAny_call_entry slot_tupleiter_next hit.typeIs entry_tupleiter_next ?_ (args_tupleiter_next _))))
  show wpAny _ _ (field (.ref it) 0 >>= _) _ _ s
  refine wpAny_bind (wpAny_field ho hd (x := .ref t) rfl (PySem.W.KFB.if_not rfl ?_))
  show wpAny _ _ (field (.ref it) 1 >>= _) _ _ s
  refine wpAny_bind (wpAny_field ho hd (x := .int i 0) rfl ?_)
  show wpAny _ _ (seqItems? (.ref t) >>= _) _ _ s
  refine wpAny_bind (wpAny_seqItems hol hdl ?_)
  simp only [Int.toNat_natCast, hx]
  refine wpAny_bind (wpAny_rule (wpAny_bind (wpAny_setField ho hd (by simp) ?_)))
  show wpAny _ _ (newExc (.type "StopIteration") [] >>= _) _ _ _
  refine wpAny_bind ?_
  simp only [newExc, newTuple]
  refine wpAny_bind (wpAny_newObj_type ?_ (by size_fits))
  refine wpAny_bind (m := firstArgMember _ _) (wpAny_of_eq (a := Value.none) (by first | rfl | (simp only [firstArgMember]; rfl)) ?_)
  refine wpAny_newObj_type ?_ (by size_fits)
  simp only [raiseNew]
  refine wpAny_bind (wpAny_handled ?_)
  first | rw [show A.in1.handled = none from hh] | rw [hh]
  refine wpAny_bind (wpAny_pure (wpAny_throw ?_))
  refine wpAny_bind (wpAny_isInstance (T := "StopIteration") (b := true) ⟨_, Heap.get?_push_size _ rfl, rfl⟩ isSubtype_stop ?_)
  exact wpAny_pure (hQ _ (((Heap.SameBut.update ..).extBut.push _).push _) ⟨_, Heap.get?_push_of_some _ (Heap.get?_push_of_some _ (Heap.get?_update_self _ ho (Obj.isFreed_of_fields (Obj.data_mapFields hd _))))⟩)
/-- the loop that fills the list at q -/
theorem loop_tup {A1 : Around} {Rs : Result → Shared → Prop} {q it t : Addr} {zs : List V} (hd : A1.in1.handled = none) (hne : q ≠ it) :
    ∀ (k i : Nat) (H : Hp) (s : Shared), zs.length - i = k → i ≤ zs.length → Inv X pins σ H s → H it = some (ItT t it i) → SqT X.K H t zs → H q = some (.lst (zs.take i)) →
      (∀ s', Inv X pins σ (upd (upd H it (ItTE it)) q (.lst zs)) s' → Rs (.ok (.ret .none)) s') → codeAny (model X.prog X.w) A1 (.builtin "list.extend.loop" ⟨[.ref q, .ref it, .none], []⟩) Rs s := by
  intro k
  induction k with
  | zero =>
    intro i H s hk hi I hit ht hq hR
    obtain ⟨its, rv, pl, hz⟩ := I.tuple ht
    have hin : zs.length = its.length := rv.length
    have mu : Mut (H it) := by rw [hit]; exact True.intro
    refine codeAny_builtin PySem.F.entry_extend_loop ?_
    rw [Around.under_plainId PySem.F.plain_extend_loop _]
    show wpAny _ A1.in1 (pyNext (.ref it) >>= _) _ _ s
    have ei : i = zs.length := by omega
    refine wpAny_bind (next_tup_end hd (itT_get I hit) pl (by rw [List.getElem?_toArray]; exact List.getElem?_eq_none (by omega)) fun h' eb ⟨o, ho⟩ => wpAny_pure ?_)
    have I2 : Inv X pins σ (upd H it (ItTE it)) { s with heap := h' } := I.write (x := it) (e := it) (t' := s.toks) mu (.inl rfl) (fun b o nb z => eb b o nb z) ⟨_, ho⟩ (itTE_ok ho)
    refine hR _ ?_
    have e : upd (upd H it (ItTE it)) q (.lst zs) = upd H it (ItTE it) := by
      funext b
      by_cases hb : b = q
      · rw [hb, upd_same, upd_ne hne, hq, ei, List.take_length]
      · rw [upd_ne hb]
    rw [e]
    exact I2
  | succ k ih =>
    intro i H s hk hi I hit ht hq hR
    obtain ⟨its, rv, pl, hz⟩ := I.tuple ht
    have hin : zs.length = its.length := rv.length
    have mu : Mut (H it) := by rw [hit]; exact True.intro
    have hlt : i < zs.length := by omega
    have hzi := List.getElem?_eq_getElem hlt
    obtain ⟨u, hu, ru⟩ := rv.get hzi
    refine codeAny_builtin PySem.F.entry_extend_loop ?_
    rw [Around.under_plainId PySem.F.plain_extend_loop _]
    show wpAny _ A1.in1 (pyNext (.ref it) >>= _) _ _ s
    refine wpAny_bind (next_tuple_item (itT_get I hit) pl (by rw [List.getElem?_toArray]; exact hu) fun h' hit' sb => ?_)
    obtain ⟨o, ho, _⟩ := id hit'
    have I2 : Inv X pins σ (upd H it (ItT t it (i + 1))) { s with heap := h' } := I.write (x := it) (e := it) (t' := s.toks) mu (.inl rfl) (fun b o nb z => (sb.2 b nb).trans z) ⟨_, ho⟩ (itT_ok hit')
    have hq2 : upd H it (ItT t it (i + 1)) q = some (.lst (zs.take i)) := by rw [upd_ne hne]; exact hq
    show wpAny _ A1.in1 (updateSeq q (·.push u) >>= _) _ _ _
    obtain ⟨z, its2, c, r2, hl, e⟩ := I2.lstM hq2
    have l2 : its2.length ≤ 16777215 := by
      rw [← hl, List.length_take]
      have := hz
      rw [sizeLine_eq] at this
      omega
    refine wpAny_bind (wpAny_updateSeq e rfl (wpAny_pure ⟨plainId_quiet PySem.F.plain_extend_loop _, ?_⟩) (by rw [List.size_toArray, sizeLine_eq]; omega) (by show (its2.toArray.push u).size ≤ sizeLine + 1; rw [Array.size_push, List.size_toArray, sizeLine_eq]; omega))
    have I3 := I2.lset (f := (·.push u)) (its' := its2 ++ [u]) (ys := zs.take i ++ [zs[i]]) (t' := s.toks) hq2 e (by simp) (r2.append (.cons ru .nil)) (by rw [List.length_append, List.length_singleton, List.length_take, sizeLine_eq]; rw [sizeLine_eq] at hz; omega)
    refine ih (i + 1) _ _ (by omega) (by omega) I3 ?_ ?_ ?_ fun s' I4 => hR s' ?_
    · rw [upd_ne (Ne.symm hne), upd_same]
    · exact sqT_upd (sqT_upd ht fun o' xs => ⟨by rw [hit]; exact fun z => (nomatch z), by rw [hit]; exact fun z => (nomatch z)⟩) fun o' xs => ⟨by rw [hq2]; exact fun z => (nomatch z), by rw [hq2]; exact fun z => (nomatch z)⟩
    · rw [upd_same, take_snoc hzi]
    · have e4 : upd (upd (upd (upd H it (ItT t it (i + 1))) q (.lst (zs.take i ++ [zs[i]]))) it (ItTE it)) q (.lst zs) = upd (upd H it (ItTE it)) q (.lst zs) := by
        funext b
        by_cases hb : b = q
        · rw [hb, upd_same, upd_same]
        · rw [upd_ne hb, upd_ne hb]
          by_cases hb2 : b = it
          · rw [hb2, upd_same, upd_same]
          · rw [upd_ne hb2, upd_ne hb2, upd_ne hb, upd_ne hb2]
      rw [← e4]
      exact I4
/-- list(o) -/
def rListIt (K : PySem.W.Frag) (C : Addr) (sp : Sp) (E : XK) : List V → Hp → VK → Prop := fun xs H Q => ∃ a dx fs, xs = [.ref a] ∧ H a = some (.ins C dx fs) ∧
  ∀ q, H q = none → sp [.ref a] (upd H q (.lst [])) (fun v H1 => ∃ (it t : Addr) (zs : List V), v = .ref it ∧ H1 it = some (ItT t it 0) ∧ SqT K H1 t zs ∧ H1 q = some (.lst []) ∧ (∃ dx' fs', H1 a = some (.ins C dx' fs')) ∧ Q (.ref q) (upd (upd H1 it (ItTE it)) q (.lst zs))) E
theorem hint_own {M : Model} {A : Around} {E : Value → Shared → Prop} {s : Shared} {Q : Bool → Shared → Prop} {K : PySem.W.Frag} {C a : Addr} {ox : Obj} {od : Option Obj} (h1 : PySem.W.findIn K (.ref C) "__len__" = some none) (h2 : PySem.W.findIn K (.ref C) "__length_hint__" = some none)
    (hK : K.In s.heap) (J : PySem.W.InstAt s.heap a ox C od) (h : Q true s) : wpAny M A (Builtin.List.listLengthHint (.ref a)) Q E s := by
  unfold Builtin.List.listLengthHint
  refine wpAny_bind (wpAny_bind (J.type.here ((PySem.W.looks_findIn hK h1).here (PySem.W.KFB.if_not rfl (PySem.W.KFB.if_not rfl ?_)))))
  exact wpAny_bind (wpAny_bind (J.type.here ((PySem.W.looks_findIn hK h2).here (wpAny_pure h))))
theorem call_listIt {C f : Addr} {fd : FuncData} {ps : List Str} {sp : Sp} {E : XK} {n : Nat} {CX : CXT} (hs : PySem.W.findIn X.K (.ref C) "__iter__" = some (some (.ref f))) (hfn : PySem.W.isFn X.K (.ref f) = true) (n1 : PySem.W.findIn X.K (.ref C) "__len__" = some none) (n2 : PySem.W.findIn X.K (.ref C) "__length_hint__" = some none)
    (F : FnOk X.prog X.w X.K X.mg X.base CX n f fd ps sp) (hb : Binds X.K fd ps []) (hx : Passes CX X E) (hr : Room (n + 2) X.A) : CallR X (.type "list") (rListIt X.K C sp E) := by
  intro pins s σ H xs us Q I rv h
  obtain ⟨a, dx, fs, rfl, ha, hq⟩ := h
  obtain ⟨u, rfl, ru⟩ := rv.one
  cases ru
  have sb : Sub X n X.A.in1.in1 := (Sub.in1 (Sub.in1 (⟨hr, rfl⟩ : Sub X (n + 2) X.A)))
  refine callType_codes (Q₁ := fun obj s₁ => obj = .ref s.heap.objs.size ∧ s₁ = { s with heap := s.heap.push { cls := .type "list", data := .seq #[] } }) PySem.F.called_list (PySem.F.typeCall_list_1 _) PySem.F.entry_list_init
    (code_list_new _ ⟨rfl, rfl⟩) fun obj s₁ h₁ => ?_
  obtain ⟨rfl, rfl⟩ := h₁
  have hS : (s.heap.push { cls := .type "list", data := .seq #[] }).get? s.heap.objs.size = some { cls := .type "list", data := .seq #[] } := Heap.get?_push_size _ rfl
  refine ⟨⟨_, hS, rfl⟩, PySem.F.args_list_init_2 _ _, ?_⟩
  have fr : H s.heap.objs.size = none := I.hok.fresh (Nat.le_refl _)
  have hsp := hq _ fr
  have I1 : Inv X pins σ (upd H s.heap.objs.size (.lst [])) { s with heap := s.heap.push { cls := .type "list", data := .seq #[] } } := I.lnew (its := []) (t' := s.toks) .nil (Nat.zero_le _)
  show wpAny _ _ (do let old ← Builtin.List.listItems (.ref s.heap.objs.size); Builtin.List.listUpdate (.ref s.heap.objs.size) (fun _ => #[]); letGo old.toList.reverse; Builtin.List.listExtendWith (.ref s.heap.objs.size) (.ref a) .none) _ _ _
  refine wpAny_bind ?_
  unfold Builtin.List.listItems
  refine wpAny_bind (wpAny_seqItems hS rfl (wpAny_pure ?_))
  show wpAny _ _ (updateSeq s.heap.objs.size (fun _ => #[]) >>= fun _ => letGo (#[] : Array Value).toList.reverse >>= fun _ => Builtin.List.listExtendWith (.ref s.heap.objs.size) (.ref a) .none) _ _ _
  refine wpAny_bind (wpAny_updateSeq hS rfl ?_)
  have I2 := I1.lset (f := fun _ => #[]) (its := []) (its' := []) (ys := []) (t' := s.toks) upd_same hS rfl .nil (Nat.zero_le _)
  rw [upd_upd] at I2
  refine wpAny_bind (wpAny_letGo ?_)
  have ha2 : upd H s.heap.objs.size (.lst []) a = some (.ins C dx fs) := by rw [upd_ne (ne_of_none ha fr)]; exact ha
  have hne : s.heap.objs.size ≠ a := Ne.symm (ne_of_none ha fr)
  generalize hH2 : upd H s.heap.objs.size (.lst []) = H2 at *
  generalize s.heap.objs.size = q at *
  obtain ⟨mA, J, _⟩ := ins_get I2.hok ha2
  obtain ⟨od, J, _⟩ := J.look
  obtain ⟨m0, hF⟩ := I2.fr
  unfold Builtin.List.listExtendWith
  refine wpAny_bind (J.type.here ?_)
  have h1 : Builtin.List.listSameRef (.ref q) (.ref a) = false := by simp [Builtin.List.listSameRef, hne]
  have h2 : (Value.ref C == Value.type "list") = false := rfl
  have h3 : (Value.ref C == Value.type "tuple") = false := rfl
  simp only [h1, h2, h3, Bool.or_false, Bool.false_eq_true, if_false]
  refine wpAny_bind (PySem.W.owit_iter hF I2.ok.mod.kin J hs hfn ?_)
  have e0 : ∀ {s : Shared} {H : Hp}, Inv X pins σ H s → Env0 X.prog X.w X.K X.mg X.base X.A.in1.in1 X.stack s H := fun {s H} I => by
    have e := I.env0
    exact ⟨by rw [sb.fr]; exact e.frames, e.mod, e.bs, e.bsz, e.funs, e.frf, e.hok, e.bare⟩
  have hl := F.len _ _ _ _ hsp
  have r2 : Vals [V.ref a] [Value.ref a] := .cons rfl .nil
  refine wpAny_call (codeAny_mono (F.run X.A.in1.in1 X.stack _ _ ⟨[.ref a], []⟩ [.ref a] [.ref a] _ E sb.room (e0 I2) (by
    have := hb _ [.ref a] I2.kIn (by simpa using hl)
    simpa using this) r2 hsp) fun r s' hq' => ?_)
  cases r with
  | error e => exact hx pins σ _ _ e s' I2 hq'
  | ok fl =>
    cases fl with
    | next => exact False.elim hq'
    | brk => exact False.elim hq'
    | cont => exact False.elim hq'
    | ret u =>
      obtain ⟨v, H', I', rv, it, t, zs, ev, hit, ht, hqq, ⟨dx', fs', ha'⟩, hQ⟩ := I2.after hq'
      subst ev
      cases rv
      have hT : s'.TypeIs (.ref it) "tuple_iterator" := (itT_get I' hit).typeIs
      have hqi : q ≠ it := fun z => by
        rw [z, hit] at hqq
        exact (nomatch hqq)
      show wpAny _ _ (specialOf (.ref it) "__next__") _ _ _
      refine wpAny_specialOf hT slot_tupleiter_next.lookup ?_
      obtain ⟨mA', J', _⟩ := ins_get I'.hok ha'
      obtain ⟨od', J', _⟩ := J'.look
      refine wpAny_bind (wpAny_holding (hint_own n1 n2 I'.kIn J' ?_))
      have go : ∀ s'', Inv X pins σ H' s'' → codeAny (model X.prog X.w) X.A.in1 (.builtin "list.extend.loop" ⟨[.ref q, .ref it, .none], []⟩) (wants (fun r s₂ => r = .none ∧ EP X pins σ Q (.ref q) s₂) X.xe) s'' := fun s'' I'' =>
        loop_tup (t := t) (zs := zs) sb.room.hd hqi zs.length 0 H' s'' (by simp) (Nat.zero_le _) I'' hit ht (by rw [hqq]; rfl) fun s3 I3 => ⟨rfl, .ref q, _, I3, rfl, hQ⟩
      obtain ⟨z, its, k, r3, hl3, e3⟩ := I'.lstM hqq
      cases r3
      refine wpAny_ite_split (fun _ => ?_) (fun _ => wpAny_pure ⟨plainId_quiet PySem.F.plain_extend_loop _, go s' I'⟩)
      refine wpAny_bind (wpAny_rule ?_)
      refine wpAny_bind ?_
      show wpAny _ _ (updateSeq q (·.push .none) >>= fun _ => updateSeq q (·.pop)) _ _ _
      refine wpAny_bind (wpAny_updateSeq e3 rfl ?_)
      have I3 := I'.lset (f := (·.push Value.none)) (its' := [Value.none]) (ys := [.non]) (t' := s'.toks) hqq e3 (by simp) (.cons rfl .nil) (by rw [List.length_singleton, sizeLine_eq]; decide)
      obtain ⟨z4, its4, k4, r4, hl4, e4⟩ := I3.lstM upd_same
      obtain ⟨u4, rfl, ru4⟩ := r4.one
      refine wpAny_updateSeq e4 rfl ?_ (by show 1 ≤ sizeLine; rw [sizeLine_eq]; decide) (by show 0 ≤ sizeLine + 1; exact Nat.zero_le _)
      have I4 := I3.lset (f := (·.pop)) (its := [u4]) (its' := []) (ys := []) (t' := s'.toks) upd_same e4 (by rfl) .nil (Nat.zero_le _)
      rw [upd_upd] at I4
      have hH : upd H' q (.lst []) = H' := by
        funext b
        by_cases hb : b = q
        · rw [hb, upd_same, hqq]
        · rw [upd_ne hb]
      rw [hH] at I4
      exact wpAny_pure ⟨plainId_quiet PySem.F.plain_extend_loop _, go _ I4⟩
end
end XL
set_option Elab.async false
set_option linter.all false
set_option maxRecDepth 100000
set_option maxHeartbeats 4000000
/-! XOr: two rules for one piece of text; what classes say of an own error. -/
namespace XL
open PySem PySem.Spec PyProof.Rows L2
section
variable {X : Cx}
theorem pe_or {e : Expr} {t u : TE} (h : PE X e t) (k : PE X e u) : PE X e (fun σ H Q => t σ H Q ∨ u σ H Q) := ⟨fun pins s σ H Q I q => q.elim (h.run pins s σ H Q I) (k.run pins s σ H Q I)⟩
theorem pg_or {e : Expr} {t u : TG} (h : PG X e t) (k : PG X e u) : PG X e (fun v σ H Q => t v σ H Q ∨ u v σ H Q) := ⟨fun pins s σ H v w Q I r q => q.elim (h.run pins s σ H v w Q I r) (k.run pins s σ H v w Q I r)⟩
theorem cr_or {f : Value} {t u : List V → Hp → VK → Prop} (h : CallR X f t) (k : CallR X f u) : CallR X f (fun xs H Q => t xs H Q ∨ u xs H Q) := fun pins s σ H xs us Q I r q => q.elim (h pins s σ H xs us Q I r) (k pins s σ H xs us Q I r)
end
section
variable {P : Program} {w : World} {K : PySem.W.Frag} {mg : Str → Option Value} {base : Heap} {CX : CXT} {k : Nat} {f : Addr} {fd : FuncData} {ps : List Str} {sp sq : Sp}
theorem fn_or (h : FnOk P w K mg base CX k f fd ps sp) (h2 : FnOk P w K mg base CX k f fd ps sq) : FnOk P w K mg base CX k f fd ps (fun vs H Q E => sp vs H Q E ∨ sq vs H Q E) :=
  ⟨fun vs H Q E q => q.elim (h.len vs H Q E) (h2.len vs H Q E), fun A outer s H args us vs Q E hr he hb hv q => q.elim (h.run A outer s H args us vs Q E hr he hb hv) (h2.run A outer s H args us vs Q E hr he hb hv)⟩
end
theorem kit_of {K : PySem.W.Frag} {D C : Addr} {b : Bool} (hne : (Value.ref D == Value.ref C) = false) (h2 : PySem.W.isClsIn K C = true) (h3 : PySem.W.typeIn K (.ref C) = some (.type "type")) (h4 : PySem.W.subIn K (.ref D) (.ref C) = some b) : PySem.W.kitOne K (.ref D) (.ref C) = some b := by
  have e2 : ((PySem.W.clsIn K C).isSome && PySem.W.typeIn K (.ref C) == some (.type "type")) = true := by
    have h2' : (PySem.W.clsIn K C).isSome = true := h2
    rw [h2', h3]
    rfl
  show (if (Value.ref D == Value.ref C) = true then some true else (if ((PySem.W.clsIn K C).isSome && PySem.W.typeIn K (.ref C) == some (.type "type")) = true then PySem.W.subIn K (.ref D) (.ref C) else none)) = some b
  rw [if_neg (by rw [hne]; decide), if_pos e2]
  exact h4
theorem exm_of {K : PySem.W.Frag} {S : Addr} {cls : Value} {b : Bool} (h1 : PySem.W.subIn K (.ref S) (.type "BaseException") = some true) (h2 : PySem.W.isClsIn K S = true) (h3 : PySem.W.typeIn K (.ref S) = some (.type "type")) (h4 : PySem.W.subIn K cls (.ref S) = some b) : PySem.W.exmOne K cls (.ref S) = some b := by
  have e1 : (PySem.W.subIn K (.ref S) (.type "BaseException") == some true) = true := by rw [h1] <;> rfl
  have e2 : ((PySem.W.clsIn K S).isSome && PySem.W.typeIn K (.ref S) == some (.type "type")) = true := by
    have h2' : (PySem.W.clsIn K S).isSome = true := h2
    rw [h2', h3] <;> rfl
  show (if (PySem.W.subIn K (.ref S) (.type "BaseException") == some true) = true then (if ((PySem.W.clsIn K S).isSome && PySem.W.typeIn K (.ref S) == some (.type "type")) = true then PySem.W.subIn K cls (.ref S) else none) else none) = some b
  rw [if_pos e1, if_pos e2]
  exact h4
end XL
set_option Elab.async false
set_option linter.all false
set_option maxRecDepth 100000
set_option maxHeartbeats 4000000
/-! XTxt: texts of small letters; a name that is not used. -/
namespace XL
open PySem PySem.Spec PyProof.Rows L2
def LS : Str := "abcdefghijklmnopqrstuvwxyz"
structure Lt (a b : Nat) (z : Str) : Prop where
  lo : a ≤ z.length
  hi : z.length ≤ b
  ch : ∀ c ∈ z.cps.toList, c ∈ LS.cps.toList
theorem len_tl (z : Str) : z.length = z.cps.toList.length := by
  show z.cps.size = _
  rw [Array.length_toList]
theorem Lt.one {c : Nat} (h : c ∈ LS.cps.toList) : Lt 1 1 ⟨#[c]⟩ := ⟨Nat.le_refl _, Nat.le_refl _, fun d hd => by
  have : d = c := by simpa using hd
  rw [this]
  exact h⟩
theorem Lt.wide {a b a' b' : Nat} {z : Str} (h : Lt a b z) (h1 : a' ≤ a) (h2 : b ≤ b') : Lt a' b' z := ⟨Nat.le_trans h1 h.lo, Nat.le_trans h.hi h2, h.ch⟩
theorem app_len (x y : Str) : (x ++ y).length = x.length + y.length := Str.length_append x y
theorem app_tl (x y : Str) : (x ++ y).cps.toList = x.cps.toList ++ y.cps.toList := by
  rw [Str.cps_append]
  simp
theorem Lt.app {a b c d : Nat} {x y : Str} (h : Lt a b x) (k : Lt c d y) : Lt (a + c) (b + d) (x ++ y) := by
  have h1 := h.lo; have h2 := h.hi; have h3 := k.lo; have h4 := k.hi
  refine ⟨by rw [app_len]; omega, by rw [app_len]; omega, fun e he => ?_⟩
  rw [app_tl] at he
  rcases List.mem_append.mp he with z | z
  · exact h.ch e z
  · exact k.ch e z
theorem cut_mem {z : Str} {lo hi : Option Int} {c : Nat} (h : c ∈ (cutS z lo hi).cps.toList) : c ∈ z.cps.toList := by
  have h2 : c ∈ (z.cps.toList.drop (HT.sIx z.length 0 lo)).take (HT.sIx z.length z.length hi - HT.sIx z.length 0 lo) := by simpa [cutS] using h
  exact List.mem_of_mem_drop (List.mem_of_mem_take h2)
theorem cut_to_len (z : Str) (k : Nat) : (cutS z none (some (k : Int))).length = min k z.length := by
  rw [len_tl]
  show ((z.cps.toList.drop (HT.sIx z.length 0 none)).take (HT.sIx z.length z.length (some (k : Int)) - HT.sIx z.length 0 none)).toArray.toList.length = _
  rw [HT.sIx_nat, HT.sIx_none]
  rw [Nat.sub_zero, List.drop_zero, List.length_take, ← len_tl]
  omega
theorem cut_from_len (z : Str) (k : Nat) (h : k ≤ z.length) : (cutS z (some (k : Int)) none).length = z.length - k := by
  rw [len_tl]
  show ((z.cps.toList.drop (HT.sIx z.length 0 (some (k : Int)))).take (HT.sIx z.length z.length none - HT.sIx z.length 0 (some (k : Int)))).toArray.toList.length = _
  rw [HT.sIx_nat, HT.sIx_none, List.length_take, List.length_drop, ← len_tl]
  omega
theorem Lt.to {a b : Nat} {z : Str} (h : Lt a b z) (k : Nat) : Lt (min k a) (min k b) (cutS z none (some (k : Int))) := by
  have h1 := h.lo; have h2 := h.hi
  exact ⟨by rw [cut_to_len]; omega, by rw [cut_to_len]; omega, fun c hc => h.ch c (cut_mem hc)⟩
theorem joinL_nil : ∀ ps : List (List Nat), TL.joinL [] ps = ps.flatten
  | [] => rfl
  | [p] => by simp [TL.joinL]
  | p :: q :: r => by
    show p ++ ([] ++ TL.joinL [] (q :: r)) = _
    rw [joinL_nil (q :: r)]
    simp
theorem Lt.join {ys : List Str} (h : ∀ y ∈ ys, Lt 1 1 y) : Lt ys.length ys.length (Txt.join "" ys) := by
  have e : (Txt.join "" ys).cps.toList = (ys.map fun y => y.cps.toList).flatten := by
    rw [TL.join_eq]
    exact (TL.tl_join "" ys).trans (joinL_nil _)
  have el : ∀ {ys : List Str}, (∀ y ∈ ys, Lt 1 1 y) → ((ys.map fun y => y.cps.toList).flatten).length = ys.length := by
    intro ys
    induction ys with
    | nil => intro _; rfl
    | cons y r ih =>
      intro h
      have h1 := h y List.mem_cons_self
      have z := ih fun y hy => h y (List.mem_cons_of_mem _ hy)
      have l1 := h1.lo; have l2 := h1.hi
      rw [len_tl] at l1 l2
      rw [List.map_cons, List.flatten_cons, List.length_append, z, List.length_cons]
      omega
  have l := el h
  refine ⟨by rw [len_tl, e, l]; exact Nat.le_refl _, by rw [len_tl, e, l]; exact Nat.le_refl _, fun c hc => ?_⟩
  rw [e] at hc
  obtain ⟨p, hp, hcp⟩ := List.mem_flatten.mp hc
  obtain ⟨y, hy, rfl⟩ := List.mem_map.mp hp
  exact (h y hy).ch c hcp
theorem sum_ones : ∀ {ys : List Str}, (∀ y ∈ ys, Lt 1 1 y) → (ys.map (·.length)).sum = ys.length
  | [], _ => rfl
  | y :: r, h => by
    have h1 := h y List.mem_cons_self
    have z := sum_ones fun y hy => h y (List.mem_cons_of_mem _ hy)
    have l1 := h1.lo; have l2 := h1.hi
    rw [List.map_cons, List.sum_cons, z, List.length_cons]
    omega
/-! ### one that is not used -/
theorem nd_sub {α : Type} [DecidableEq α] : ∀ {xs ys : List α}, xs.Nodup → (∀ x ∈ xs, x ∈ ys) → xs.length ≤ ys.length
  | [], _, _, _ => Nat.zero_le _
  | x :: r, ys, nd, h => by
    have hx := h x List.mem_cons_self
    have nd' := List.nodup_cons.mp nd
    have z := nd_sub (ys := ys.erase x) nd'.2 fun y hy => (List.mem_erase_of_ne (fun e : y = x => nd'.1 (by rw [← e]; exact hy))).mpr (h y (List.mem_cons_of_mem _ hy))
    rw [List.length_erase_of_mem hx] at z
    have : 0 < ys.length := List.length_pos_of_mem hx
    rw [List.length_cons]
    omega
def letter (k : Nat) : Nat := LS.cps.toList.getD k 0
theorem letter_at {k : Nat} (h : k < 26) : LS.cps.toList[k]? = some (letter k) := by
  have z : ∀ j : Nat, j < 26 → LS.cps.toList[j]? = some (letter j) := by decide +kernel
  exact z k h
theorem letter_inj {i j : Nat} (hi : i < 26) (hj : j < 26) (h : letter i = letter j) : i = j := by
  have z : ∀ i : Nat, i < 26 → ∀ j : Nat, j < 26 → letter i = letter j → i = j := by decide +kernel
  exact z i hi j hj h
def tail2 (k : Nat) : Str := (⟨#[letter (k / 26)]⟩ : Str) ++ ⟨#[letter (k % 26)]⟩
theorem tail2_inj {p : Str} {i j : Nat} (hi : i < 676) (hj : j < 676) (h : p ++ tail2 i = p ++ tail2 j) : i = j := by
  have e := congrArg (fun z : Str => z.cps.toList) h
  simp only [app_tl, tail2] at e
  have e2 := List.append_cancel_left e
  have e3 : [letter (i / 26), letter (i % 26)] = [letter (j / 26), letter (j % 26)] := by simpa using e2
  injection e3 with h1 h2
  injection h2 with h2 _
  have a := letter_inj (by omega) (by omega) h1
  have b := letter_inj (by omega) (by omega) h2
  omega
theorem tail2_lt {k : Nat} (h : k < 676) : Lt 2 2 (tail2 k) :=
  (Lt.one (List.mem_of_getElem? (letter_at (by omega)))).app (Lt.one (List.mem_of_getElem? (letter_at (by omega))))
theorem unused (p : Str) (us : List Str) (h : us.length < 676) : ∃ k, k < 676 ∧ p ++ tail2 k ∉ us := by
  apply Classical.byContradiction
  intro no
  have all : ∀ z ∈ (List.range 676).map (fun k => p ++ tail2 k), z ∈ us := fun z hz => by
    obtain ⟨k, hk, rfl⟩ := List.mem_map.mp hz
    apply Classical.byContradiction
    intro q
    exact no ⟨k, List.mem_range.mp hk, q⟩
  have nd : ((List.range 676).map (fun k => p ++ tail2 k)).Nodup := by
    unfold List.Nodup
    rw [List.pairwise_map]
    refine List.Pairwise.imp_of_mem ?_ (List.nodup_range (n := 676))
    intro a b ha hb hab e
    exact hab (tail2_inj (List.mem_range.mp ha) (List.mem_range.mp hb) e)
  have z := nd_sub nd all
  rw [List.length_map, List.length_range] at z
  omega
theorem inV_str {x : Str} (xs : List Str) : inV (.str x) (xs.map V.str) = decide (x ∈ xs) := by
  unfold inV
  induction xs with
  | nil => rfl
  | cons y r ih =>
    rw [List.map_cons, List.any_cons, ih]
    show ((y == x) || decide (x ∈ r)) = decide (x ∈ y :: r)
    by_cases e : x = y
    · subst e; simp
    · have e2 : ¬ y = x := fun q => e q.symm
      simp [e, e2]
theorem strs_flat (xs : List Str) : (xs.map V.str).all flatV = true := by
  rw [List.all_eq_true]
  intro x hx
  obtain ⟨n, _, rfl⟩ := List.mem_map.mp hx
  rfl
end XL
set_option Elab.async false
set_option linter.all false
set_option maxRecDepth 100000
set_option maxHeartbeats 4000000
/-! XLine: C(*row), a method within a try, zip with K said, classes of an own error. -/
namespace XL
open PySem PySem.Spec PyProof.Rows L2
section
variable {X : Cx} {CX : CXT} {k : Nat} {f C : Addr} {fd : FuncData} {ps : List Str} {ds : List Value} {dvs : List V} {sp : Sp} {x m : Str} {p pos apos sp_ : Pos} {e o : Expr} {es : List Expr} {te ta : TE} {t : TA}
def tMakeS (K : PySem.W.Frag) (C : Addr) (sp : Sp) (dvs : List V) (E : XK) (te : TE) : TE := fun σ H Q => te σ H fun y H1 => ∃ a xs, y = V.ref a ∧ (SqT K H1 a xs ∨ SqL K H1 a xs) ∧
  ∀ x dx, H1 x = none → H1 dx = none → dx ≠ x → sp (.ref x :: (xs ++ dvs)) (upd (upd H1 dx (.own x)) x (.ins C dx [])) (fun v H2 => v = .non ∧ Q (.ref x) H2) E
/-- C(*row) -/
theorem pe_makeS {E : XK} (K : PySem.W.Frag) (M : Mk X.K C f) (F : FnOk X.prog X.w X.K X.mg X.base CX k f fd ps sp) (hr : Room (k + 1) X.A) (hg : Gl X x) (hm : X.mg x = some (.ref C)) (hb : Binds X.K fd ps ds) (hd : Vals dvs ds) (hx : Passes CX X E) (he : PE X e te) (hK : X.K = K := by rfl) (hdb : (x == ("__debug__" : Str)) = false := by decide)
    (hst : starEach [.Starred e sp_] X.env = [(true, eval e X.env)] := by rfl) : PE X (.Call (.Name x p) [.Starred e sp_] [] pos) (tMakeS K C sp dvs E te) := by
  subst hK
  refine ⟨fun pins s σ H Q I h => ?_⟩
  refine wpAny_Call_Name_kw (ld_glob I hg hm ?_ hdb)
  refine PySem.W.callWith_S (h₀ := X.base) I.ok.mod.kin M.kp (thn (he.run pins s σ H _ I h) fun v s1 ⟨y, H1, I1, ry, a, xs, ey, hxs, q⟩ => ?_) hst
  subst ey
  obtain rfl : v = Value.ref a := ry
  exact StX.star_any I1 hxs fun us s2 I2 rv => ⟨I2.kIn, run_make M F hr hb hd hx I2 rv q⟩
def tMethS (C : Addr) (m : Str) (sp : Sp) (E : L2.St → XK) (ta : TE) (t : TA) : TE := fun σ H Q => ta σ H fun x H1 => ∃ a dx fs, x = .ref a ∧ H1 a = some (.ins C dx fs) ∧ fs.lookup m = none ∧
  t σ H1 fun vs H2 => sp (x :: vs) H2 Q (E σ)
/-- o.m(..) within a try -/
theorem pe_methT {E : L2.St → XK} {pl : Sem Bool} (he : PE X o ta) (c : Cls X.K C) (hm : Meth X.K C m f) (F : FnOk X.prog X.w X.K X.mg X.base CX k f fd ps sp) (hr : Room k X.A) (hb : Binds X.K fd ps []) (hx : ∀ σ, PassesAt CX X σ (E σ)) (ha : PA X (e :: es) t)
    (hst : starEach (e :: es) X.env = (false, eval e X.env) :: starEach es X.env := by rfl) (hpl : (backTo pos (starEach es X.env)).any (·.1) = false := by rfl)
    (ht : eval (.Call (.Attribute o m apos) (e :: es) [] pos) X.env = (do
      let ov ← eval o X.env
      standAt apos.atName
      let (f, first) ← holding [ov] (getMethod ov m pl)
      callWith pos f first (backTo pos (starEach (e :: es) X.env)) (backToKw pos (keywordEach [] X.env))) := by rfl) :
    PE X (.Call (.Attribute o m apos) (e :: es) [] pos) (tMethS C m sp E ta t) := by
  refine ⟨fun pins s σ H Q I h => ?_⟩
  refine PySem.W.methodCall_KW (pl := pl) (thn (he.run pins s σ H _ I h) fun u s1 ⟨x, H1, I1, rx, a, dx, fs, ex, ea, l, q⟩ => ?_) ht
  subst ex
  obtain rfl : u = Value.ref a := rx
  refine getmeth_ok I1 ea c hm l ?_
  refine PySem.W.callWith_K (first := [.ref a]) (h₀ := X.base) I.ok.mod.kin hm.kp (thn (ha.run pos pins s1 σ H1 _ I1 q) fun us s2 ⟨vs, H2, I2, r, q2⟩ => ⟨I2.kIn, ?_⟩) hst hpl
  exact run_fnS (us := .ref a :: us) (vs := .ref a :: vs) (E := E) F hr hb (hx σ) I2 (.cons rfl r) q2
theorem pe_methT0 {E : L2.St → XK} {pl : Sem Bool} (he : PE X o ta) (c : Cls X.K C) (hm : Meth X.K C m f) (F : FnOk X.prog X.w X.K X.mg X.base CX k f fd ps sp) (hr : Room k X.A) (hb : Binds X.K fd ps []) (hx : ∀ σ, PassesAt CX X σ (E σ))
    (ht : eval (.Call (.Attribute o m apos) [] [] pos) X.env = (do
      let ov ← eval o X.env
      standAt apos.atName
      let (f, first) ← holding [ov] (getMethod ov m pl)
      callWith pos f first (backTo pos (starEach [] X.env)) (backToKw pos (keywordEach [] X.env))) := by rfl) :
    PE X (.Call (.Attribute o m apos) [] [] pos) (tMethS C m sp E ta tNil) := by
  refine ⟨fun pins s σ H Q I h => ?_⟩
  refine PySem.W.methodCall_KW (pl := pl) (thn (he.run pins s σ H _ I h) fun u s1 ⟨x, H1, I1, rx, a, dx, fs, ex, ea, l, q⟩ => ?_) ht
  subst ex
  obtain rfl : u = Value.ref a := rx
  refine getmeth_ok I1 ea c hm l ?_
  exact PySem.W.callWith_K0 (first := [.ref a]) I1.kIn hm.kp (run_fnS (us := [.ref a]) (vs := [.ref a]) (E := E) F hr hb (hx σ) I1 (.cons rfl .nil) q)
theorem pi_zipK {e e2 : Expr} {ta : TA} {p pos tpos : Pos} {elts : List Expr} {kk : Nat} (K : PySem.W.Frag) (hg : Gl X "zip") (hm : X.mg "zip" = none) (ha : PA X [e, e2] ta) (hK : X.K = K := by rfl)
    (hs : starEach [e, e2] X.env = (false, eval e X.env) :: starEach [e2] X.env := by rfl) (hpl : (backTo pos (starEach [e2] X.env)).any (·.1) = false := by rfl) :
    PI X (.Tuple elts kk tpos) (.Call (.Name "zip" p) [e, e2] [] pos) (iZip K ta) := hK ▸ pi_zip hg hm ha hs hpl
end
theorem kit_ty_of {K : PySem.W.Frag} {D : Addr} {T : String} {b : Bool} (h1 : PySem.W.kitMeta T = true) (h2 : PySem.W.subIn K (.ref D) (.type T) = some b) : PySem.W.kitOne K (.ref D) (.type T) = some b := by
  show (if (Value.ref D == Value.type T) = true then some true else (if PySem.W.kitMeta T = true then PySem.W.subIn K (.ref D) (.type T) else none)) = some b
  rw [if_neg (fun h => by cases h), if_pos h1]
  exact h2
end XL
set_option Elab.async false
set_option linter.all false
set_option maxRecDepth 100000
set_option maxHeartbeats 4000000
/-! XHot: a def that raises nothing and walks nothing, called within an except suite. -/
namespace XL
open PySem PySem.Spec PyProof.Rows L2 L2H
/-- what a def promises there -/
structure FnQ (P : Program) (w : World) (K : PySem.W.Frag) (mg : Str → Option Value) (base : Heap) (k : Nat) (f : Addr) (fd : FuncData) (ps : List Str) (sp : Sp) : Prop where
  len : ∀ vs H Q E, sp vs H Q E → vs.length = ps.length
  run : ∀ (A : Around) (outer : List Env) (s : Shared) (H : Hp) (args : Args) (us : List Value) (vs : List V) (Q : VK) (E : XK) (p : Addr × Obj), RoomH k A → PinOk outer H s p → Env0 P w K mg base A outer s H → BindsTo s fd args (ps.zip us) → Vals vs us → sp vs H Q E →
    codeAny (model P w) A (.call (.ref f) args) (CR CX0 outer P w H s Q E) s
theorem okQ {P : Program} {w : World} {K : PySem.W.Frag} {mg : Str → Option Value} {base : Heap} {x qual : Str} {st : Stmt} {f : Addr} {fd : FuncData} {N ps : List Str} {k : Nat} {sp : Sp} (F : Fun K x qual st f fd) (S : FnScope N ps (defScope st)) (len : ∀ vs H Q E, sp vs H Q E → vs.length = ps.length)
    (hbody : ∀ (cdv : Value) (A : Around) (outer : List Env) (s : Shared) (H : Hp) (vs : List V) (Q : VK) (E : XK) (p : Addr × Obj), RoomH k (A.deeper (envOfC qual (defScope st) s.heap.objs.size f cdv)) → sp vs H Q E →
      ∃ t, PSs (cxH CX0 P w K mg base N qual (defScope st) f cdv A outer s H E p) (defBody st) t ∧ t { nx := fun _ H' => Q .non H', rt := Q } (L2.start N vs) H) : FnQ P w K mg base (k + 1) f fd ps sp := by
  obtain ⟨oc, od, kV, doc, pm, an, cdv, ct, osl, rfl, lk, hcd⟩ := F.ex
  refine ⟨len, fun A outer s H args us vs Q E p hr hpin e0 hb r hsp => ?_⟩
  have hl := len _ _ _ _ hsp
  have KX : K.In s.heap := e0.mod.kin.keeps fun b o e => (e0.bs b o e).1
  have lim : s.heap.NoLimit := e0.mod.nolimit.keeps fun b o e => (e0.bs b o e).1
  have hkind : ∀ y ∈ ps.zip us, (defScope st).names.lookup y.1 = some .local ∨ ((defScope st).names.lookup y.1 = some .cell ∧ ((cellsFrom (s.heap.objs.size + 1) (defScope st).names []).lookup y.1).isSome = true) := fun ⟨n, v⟩ hy => by
    rcases S.par n (List.of_mem_zip hy).1 with q | q
    · exact .inl q
    · exact .inr ⟨q, PySem.W.cellsFrom_some _ _ _ (.inl q)⟩
  refine codeAny_call_function hr.depth (KX _ _ lk) rfl S.co S.gen rfl (PySem.W.codeRec_of KX hcd) (hb _ _ _ _ ?_)
  refine wpAny_newFunctionEnv_cells S.kind hkind fun env he s1 x => ?_
  subst he
  refine ⟨lim.keeps x.toInCall.keep, codeAny_func ?_⟩
  obtain ⟨t, ht, hq⟩ := hbody cdv A outer s H vs Q E p (hr.deeper _) hsp
  have I : Inv (cxH CX0 P w K mg base N qual (defScope st) f cdv A outer s H E p) [] (L2.start N vs) H s1 := inv_startH S hpin e0 hl r x
  refine wpAny_mono (ht.run [] s1 (L2.start N vs) H _ I hq) (fun fl s' hs => ?_) fun e s' hs => hs
  have fin : ∀ {σ' : L2.St} {H' : Hp} {v : V} {u : Value}, Inv (cxH CX0 P w K mg base N qual (defScope st) f cdv A outer s H E p) [] σ' H' s' → RelV v u → Q v H' → CE outer P w H s Q u s' :=
    fun {σ' H' v u} J rv q => ⟨v, H', J.os, J.bare, J.base, J.hok, rv, q⟩
  cases fl with
  | ret u =>
    obtain ⟨v, σ', H', J, rv, q⟩ := hs
    exact fin J rv q
  | next =>
    obtain ⟨σ', H', J, q⟩ := hs
    exact fin (v := V.non) (u := Value.none) J rfl q
  | brk =>
    obtain ⟨_, _, _, q⟩ := hs
    exact False.elim q
  | cont =>
    obtain ⟨_, _, _, q⟩ := hs
    exact False.elim q
section
variable {X : Cx} {k : Nat} {f : Addr} {fd : FuncData} {ps : List Str} {sp : Sp} {E : XK} {x : Str} {q pos : Pos} {e : Expr} {es : List Expr} {t : TA}
theorem pe_callQ (F : FnQ X.prog X.w X.K X.mg X.base k f fd ps sp) (hr : RoomH k X.A) (hc : ∃ p, p ∈ X.pn) (hg : Gl X x) (hm : X.mg x = some (.ref f)) (hk : PySem.W.keepIn X.K (.ref f) = true) (hb : Binds X.K fd ps []) (hx : Passes CX0 X E)
    (ha : PA X (e :: es) t) (hdb : (x == ("__debug__" : Str)) = false := by decide) (he : starEach (e :: es) X.env = (false, eval e X.env) :: starEach es X.env := by rfl) (hpl : (backTo pos (starEach es X.env)).any (·.1) = false := by rfl) :
    PE X (.Call (.Name x q) (e :: es) [] pos) (fun σ H Q => t σ H fun vs H1 => sp vs H1 Q E) := by
  refine ⟨fun pins s σ H Q I h => ?_⟩
  refine wpAny_Call_Name_kw (ld_glob I hg hm ?_ hdb)
  refine PySem.W.callWith_K (h₀ := X.base) I.ok.mod.kin hk (thn (ha.run pos pins s σ H _ I h) fun us s1 ⟨vs, H1, I1, r, q⟩ => ⟨I1.kIn, ?_⟩) he hpl
  obtain ⟨p, hp⟩ := hc
  have hl : us.length = ps.length := by rw [← r.length]; exact F.len _ _ _ _ q
  have b := hb s1 us I1.kIn (by rw [List.append_nil]; exact hl)
  rw [List.append_nil] at b
  have P1 := I1.pin p (List.mem_append_left _ hp)
  have hpin : PinOk X.stack H1 s1 p := ⟨P1.1, P1.2.1, fun hm => (List.mem_cons.mp (I1.stkSub p.1 hm)).elim P1.2.2.1 P1.2.2.2.1, P1.2.2.2.2⟩
  refine wpAny_call (codeAny_mono (F.run X.A X.stack s1 H1 ⟨us, []⟩ us vs Q E p hr hpin I1.env0 b r q) fun r s' hq => ?_)
  cases r with
  | error e => exact hx pins σ _ _ e s' I1 hq
  | ok fl =>
    cases fl with
    | ret u => exact I1.after hq
    | next => exact False.elim hq
    | brk => exact False.elim hq
    | cont => exact False.elim hq
end
theorem roomQ {X : Cx} {k j : Nat} {a : Addr} {pn : List (Addr × Obj)} (hr : Room k X.A) (h : j ≤ k) : RoomH j (X.suite a pn).A := ⟨(hr.mono h).dp, (hr.mono h).un⟩
end XL
set_option Elab.async false
set_option linter.all false
set_option maxRecDepth 100000
set_option maxHeartbeats 4000000
/-! XGuard: defs that are called while no repr is under way (Around.guards is known to be empty); repr of data there. -/
namespace XL
open PySem PySem.Spec PyProof.Rows L2
/-- what a def promises when no repr is under way -/
structure FnG (P : Program) (w : World) (K : PySem.W.Frag) (mg : Str → Option Value) (base : Heap) (CX : CXT) (k : Nat) (f : Addr) (fd : FuncData) (ps : List Str) (sp : Sp) : Prop where
  len : ∀ vs H Q E, sp vs H Q E → vs.length = ps.length
  run : ∀ (A : Around) (outer : List Env) (s : Shared) (H : Hp) (args : Args) (us : List Value) (vs : List V) (Q : VK) (E : XK), Room k A → A.guards = some [] → Env0 P w K mg base A outer s H → BindsTo s fd args (ps.zip us) → Vals vs us → sp vs H Q E →
    codeAny (model P w) A (.call (.ref f) args) (CR CX outer P w H s Q E) s
section
variable {P : Program} {w : World} {K : PySem.W.Frag} {mg : Str → Option Value} {base : Heap} {CX : CXT}
theorem FnG.of {k : Nat} {f : Addr} {fd : FuncData} {ps : List Str} {sp : Sp} (F : FnOk P w K mg base CX k f fd ps sp) : FnG P w K mg base CX k f fd ps sp := ⟨F.len, fun A outer s H args us vs Q E hr _ => F.run A outer s H args us vs Q E hr⟩
theorem fnG_of {x qual : Str} {st : Stmt} {f : Addr} {fd : FuncData} {N ps : List Str} {k : Nat} {sp : Sp} (F : Fun K x qual st f fd) (S : FnScope N ps (defScope st)) (len : ∀ vs H Q E, sp vs H Q E → vs.length = ps.length)
    (hbody : ∀ (cdv : Value) (A : Around) (outer : List Env) (s : Shared) (H : Hp) (vs : List V) (Q : VK) (E : XK), Room k (A.deeper (envOfC qual (defScope st) s.heap.objs.size f cdv)) → A.guards = some [] → sp vs H Q E →
      ∃ t, PSs (cxOf CX P w K mg base N qual (defScope st) f cdv A outer s H E) (defBody st) t ∧ t { nx := fun _ H' => Q .non H', rt := Q } (L2.start N vs) H) : FnG P w K mg base CX (k + 1) f fd ps sp := by
  obtain ⟨oc, od, kV, doc, pm, an, cdv, ct, osl, rfl, lk, hcd⟩ := F.ex
  refine ⟨len, fun A outer s H args us vs Q E hr hg e0 hb r hsp => ?_⟩
  have hl := len _ _ _ _ hsp
  have KX : K.In s.heap := e0.mod.kin.keeps fun b o e => (e0.bs b o e).1
  have lim : s.heap.NoLimit := e0.mod.nolimit.keeps fun b o e => (e0.bs b o e).1
  have hkind : ∀ y ∈ ps.zip us, (defScope st).names.lookup y.1 = some .local ∨ ((defScope st).names.lookup y.1 = some .cell ∧ ((cellsFrom (s.heap.objs.size + 1) (defScope st).names []).lookup y.1).isSome = true) := fun ⟨n, v⟩ hy => by
    rcases S.par n (List.of_mem_zip hy).1 with q | q
    · exact .inl q
    · exact .inr ⟨q, PySem.W.cellsFrom_some _ _ _ (.inl q)⟩
  refine codeAny_call_function hr.depth (KX _ _ lk) rfl S.co S.gen rfl (PySem.W.codeRec_of KX hcd) (hb _ _ _ _ ?_)
  refine wpAny_newFunctionEnv_cells S.kind hkind fun env he s1 x => ?_
  subst he
  refine ⟨lim.keeps x.toInCall.keep, codeAny_func ?_⟩
  obtain ⟨t, ht, hq⟩ := hbody cdv A outer s H vs Q E (hr.deeper _) hg hsp
  have I : Inv (cxOf CX P w K mg base N qual (defScope st) f cdv A outer s H E) [] (L2.start N vs) H s1 := inv_start S hr.hd e0 hl r x
  refine wpAny_mono (ht.run [] s1 (L2.start N vs) H _ I hq) (fun fl s' hs => ?_) fun e s' hs => hs
  cases fl with
  | ret u =>
    obtain ⟨v, σ', H', J, rv, q⟩ := hs
    exact ⟨v, H', J.os, J.bare, J.base, J.hok, rv, q⟩
  | next =>
    obtain ⟨σ', H', J, q⟩ := hs
    exact ⟨V.non, H', J.os, J.bare, J.base, J.hok, rfl, q⟩
  | brk =>
    obtain ⟨_, _, _, q⟩ := hs
    exact False.elim q
  | cont =>
    obtain ⟨_, _, _, q⟩ := hs
    exact False.elim q
/-- a def that raises nothing -/
theorem okG {x qual : Str} {st : Stmt} {f : Addr} {fd : FuncData} {N ps : List Str} {k : Nat} {sp : Sp} (F : Fun K x qual st f fd) (S : FnScope N ps (defScope st)) (len : ∀ vs H Q E, sp vs H Q E → vs.length = ps.length)
    (hbody : ∀ (cdv : Value) (A : Around) (outer : List Env) (s : Shared) (H : Hp) (vs : List V) (Q : VK) (E : XK), Room k (A.deeper (envOfC qual (defScope st) s.heap.objs.size f cdv)) → A.guards = some [] → sp vs H Q E →
      ∃ t, PSs (cxOf CX0 P w K mg base N qual (defScope st) f cdv A outer s H E).nox (defBody st) t ∧ t { nx := fun _ H' => Q .non H', rt := Q } (L2.start N vs) H) : FnG P w K mg base CX0 (k + 1) f fd ps sp :=
  fnG_of F S len fun cdv A outer s H vs Q E hr hg hsp => let ⟨t, h, q⟩ := hbody cdv A outer s H vs Q E hr hg hsp; ⟨t, h.nox, q⟩
end
section
variable {X : Cx} {CX : CXT} {k : Nat} {f : Addr} {fd : FuncData} {ps : List Str} {sp : Sp} {E : XK} {x : Str} {p pos : Pos} {e : Expr} {es : List Expr} {t : TA}
theorem run_fnG {pins : List (Addr × Obj)} {σ : L2.St} {H : Hp} {s : Shared} {Q : VK} {us : List Value} {vs : List V} (F : FnG X.prog X.w X.K X.mg X.base CX k f fd ps sp) (hr : Room k X.A) (hg : X.A.guards = some []) (hb : Binds X.K fd ps []) (hx : Passes CX X E)
    (I : Inv X pins σ H s) (r : Vals vs us) (h : sp vs H Q E) : wpAny (model X.prog X.w) X.A (call (.ref f) us) (EP X pins σ Q) X.xe s := by
  have hl : us.length = ps.length := by rw [← r.length]; exact F.len _ _ _ _ h
  have b := hb s us I.kIn (by rw [List.append_nil]; exact hl)
  rw [List.append_nil] at b
  refine wpAny_call (codeAny_mono (F.run X.A X.stack s H ⟨us, []⟩ us vs Q E hr hg I.env0 b r h) fun r s' hq => ?_)
  cases r with
  | error e => exact hx pins σ _ _ e s' I hq
  | ok fl =>
    cases fl with
    | ret u => exact I.after hq
    | next => exact False.elim hq
    | brk => exact False.elim hq
    | cont => exact False.elim hq
theorem pe_callG (F : FnG X.prog X.w X.K X.mg X.base CX k f fd ps sp) (hr : Room k X.A) (hg : X.A.guards = some []) (hgl : Gl X x) (hm : X.mg x = some (.ref f)) (hk : PySem.W.keepIn X.K (.ref f) = true) (hb : Binds X.K fd ps []) (hx : Passes CX X E)
    (ha : PA X (e :: es) t) (hdb : (x == ("__debug__" : Str)) = false := by decide) (he : starEach (e :: es) X.env = (false, eval e X.env) :: starEach es X.env := by rfl) (hpl : (backTo pos (starEach es X.env)).any (·.1) = false := by rfl) :
    PE X (.Call (.Name x p) (e :: es) [] pos) (fun σ H Q => t σ H fun vs H1 => sp vs H1 Q E) := by
  refine ⟨fun pins s σ H Q I h => ?_⟩
  refine wpAny_Call_Name_kw (ld_glob I hgl hm ?_ hdb)
  refine PySem.W.callWith_K (h₀ := X.base) I.ok.mod.kin hk (thn (ha.run pos pins s σ H _ I h) fun us s1 ⟨vs, H1, I1, r, q⟩ => ⟨I1.kIn, ?_⟩) he hpl
  exact run_fnG F hr hg hb hx I1 r q
theorem u70 {k : Nat} {A : Around} (r : Room k A) : A.units + 70 < cLine := by have := r.un; omega
/-- repr of data -/
def rRepr (K : PySem.W.Frag) : List V → Hp → VK → Prop := fun xs H Q => ∃ v d, xs = [v] ∧ Dp K H v d ∧ d.showable = true ∧ d.hasDict = false ∧ d.depth ≤ 64 ∧ d.shown.length ≤ sizeLine ∧ Q (.str d.shown) H
theorem call_reprG (K : PySem.W.Frag) (hg : X.A.guards = some []) (hu : X.A.units + 70 < cLine) (hK : X.K = K := by rfl) : CallR X (.builtin "repr") (rRepr K) := by
  subst hK
  intro pins s σ H xs us Q I r h
  obtain ⟨v, d, rfl, hd, h1, h2, h3, h4, q⟩ := h
  obtain ⟨u, rfl, ru⟩ : ∃ u, us = [u] ∧ RelV v u := by
    cases r with
    | cons a b =>
      cases b
      exact ⟨_, rfl, a⟩
  obtain ⟨as, rd⟩ := Dp.reads I d v u hd ru
  have big : ∀ a : Addr, u = .ref a → wpAny (model X.prog X.w) X.A (call (.builtin "repr") [u]) (EP X pins σ Q) X.xe s := by
    rintro a rfl
    exact repr_of_reads' rd h1 (PyData.noDict_hsm h2) hg (by omega) (fun _ _ e => e) (fun h' t tk hk => ⟨.str d.shown, H, I.kept hk, ⟨_, rfl⟩, q⟩) h4
  cases hd with
  | non =>
    cases ru
    exact PySem.P.repr_of_none ⟨.str _, H, I.tok _, ⟨_, rfl⟩, by simpa only [PyData.shown] using q⟩
  | bl b =>
    cases ru
    exact PySem.P.repr_of_bool ⟨.str _, H, I.tok _, ⟨_, rfl⟩, by simpa only [PyData.shown] using q⟩
  | int i =>
    obtain ⟨t, rfl⟩ := ru
    exact PySem.P.repr_of_int (by simpa [PyData.showable] using h1) ⟨.str _, H, I.tok _, ⟨_, rfl⟩, by simpa only [PyData.shown] using q⟩
  | str x =>
    obtain ⟨t, rfl⟩ := ru
    exact PySem.P.repr_of_str ⟨.str _, H, I.tok _, ⟨_, rfl⟩, by simpa only [PyData.shown] using q⟩ (by simpa only [PyData.shown] using h4)
  | lst _ _ => exact big _ ru
  | tup _ _ => exact big _ ru
end
/-! ### the law's own call -/
theorem law_callG {P : Program} {w : World} {K : PySem.W.Frag} {mg mb : Str → Option Value} {CX : CXT} {k : Nat} {fa a : Addr} {fd : FuncData} {x : Str} {sp : Sp} {s₁ : Shared} {vs : List Value} {ns : List Int}
    (KX : K.In s₁.heap) (hns : s₁.heap.Ns mainGlobals mg) (hb : s₁.heap.Ns builtinsNs mb) (hbb : ∀ x : Str, x ≠ "__name__" → mb x = bootBuiltins x) (hlim : s₁.heap.NoLimit) (hg : s₁.gens = #[])
    (ha : s₁.heap.get? a = some { cls := .type "list", data := .seq vs.toArray }) (hi : IntsAre vs ns) (hl : ns.length ≤ sizeLine) (hr : Room k callerA)
    (F : ∀ base : Heap, K.In base → base.Ns mainGlobals mg → FnG P w K mg base CX k fa fd [x] sp) (hbind : ∀ (s : Shared) (u : Value), BindsTo s fd ⟨[u], []⟩ [(x, u)])
    (hsp : ∀ H : Hp, Only H → SqL K H a (ns.map V.int) → sp [.ref a] H (fun v _ => v = .bl true) fun _ _ _ => False)
    (hCX : ∀ H e s', CX [] H s₁ (fun _ _ _ => False) e s' → False) :
    codeAny (model P w) callerA (.call (.ref fa) ⟨[.ref a], []⟩) (fun r s' => r = .ok (.ret (.bool true)) ∧ OldK s₁.heap s'.heap ∧ s'.os = s₁.os ∧ AllBare s'.gens) s₁ := by
  have rv := vals_ints hi
  have lenV := hi.length
  -- nothing is tracked but the script
  have main : ∀ H : Hp, (∀ b, H b = none ∨ (b = a ∧ K.lookup a = none ∧ H b = some (.frz { cls := .type "list", data := .seq vs.toArray } (.lst (ns.map V.int))))) → SqL K H a (ns.map V.int) → HOk P w H s₁.heap →
      codeAny (model P w) callerA (.call (.ref fa) ⟨[.ref a], []⟩) (fun r s' => r = .ok (.ret (.bool true)) ∧ OldK s₁.heap s'.heap ∧ s'.os = s₁.os ∧ AllBare s'.gens) s₁ := by
    intro H hH hS hok
    have nsK : ∀ {b : Addr} {m : Str → Option Value}, s₁.heap.Ns b m → (hidT s₁.heap H).Ns b m := fun {b m} ⟨o, es, ep, e, d, r⟩ => by
      refine ⟨o, es, ep, hidT_get e ?_, d, r⟩
      rcases hH b with z | ⟨z, _⟩
      · exact z
      · rw [z, ha] at e
        cases e
        cases d
    have hKb : K.In (hidT s₁.heap H) := fun b o e => hidT_get (KX b o e) (by
      rcases hH b with z | ⟨z, z2, _⟩
      · exact z
      · rw [z, z2] at e
        cases e)
    have hM : Mod K mg (hidT s₁.heap H) := ⟨hKb, nsK hns, ⟨mb, nsK hb, hbb⟩, let ⟨mc, h1, h2⟩ := hlim; ⟨mc, nsK h1, h2⟩⟩
    have e0 : Env0 P w K mg (hidT s₁.heap H) callerA [] s₁ H := ⟨rfl, hM, fun b o e => of_hidT e, Nat.le_of_eq (hidT_size _ _), trivial, fun b hb => (nomatch hb), hok, .of_eq hg⟩
    have hO : Only H := fun b => (hH b).imp id fun z => ⟨_, _, z.2.2⟩
    refine codeAny_mono ((F _ hKb (nsK hns)).run callerA [] s₁ H ⟨[.ref a], []⟩ [.ref a] [.ref a] _ _ hr rfl e0 (hbind s₁ (.ref a)) (.cons rfl .nil) (hsp H hO hS)) fun r s' h => ?_
    cases r with
    | error e => exact (hCX H e s' h).elim
    | ok fl =>
      cases fl with
      | next => exact False.elim h
      | brk => exact False.elim h
      | cont => exact False.elim h
      | ret u =>
        obtain ⟨v, H', os, bare, un, hok', r', q⟩ := h
        have q' : v = .bl true := q
        subst q'
        obtain rfl : u = Value.bool true := r'
        refine ⟨rfl, OldK.of_keep fun b o e => ?_, os, bare⟩
        rcases hH b with z | ⟨_, _, z⟩
        · exact un.keep b o e z (fun y => nomatch y) (by simp)
        · obtain ⟨e1, _⟩ := hok b _ z
          obtain ⟨e2, _⟩ := hok' b _ (un.frzs b _ _ z)
          rw [e] at e1
          cases e1
          exact e2
  cases hk : K.lookup a with
  | some o =>
    have e := KX a o hk
    rw [ha] at e
    cases e
    exact main (fun _ => none) (fun _ => .inl rfl) (.inr ⟨_, vs.toArray, _, hk, rfl, rfl, rfl, by rw [List.size_toArray, lenV]; exact hl, by simpa using rv⟩) (fun b u z => nomatch z)
  | none =>
    refine main (fun b => if b = a then some (.frz { cls := .type "list", data := .seq vs.toArray } (.lst (ns.map V.int))) else none) (fun b => ?_) (.inl (.inr ⟨{ cls := .type "list", data := .seq vs.toArray }, if_pos rfl⟩)) (fun b u z => ?_)
    · by_cases hb : b = a
      · exact .inr ⟨hb, hk, if_pos hb⟩
      · exact .inl (if_neg hb)
    · by_cases hb : b = a
      · have z' := (if_pos hb).symm.trans z
        cases z'
        subst hb
        exact ⟨ha, by rw [List.length_map]; exact hl, vs, _, rv, ha⟩
      · have z' := (if_neg hb).symm.trans z
        cases z'
theorem walk_ofG {l : PySem.W.OpenLaw} {n k : Nat} {q : Program} {loose : List Str} {XP : (Str → Option Value) → Heap → Prop} {YP : World → Heap → Prop} {d : DefRec} {K : Params → PySem.W.Frag} {CX : World → CXT} {sp : World → Sp} {x : Str}
    (hn : l.most = some n) (hn2 : n ≤ sizeLine) (hdf : d.params.defaults = []) (hr : Room k callerA)
    (hY : ∀ (w : World) (h : Heap), YP w h → (K w.params).In h)
    (F : ∀ (w : World) (mg : Str → Option Value) (fa : Addr) (h : Heap), (K w.params).In h → h.Ns mainGlobals mg → mg d.name = some (.ref fa) →
      ∃ fd : FuncData, (∀ (s : Shared) (u : Value), BindsTo s fd ⟨[u], []⟩ [(x, u)]) ∧
        ∀ base : Heap, (K w.params).In base → base.Ns mainGlobals mg → FnG l.prog w (K w.params) mg base (CX w) k fa fd [x] (sp w))
    (hsp : ∀ (w : World) (H : Hp) (a : Addr) (ns : List Int), ns.length ≤ n → Only H → SqL (K w.params) H a (ns.map V.int) → sp w [.ref a] H (fun v _ => v = .bl true) fun _ _ _ => False)
    (hCX : ∀ (w : World) (H : Hp) (s : Shared) (e : Value) (s' : Shared), CX w [] H s (fun _ _ _ => False) e s' → False) :
    PySem.W.WalkO q loose XP YP l.row.toRowW d [] (fun f vs => PySem.call f vs) := by
  refine Att.attach_call hn hdf fun w s₀ s₁ mg mb fa o pm cd doc a vs ns G Y ho hd hcd hmg hobj hints hlen hg => ?_
  have KX := hY w _ Y
  obtain ⟨fd, hb, hF⟩ := F w mg fa _ KX G.T.g hmg
  exact law_callG KX G.T.g G.T.b G.T.builtins G.T.nolimit hg hobj hints (Nat.le_trans hlen hn2) hr hF hb (fun H hO hS => hsp w H a ns hlen hO hS) fun H e s' => hCX w H s₁ e s'
end XL
set_option Elab.async false
set_option linter.all false
set_option maxRecDepth 100000
set_option maxHeartbeats 4000000
/-! XStar: defs with a star parameter, called with plain arguments. -/
namespace XL
open PySem PySem.Spec PyProof.Rows L2
/-! ### list.extend of a tuple -/
theorem ext_tup (l : Addr) (items : Array Value) (n : Nat) (b : Addr) (items2 : Array Value) (n2 : Nat) (dc : Option Addr) (sl : Array (Option Value)) (hs0 : ¬(!items.isEmpty && Builtin.List.listTooLong (items.size + items2.size)) = true) (hs1 : items.size ≤ sizeLine) (hs2 : items.size + items2.size ≤ sizeLine + 1) :
    Meets (Builtin.«list.extend» ⟨[.ref l, .ref b], []⟩) (fun _ R s => s.heap.get? l = some { cls := .type "list", dict := none, data := .seq items n, slots := #[] } ∧ s.heap.get? b = some { cls := .type "tuple", dict := dc, data := .seq items2 n2, slots := sl } ∧ R (.ok (.ret Value.none)) { s with heap := s.heap.update l (Obj.mapSeq fun x => x ++ items2), toks := s.toks }) :=
  .of_wp fun prog w A R s h => by
    obtain ⟨hp, g, d, tk, os⟩ := s
    obtain ⟨hl, hb, h⟩ := h
    have f1 := AutoSeq1.idx_int; have f2 := AutoSeq1.sub_tuple_tuple; have f3 := AutoSeq1.sub_list_list; have f4 := AutoSeq1.sub_tuple_list; have f5 := AutoSeq1.sub_list_tuple
    have hz' : (items ++ items2).size ≤ sizeLine + 1 := by rw [Array.size_append]; exact hs2
    wp_walk using (wpAny_updateSeq hl rfl (hz := hs1) (_hz' := hz')), wpAny_loadPart' hl, wpAny_loadPart' hb
    exact ⟨_, rfl, h⟩
def rExtT (K : PySem.W.Frag) : V → List V → Hp → VK → Prop := fun x vs H Q => ∃ l b xs zs, x = .ref l ∧ vs = [.ref b] ∧ H l = some (.lst xs) ∧ SqT K H b zs ∧ xs.length + zs.length ≤ sizeLine ∧ Q .non (upd H l (.lst (xs ++ zs)))
theorem mt_extT {X : Cx} (K : PySem.W.Frag) (hK : X.K = K := by rfl) : MtM X "list.extend" (rExtT K) := by
  subst hK
  intro pins s σ H x vs v us Q I rx rv h
  obtain ⟨l, b, xs, zs, rfl, rfl, hH, hB, hz, q⟩ := h
  cases rx
  obtain ⟨u, rfl, ru⟩ := rv.one
  cases ru
  obtain ⟨z, its, n, r, hl, e⟩ := I.lstM hH
  obtain ⟨its2, r2, ⟨o2, e2, c2, n2, d2⟩, z2⟩ := I.tuple hB
  have hl2 := r2.length
  obtain ⟨oc, od, odt, osl⟩ := o2
  simp only at c2 d2
  subst c2 d2
  have hsz : its.toArray.size + its2.toArray.size ≤ sizeLine := by rw [List.size_toArray, List.size_toArray]; omega
  have hlong : ¬ (!its.toArray.isEmpty && Builtin.List.listTooLong (its.toArray.size + its2.toArray.size)) = true := by
    rw [notLongL hsz, Bool.and_false]
    exact Bool.false_ne_true
  refine call_meets F.slot_list_extend ⟨_, e, rfl⟩ F.entry_list_extend (F.args_list_extend_2 _ _)
    (ext_tup l its.toArray n b its2.toArray n2 od osl hlong (by rw [List.size_toArray]; omega) (by omega)) ⟨e, e2, ?_⟩
  refine ⟨.non, _, I.lset (its' := its ++ its2) hH e (by simp) (r.append r2) ?_, rfl, q⟩
  rw [List.length_append]
  omega
/-- what a def with a star parameter binds -/
def BindsS (fd : FuncData) (ps : List Str) (pv : Str) : Prop := ∀ us rest : List Value, us.length = ps.length → bindArgs fd ⟨us ++ rest, []⟩ = (newTuple rest >>= fun t => pure (ps.zip us ++ [(pv, t)]))
/-- the promise of a def with a star parameter, from that of its body -/
def spS (n : Nat) (sp : Sp) : Sp := fun vs H Q E => ∃ ws rest, vs = ws ++ rest ∧ ws.length = n ∧ rest.length ≤ sizeLine ∧ ∀ p, H p = Option.none → sp (ws ++ [V.ref p]) (upd H p (.tup rest)) Q E
section
variable {P : Program} {w : World} {K : PySem.W.Frag} {mg : Str → Option Value} {base : Heap}
theorem okS {x qual : Str} {st : Stmt} {f : Addr} {fd : FuncData} {N ps : List Str} {pv : Str} {k : Nat} {sp : Sp} (F : Fun K x qual st f fd) (S : FnScope N (ps ++ [pv]) (defScope st)) (hb : BindsS fd ps pv)
    (hbody : ∀ (cdv : Value) (A : Around) (outer : List Env) (s : Shared) (H : Hp) (vs : List V) (Q : VK) (E : XK), Room k (A.deeper (envOfC qual (defScope st) s.heap.objs.size f cdv)) → sp vs H Q E →
      ∃ t, PSs (cxOf CX0 P w K mg base N qual (defScope st) f cdv A outer s H E).nox (defBody st) t ∧ t { nx := fun _ H' => Q .non H', rt := Q } (L2.start N vs) H) : FnR P w K mg base CX0 (k + 1) f (spS ps.length sp) := by
  obtain ⟨oc, od, kV, doc, pm, an, cdv, ct, osl, rfl, lk, hcd⟩ := F.ex
  refine StX.fn_star (pv := pv) (ps := ps) lk hcd S StX.cxUp_none hb fun A outer s H vs Q E hr hsp => ?_
  obtain ⟨t, h, q⟩ := hbody cdv A outer s H vs Q E hr hsp
  exact ⟨t, h.nox, q⟩
end
section
variable {X : Cx} {CX : CXT} {k : Nat} {f : Addr} {sp : Sp} {E : XK} {x : Str} {p pos : Pos} {e : Expr} {es : List Expr} {t : TA}
/-- x(e, ..) by a positional promise -/
theorem pe_callP (F : FnR X.prog X.w X.K X.mg X.base CX k f sp) (hr : Room k X.A) (hgl : Gl X x) (hm : X.mg x = some (.ref f)) (hk : PySem.W.keepIn X.K (.ref f) = true) (hx : Passes CX X E)
    (ha : PA X (e :: es) t) (hdb : (x == ("__debug__" : Str)) = false := by decide) (he : starEach (e :: es) X.env = (false, eval e X.env) :: starEach es X.env := by rfl) (hpl : (backTo pos (starEach es X.env)).any (·.1) = false := by rfl) :
    PE X (.Call (.Name x p) (e :: es) [] pos) (fun σ H Q => t σ H fun vs H1 => sp vs H1 Q E) := by
  refine ⟨fun pins s σ H Q I h => ?_⟩
  refine wpAny_Call_Name_kw (ld_glob I hgl hm ?_ hdb)
  refine PySem.W.callWith_K (h₀ := X.base) I.ok.mod.kin hk (thn (ha.run pos pins s σ H _ I h) fun us s1 ⟨vs, H1, I1, r, q⟩ => ⟨I1.kIn, ?_⟩) he hpl
  exact wpAny_call (run_fnR F hr hx I1 r q)
/-- x() -/
theorem pe_callP0 (F : FnR X.prog X.w X.K X.mg X.base CX k f sp) (hr : Room k X.A) (hgl : Gl X x) (hm : X.mg x = some (.ref f)) (hk : PySem.W.keepIn X.K (.ref f) = true) (hx : Passes CX X E) (hdb : (x == ("__debug__" : Str)) = false := by decide) :
    PE X (.Call (.Name x p) [] [] pos) (fun _ H Q => sp [] H Q E) := by
  refine ⟨fun pins s σ H Q I h => ?_⟩
  refine wpAny_Call_Name_kw (ld_glob I hgl hm ?_ hdb)
  exact PySem.W.callWith_K0 I.kIn hk (wpAny_call (run_fnR (us := []) F hr hx I .nil h))
end
section
variable {B : List Value → Sem (List (Str × Value))} {p1 p2 p3 p4 pv : Str}
theorem bindS0 (h0 : B [] = (newTuple [] >>= fun t => pure [(pv, t)])) (h1 : ∀ r rs, B (r :: rs) = (newTuple (r :: rs) >>= fun t => pure [(pv, t)])) :
    ∀ us rest : List Value, us.length = ([] : List Str).length → B (us ++ rest) = (newTuple rest >>= fun t => pure (([] : List Str).zip us ++ [(pv, t)]))
  | [], [], _ => h0
  | [], r :: rs, _ => h1 r rs
theorem bindS1 (h0 : ∀ a, B [a] = (newTuple [] >>= fun t => pure [(p1, a), (pv, t)])) (h1 : ∀ a r rs, B (a :: r :: rs) = (newTuple (r :: rs) >>= fun t => pure [(p1, a), (pv, t)])) :
    ∀ us rest : List Value, us.length = [p1].length → B (us ++ rest) = (newTuple rest >>= fun t => pure ([p1].zip us ++ [(pv, t)]))
  | [a], [], _ => h0 a
  | [a], r :: rs, _ => h1 a r rs
theorem bindS4 (h0 : ∀ a b c d, B [a, b, c, d] = (newTuple [] >>= fun t => pure [(p1, a), (p2, b), (p3, c), (p4, d), (pv, t)])) (h1 : ∀ a b c d r rs, B (a :: b :: c :: d :: r :: rs) = (newTuple (r :: rs) >>= fun t => pure [(p1, a), (p2, b), (p3, c), (p4, d), (pv, t)])) :
    ∀ us rest : List Value, us.length = [p1, p2, p3, p4].length → B (us ++ rest) = (newTuple rest >>= fun t => pure ([p1, p2, p3, p4].zip us ++ [(pv, t)]))
  | [a, b, c, d], [], _ => h0 a b c d
  | [a, b, c, d], r :: rs, _ => h1 a b c d r rs
end
end XL
set_option Elab.async false
set_option linter.all false
set_option maxRecDepth 100000
set_option maxHeartbeats 4000000
/-! XTree: t[::-1] of a tuple; == of data of more levels; objects whose own __iter__ hands on iter(l), l a list. -/
namespace XL
open PySem PySem.Spec PyProof.Rows L2
section
variable {prog : Program} {w : World} {A : Around} {E : Value → Shared → Prop} {s : Shared}
theorem applied_rev {sl : Addr} {t : Tok} {n : Nat} {Q : Int × Int × Nat → Shared → Prop} (hs : s.heap.IsSliceOf sl .none .none (.int (-1) t)) (h : Q ((n : Int) - 1, -1, n) s) :
    wpAny (model prog w) A (Builtin.Slice.sliceApplied (.ref sl) (pure (n : Int))) Q E s := by
  obtain ⟨os, hos, hcs, hds⟩ := id hs
  unfold Builtin.Slice.sliceApplied Builtin.Slice.sliceFields
  refine wpAny_bind (wpAny_bind (wpAny_field hos hds (x := .none) rfl (wpAny_bind (wpAny_field hos hds (x := .none) rfl (wpAny_bind (wpAny_field hos hds (x := .int (-1) t) rfl (wpAny_pure ?_)))))))
  refine wpAny_bind (HT.slicePart_ (.int (-1) t) ?_)
  show wpAny _ _ (if ((-1 : Int) == 0) = true then _ else _) _ _ s
  rw [if_neg (by decide)]
  refine wpAny_bind (HT.slicePart_ .none (wpAny_bind (HT.slicePart_ .none (wpAny_bind (wpAny_pure ?_)))))
  show wpAny _ _ (pure ((n : Int) - 1, (-1 : Int), Builtin.Slice.slicePlaces ((n : Int) - 1) (-1) (-1))) _ _ s
  have e : Builtin.Slice.slicePlaces ((n : Int) - 1) (-1) (-1) = n := by
    unfold Builtin.Slice.slicePlaces
    have h1 : ¬ ((-1 : Int) > 0) := by decide
    simp only [h1, if_false]
    split
    · rw [show (- -1 : Int) = 1 by decide, Int.ediv_one]
      omega
    · omega
  rw [e]
  exact wpAny_pure h
theorem fm_congr {α β : Type} {f g : α → Option β} : ∀ {l : List α}, (∀ x ∈ l, f x = g x) → l.filterMap f = l.filterMap g
  | [], _ => rfl
  | x :: l, h => by
    rw [List.filterMap_cons, List.filterMap_cons, h x List.mem_cons_self, fm_congr (l := l) fun y hy => h y (List.mem_cons_of_mem _ hy)]
theorem pick_rev (xs : Array Value) : ((List.range xs.size).filterMap fun (k : Nat) => xs[(((xs.size : Int) - 1) + (k : Int) * (-1)).toNat]?).toArray = xs.toList.reverse.toArray := by
  have z := PySem.W.krv_pick xs
  rw [← z]
  unfold slicePick
  rw [PySem.W.krv_bounds]
  show _ = ((sliceRange ((xs.size : Int) - 1) (-1) (-1)).filterMap (xs[·]?)).toArray
  rw [PySem.W.krv_sliceRange, List.filterMap_map]
  congr 1
  refine fm_congr fun k hk => ?_
  have := List.mem_range.mp hk
  have e : (((xs.size : Int) - 1) + (k : Int) * (-1)).toNat = xs.size - 1 - k := by omega
  show xs[_]? = xs[xs.size - 1 - k]?
  rw [e]
theorem getItem_tuple_rev {t sl : Addr} {tk : Tok} {items : Array Value} {Q : Value → Shared → Prop} (ht : IsTup s.heap t items) (hs : s.heap.IsSliceOf sl .none .none (.int (-1) tk))
    (h : Q (.ref s.heap.objs.size) { s with heap := s.heap.push { cls := .type "tuple", data := .seq items.toList.reverse.toArray } }) (hsz : items.size ≤ sizeLine) : wpAny (model prog w) A (getItem (.ref t) (.ref sl)) Q E s := by
  have htake : sizeOk (.seq items.toList.reverse.toArray) := by
    show items.toList.reverse.toArray.size ≤ sizeLine
    rw [List.size_toArray, List.length_reverse, Array.length_toList]
    exact hsz
  obtain ⟨os, hos, hcs, hds⟩ := id hs
  have hTs : s.TypeIs (.ref sl) "slice" := ⟨os, hos, hcs⟩
  unfold getItem
  try with_reducible refine wpAny_holding ?_
  first | refine wpAny_bind (wpAny_pure ?_) | skip
  refine wpAny_bind (wpAny_sequenceKey ht.typeIs (by decide) ?_)
  refine wpAny_bind (wpAny_callSpecial?_slot (name := Str.ofString "__getitem__") ht.typeIs PyProof.Rows.slot_tuple_getitem
    (wpAny_call_entry PyProof.Rows.slot_tuple_getitem ht.typeIs entry_tuple_getitem ?_ (args_tuple_getitem _ _)))
  show wpAny _ _ (Builtin.Tuple.tupleItemsOf (.ref t) >>= _) _ _ s
  refine wpAny_bind (tupleItemsOf_ ht ?_)
  refine wpAny_bind (wpAny_typeOf hTs ?_)
  rw [if_pos (by decide)]
  refine wpAny_bind (applied_rev hs ?_)
  have hno : ¬ (((items.size : Int) - 1 == 0 && (-1 : Int) == 1 && items.size == items.size) = true) := by
    intro q
    rw [Bool.and_eq_true, Bool.and_eq_true] at q
    exact absurd q.1.2 (by decide)
  show wpAny _ _ (if ((items.size : Int) - 1 == 0 && (-1 : Int) == 1 && items.size == items.size) = true then _ else _) _ _ s
  rw [if_neg hno, pick_rev]
  first
    | exact wpAny_bind (m := Builtin.Tuple.tupleExact _) (wpAny_newObj_type (wpAny_pure ⟨_, rfl, wpAny_pure h⟩) htake)
    | exact wpAny_bind (m := Builtin.Tuple.tupleExact _) (wpAny_newObj_type (wpAny_bind (wpAny_pure (wpAny_pure ⟨_, rfl, wpAny_pure h⟩))) htake)
    | exact wpAny_bind (wpAny_bind (m := Builtin.Tuple.tupleExact _) (wpAny_newObj_type (wpAny_pure (wpAny_pure ⟨_, rfl, wpAny_pure h⟩)) htake))
    | exact wpAny_bind (wpAny_bind (m := Builtin.Tuple.tupleExact _) (wpAny_newObj_type (wpAny_pure ⟨_, rfl, wpAny_pure h⟩) htake))
end
def tRevT (K : PySem.W.Frag) (te : TE) : TE := fun σ H Q => te σ H fun x H1 => ∃ a xs, x = .ref a ∧ SqT K H1 a xs ∧ ∀ p, H1 p = none → Q (.ref p) (upd H1 p (.tup xs.reverse))
theorem pe_revT {X : Cx} {e m : Expr} {te : TE} {p2 pos : Pos} (he : PE X e te) (hm : PE X m (tC (.int (-1)))) : PE X (.Subscript e (.Slice none none (some m) p2) pos) (tRevT X.K te) := by
  refine ⟨fun pins s σ H Q I h => ?_⟩
  refine Subscript_ (thn (he.run pins s σ H _ I h) fun v s1 ⟨x, H1, I1, r1, q1⟩ => ?_)
  refine wpAny_Slice (wpAny_evalPart_none (wpAny_evalPart_none (wpAny_evalPart_some (thn (hm.run pins s1 σ H1 (fun y H2 => y = .int (-1) ∧ H2 = H1) I1 ⟨rfl, rfl⟩) fun vm s3 ⟨y, H3, I3, r3, ey, eH⟩ => ?_))))
  subst ey eH
  obtain ⟨t, rfl⟩ := r3
  obtain ⟨a, xs, rfl, hx, q⟩ := q1
  cases r1
  have I4 : L2.Inv X pins σ H3 { s3 with heap := s3.heap.push { cls := .type "slice", data := .fields #[.none, .none, .int (-1) t] } } := I3.kept (t' := s3.toks) fun b ob q => Heap.get?_push_of_some _ q
  obtain ⟨its, r, ht, hz⟩ := I4.tuple hx
  have hlen := r.length
  show wpAny (model X.prog X.w) X.A (subscriptTail e (.Slice none none (some m) p2) (.ref a) (.ref s3.heap.objs.size)) (EP X pins σ Q) X.xe { s3 with heap := s3.heap.push { cls := .type "slice", data := .fields #[.none, .none, .int (-1) t] } }
  refine tail_any (ops := [.ref a, .ref s3.heap.objs.size]) ht.typeIs PyProof.Rows.slot_tuple_getitem.lookup ?_ (by with_unfolding_all rfl)
  refine getItem_tuple_rev ht (Heap.IsSliceOf.new ..) ?_ (by rw [List.size_toArray] <;> omega)
  refine ⟨.ref _, _, I4.laid (t' := s3.toks) (o := .tup xs.reverse) (fun b ob q => Heap.get?_push_of_some _ q) (Nat.le_refl _) ?_, rfl, q _ (I4.hok.fresh (Nat.le_refl _))⟩
  exact ⟨by rw [List.length_reverse]; exact hz, its.reverse, r.reverse, ⟨_, Heap.get?_push_size _ rfl, rfl, _, rfl⟩⟩
theorem pe_revTK {X : Cx} {e m : Expr} {te : TE} {p2 pos : Pos} (K : PySem.W.Frag) (he : PE X e te) (hm : PE X m (tC (.int (-1)))) (h : X.K = K := by rfl) : PE X (.Subscript e (.Slice none none (some m) p2) pos) (tRevT K te) := h ▸ pe_revT he hm
/-! ### == of data of up to 190 levels -/
def rEqL (K : PySem.W.Frag) : R2 := fun x y H Q => ∃ d e, Dp K H x d ∧ Dp K H y e ∧ d.canLay0 = true ∧ e.canLay0 = true ∧ d.depth ≤ 190 ∧ Q (.bl (PyData.eqv d e)) H
theorem op_eqL {X : Cx} (K : PySem.W.Frag) (hu : X.A.units + 190 < cLine) (hK : X.K = K := by rfl) : OpR X (compareOp .Eq) (rEqL K) := by
  subst hK
  intro pins s σ H x y v u Q I rx ry h
  obtain ⟨d, e, hd, he, sd, se, dp, q⟩ := h
  obtain ⟨as, r1⟩ := Dp.reads I d x v hd rx
  obtain ⟨bs, r2⟩ := Dp.reads I e y u he ry
  exact SeqAt.compareEq_reads r1 r2 sd se (by have := Nat.min_le_left d.depth e.depth; omega) ⟨.bl _, H, I, rfl, q⟩
/-! ### a promise that knows how large the heap was -/
structure FnY (P : Program) (w : World) (K : PySem.W.Frag) (mg : Str → Option Value) (base : Heap) (CX : CXT) (k : Nat) (f : Addr) (fd : FuncData) (ps : List Str) (sp : Nat → Sp) : Prop where
  len : ∀ n vs H Q E, sp n vs H Q E → vs.length = ps.length
  run : ∀ (A : Around) (outer : List Env) (s : Shared) (H : Hp) (args : Args) (us : List Value) (vs : List V) (Q : VK) (E : XK), Room k A → Env0 P w K mg base A outer s H → BindsTo s fd args (ps.zip us) → Vals vs us → sp s.heap.objs.size vs H Q E →
    codeAny (model P w) A (.call (.ref f) args) (CR CX outer P w H s Q E) s
section
variable {P : Program} {w : World} {K : PySem.W.Frag} {mg : Str → Option Value} {base : Heap} {CX : CXT}
theorem fnY_of {x qual : Str} {st : Stmt} {f : Addr} {fd : FuncData} {N ps : List Str} {k : Nat} {sp : Nat → Sp} (F : Fun K x qual st f fd) (S : FnScope N ps (defScope st)) (len : ∀ n vs H Q E, sp n vs H Q E → vs.length = ps.length)
    (hbody : ∀ (cdv : Value) (A : Around) (outer : List Env) (s : Shared) (H : Hp) (vs : List V) (Q : VK) (E : XK), Room k (A.deeper (envOfC qual (defScope st) s.heap.objs.size f cdv)) → sp s.heap.objs.size vs H Q E →
      ∃ t, PSs (cxOf CX P w K mg base N qual (defScope st) f cdv A outer s H E) (defBody st) t ∧ t { nx := fun _ H' => Q .non H', rt := Q } (L2.start N vs) H) : FnY P w K mg base CX (k + 1) f fd ps sp := by
  obtain ⟨oc, od, kV, doc, pm, an, cdv, ct, osl, rfl, lk, hcd⟩ := F.ex
  refine ⟨len, fun A outer s H args us vs Q E hr e0 hb r hsp => ?_⟩
  have hl := len _ _ _ _ _ hsp
  have KX : K.In s.heap := e0.mod.kin.keeps fun b o e => (e0.bs b o e).1
  have lim : s.heap.NoLimit := e0.mod.nolimit.keeps fun b o e => (e0.bs b o e).1
  have hkind : ∀ y ∈ ps.zip us, (defScope st).names.lookup y.1 = some .local ∨ ((defScope st).names.lookup y.1 = some .cell ∧ ((cellsFrom (s.heap.objs.size + 1) (defScope st).names []).lookup y.1).isSome = true) := fun ⟨n, v⟩ hy => by
    rcases S.par n (List.of_mem_zip hy).1 with q | q
    · exact .inl q
    · exact .inr ⟨q, PySem.W.cellsFrom_some _ _ _ (.inl q)⟩
  refine codeAny_call_function hr.depth (KX _ _ lk) rfl S.co S.gen rfl (PySem.W.codeRec_of KX hcd) (hb _ _ _ _ ?_)
  refine wpAny_newFunctionEnv_cells S.kind hkind fun env he s1 x => ?_
  subst he
  refine ⟨lim.keeps x.toInCall.keep, codeAny_func ?_⟩
  obtain ⟨t, ht, hq⟩ := hbody cdv A outer s H vs Q E (hr.deeper _) hsp
  have I : Inv (cxOf CX P w K mg base N qual (defScope st) f cdv A outer s H E) [] (L2.start N vs) H s1 := inv_start S hr.hd e0 hl r x
  refine wpAny_mono (ht.run [] s1 (L2.start N vs) H _ I hq) (fun fl s' hs => ?_) fun e s' hs => hs
  cases fl with
  | ret u =>
    obtain ⟨v, σ', H', J, rv, q⟩ := hs
    exact ⟨v, H', J.os, J.bare, J.base, J.hok, rv, q⟩
  | next =>
    obtain ⟨σ', H', J, q⟩ := hs
    exact ⟨V.non, H', J.os, J.bare, J.base, J.hok, rfl, q⟩
  | brk =>
    obtain ⟨_, _, _, q⟩ := hs
    exact False.elim q
  | cont =>
    obtain ⟨_, _, _, q⟩ := hs
    exact False.elim q
theorem okY {x qual : Str} {st : Stmt} {f : Addr} {fd : FuncData} {N ps : List Str} {k : Nat} {sp : Nat → Sp} (F : Fun K x qual st f fd) (S : FnScope N ps (defScope st)) (len : ∀ n vs H Q E, sp n vs H Q E → vs.length = ps.length)
    (hbody : ∀ (cdv : Value) (A : Around) (outer : List Env) (s : Shared) (H : Hp) (vs : List V) (Q : VK) (E : XK), Room k (A.deeper (envOfC qual (defScope st) s.heap.objs.size f cdv)) → sp s.heap.objs.size vs H Q E →
      ∃ t, PSs (cxOf CX0 P w K mg base N qual (defScope st) f cdv A outer s H E).nox (defBody st) t ∧ t { nx := fun _ H' => Q .non H', rt := Q } (L2.start N vs) H) : FnY P w K mg base CX0 (k + 1) f fd ps sp :=
  fnY_of F S len fun cdv A outer s H vs Q E hr hsp => let ⟨t, h, q⟩ := hbody cdv A outer s H vs Q E hr hsp; ⟨t, h.nox, q⟩
end
/-! ### for x in o, o an object whose own __iter__ hands on iter(l) -/
theorem dropH_upd {H : Hp} {a : Addr} {o : HO} (h : H a = none) : ItX.dropH (upd H a o) a = H := by
  funext b
  by_cases e : b = a
  · rw [e, ItX.dropH_same, h]
  · rw [ItX.dropH_ne e, upd_ne e]
def iOwnL (K : PySem.W.Frag) (C : Addr) (sp : Nat → Sp) (E : XK) (te : TE) : TI := fun σ H R => te σ H fun x H1 => ∃ a dx fs, x = .ref a ∧ H1 a = some (.ins C dx fs) ∧
  ∀ n, sp n [.ref a] H1 (fun v H2 => ∃ (it l : Addr), v = .ref it ∧ n ≤ it ∧ H2 it = some (ItO l it 0) ∧ R (Itl K l) (ItX.dropH H2 it)) E
theorem pi_ownL {X : Cx} {CX : CXT} {C f : Addr} {fd : FuncData} {ps : List Str} {sp : Nat → Sp} {E : XK} {n : Nat} {tg e : Expr} {te : TE} (he : PE X e te) (F : FnY X.prog X.w X.K X.mg X.base CX n f fd ps sp)
    (hs : PySem.W.findIn X.K (.ref C) "__iter__" = some (some (.ref f))) (hfn : PySem.W.isFn X.K (.ref f) = true) (hb : Binds X.K fd ps []) (hx : Passes CX X E) (hr : Room n X.A) : PI X tg e (iOwnL X.K C sp E te) := by
  refine ⟨fun pins s σ H R I h => ?_⟩
  refine thn (he.run pins s σ H _ I h) fun u s1 ⟨x, H1, I1, r1, a, dx, fs, ex, ha, hsp0⟩ => ?_
  subst ex
  cases r1
  have hsp := hsp0 s1.heap.objs.size
  obtain ⟨mA, J, _⟩ := ins_get I1.hok ha
  obtain ⟨od, J, _⟩ := J.look
  obtain ⟨m0, hF⟩ := I1.fr
  refine PySem.W.owit_iter hF I1.ok.mod.kin J hs hfn ?_
  have hl := F.len _ _ _ _ _ hsp
  refine wpAny_call (codeAny_mono (F.run X.A X.stack s1 H1 ⟨[.ref a], []⟩ [.ref a] [.ref a] _ E hr I1.env0 (by
    have := hb s1 [.ref a] I1.kIn (by simpa using hl)
    simpa using this) (.cons rfl .nil) hsp) fun r s' hq => ?_)
  cases r with
  | error e => exact hx pins σ _ _ e s' I1 hq
  | ok fl =>
    cases fl with
    | next => exact False.elim hq
    | brk => exact False.elim hq
    | cont => exact False.elim hq
    | ret u =>
      obtain ⟨v, H', I', rv, it, l, ev, young, hit, hR⟩ := I1.after hq
      subst ev
      cases rv
      have eo := itO_get I' hit
      have st : s'.heap.IsListIter it l 0 := ⟨_, eo, rfl, rfl⟩
      show wpAny _ _ (specialOf (.ref it) "__next__") _ _ _
      refine wpAny_specialOf st.typeIs slot_listiter_next.lookup ?_
      have hi' := hit
      unfold ItO at hi'
      refine ⟨it, [it], _, _, ItX.dropH H' it, rfl, ItX.inv_drop I' hi', turn_list l it, st, fun b hb => ?_, hR⟩
      have e : b = it := by simpa using hb
      rw [e]
      exact ItX.inv_fp I' hit (Nat.le_trans I1.sz young)
theorem pi_ownLK {X : Cx} {CX : CXT} {C f : Addr} {fd : FuncData} {ps : List Str} {sp : Nat → Sp} {E : XK} {n : Nat} {tg e : Expr} {te : TE} (K : PySem.W.Frag) (he : PE X e te) (F : FnY X.prog X.w X.K X.mg X.base CX n f fd ps sp)
    (hs : PySem.W.findIn X.K (.ref C) "__iter__" = some (some (.ref f))) (hfn : PySem.W.isFn X.K (.ref f) = true) (hb : Binds X.K fd ps []) (hx : Passes CX X E) (hr : Room n X.A) (h : X.K = K := by rfl) : PI X tg e (iOwnL K C sp E te) := h ▸ pi_ownL he F hs hfn hb hx hr
/-! ### list(o) -/
theorem next_lst_end {P : Program} {w : World} {A : Around} {E : Value → Shared → Prop} {s : Shared} {it t : Addr} {i : Nat} {items : Array Value} {Q : Option Value → Shared → Prop} (hh : A.handled = none)
    (hit : s.heap.IsListIter it t i) (ht : s.heap.IsList t items) (hx : items[i]? = none)
    (hQ : ∀ h', Heap.ExtBut it s.heap h' → (∃ o, h'.get? it = some o) → Q none { s with heap := h' }) : wpAny (model P w) A (pyNext (.ref it)) Q E s := by
  obtain ⟨o, ho, hc, hd⟩ := id hit
  obtain ⟨ol, hol, _, nl, hdl⟩ := ht
  unfold pyNext
  refine wpAny_bind (wpAny_attempt (wpAny_callSpecial?_slot (name := Str.ofString "__next__") hit.typeIs slot_listiter_next (wpAny_call_entry slot_listiter_next hit.typeIs entry_listiter_next ?_ (args_listiter_next _))))
  show wpAny _ _ (field (.ref it) 0 >>= _) _ _ s
  refine wpAny_bind (wpAny_field ho hd (x := .ref t) rfl (PySem.W.KFB.if_not rfl ?_))
  show wpAny _ _ (field (.ref it) 1 >>= _) _ _ s
  refine wpAny_bind (wpAny_field ho hd (x := .int i 0) rfl ?_)
  show wpAny _ _ (seqItems? (.ref t) >>= _) _ _ s
  refine wpAny_bind (wpAny_seqItems hol hdl ?_)
  simp only [Int.toNat_natCast, hx]
  refine wpAny_bind (wpAny_rule (wpAny_bind (wpAny_setField ho hd (by simp) ?_)))
  show wpAny _ _ (newExc (.type "StopIteration") [] >>= _) _ _ _
  refine wpAny_bind ?_
  simp only [newExc, newTuple]
  refine wpAny_bind (wpAny_newObj_type ?_ (by size_fits))
  refine wpAny_bind (m := firstArgMember _ _) (wpAny_of_eq (a := Value.none) (by first | rfl | (simp only [firstArgMember]; rfl)) ?_)
  refine wpAny_newObj_type ?_ (by size_fits)
  simp only [raiseNew]
  refine wpAny_bind (wpAny_handled ?_)
  first | rw [show A.in1.handled = none from hh] | rw [hh]
  refine wpAny_bind (wpAny_pure (wpAny_throw ?_))
  refine wpAny_bind (wpAny_isInstance (T := "StopIteration") (b := true) ⟨_, Heap.get?_push_size _ rfl, rfl⟩ isSubtype_stop ?_)
  exact wpAny_pure (hQ _ (((Heap.SameBut.update ..).extBut.push _).push _) ⟨_, Heap.get?_push_of_some _ (Heap.get?_push_of_some _ (Heap.get?_update_self _ ho (Obj.isFreed_of_fields (Obj.data_mapFields hd _))))⟩)
def ItL (l it : Addr) (i : Nat) : HO := .ext fun h => h.IsListIter it l i
theorem itL_ok {P : Program} {w : World} {H : Hp} {h : Heap} {t it : Addr} {i : Nat} (e : h.IsListIter it t i) : ObjOk P w H h it (ItL t it i) := by
  obtain ⟨o, ho, r⟩ := id e
  exact ⟨e, ⟨_, ho⟩, fun g1 g2 q k => q.at fun o e => k o e⟩
section
variable {X : Cx} {pins : List (Addr × Obj)} {σ : L2.St} {H : Hp} {s : Shared}
theorem itL_get {t it : Addr} {i : Nat} (I : Inv X pins σ H s) (e : H it = some (ItL t it i)) : s.heap.IsListIter it t i := (I.hok it _ e).1
/-- the loop that fills the list at q -/
theorem loop_lst {A1 : Around} {Rs : Result → Shared → Prop} {q it t : Addr} {zs : List V} (hd : A1.in1.handled = none) (hne : q ≠ it) :
    ∀ (k i : Nat) (H : Hp) (s : Shared), zs.length - i = k → i ≤ zs.length → Inv X pins σ H s → H it = some (ItL t it i) → it ≠ t → q ≠ t → H t = some (.lst zs) → H q = some (.lst (zs.take i)) →
      (∀ s', Inv X pins σ (upd (upd H it (ItTE it)) q (.lst zs)) s' → Rs (.ok (.ret .none)) s') → codeAny (model X.prog X.w) A1 (.builtin "list.extend.loop" ⟨[.ref q, .ref it, .none], []⟩) Rs s := by
  intro k
  induction k with
  | zero =>
    intro i H s hk hi I hit nit nqt ht hq hR
    obtain ⟨its, rv, pl, hz⟩ := I.list (SqL.of ht)
    have hin : zs.length = its.length := rv.length
    have mu : Mut (H it) := by rw [hit]; exact True.intro
    refine codeAny_builtin PySem.F.entry_extend_loop ?_
    rw [Around.under_plainId PySem.F.plain_extend_loop _]
    show wpAny _ A1.in1 (pyNext (.ref it) >>= _) _ _ s
    have ei : i = zs.length := by omega
    refine wpAny_bind (next_lst_end hd (itL_get I hit) pl.isList (by rw [List.getElem?_toArray]; exact List.getElem?_eq_none (by omega)) fun h' eb ⟨o, ho⟩ => wpAny_pure ?_)
    have I2 : Inv X pins σ (upd H it (ItTE it)) { s with heap := h' } := I.write (x := it) (e := it) (t' := s.toks) mu (.inl rfl) (fun b o nb z => eb b o nb z) ⟨_, ho⟩ (itTE_ok ho)
    refine hR _ ?_
    have e : upd (upd H it (ItTE it)) q (.lst zs) = upd H it (ItTE it) := by
      funext b
      by_cases hb : b = q
      · rw [hb, upd_same, upd_ne hne, hq, ei, List.take_length]
      · rw [upd_ne hb]
    rw [e]
    exact I2
  | succ k ih =>
    intro i H s hk hi I hit nit nqt ht hq hR
    obtain ⟨its, rv, pl, hz⟩ := I.list (SqL.of ht)
    have hin : zs.length = its.length := rv.length
    have mu : Mut (H it) := by rw [hit]; exact True.intro
    have hlt : i < zs.length := by omega
    have hzi := List.getElem?_eq_getElem hlt
    obtain ⟨u, hu, ru⟩ := rv.get hzi
    refine codeAny_builtin PySem.F.entry_extend_loop ?_
    rw [Around.under_plainId PySem.F.plain_extend_loop _]
    show wpAny _ A1.in1 (pyNext (.ref it) >>= _) _ _ s
    refine wpAny_bind (wpAny_pyNext_list_item (itL_get I hit) pl.isList (by rw [List.getElem?_toArray]; exact hu) fun h' hit' sb => ?_)
    obtain ⟨o, ho, _⟩ := id hit'
    have I2 : Inv X pins σ (upd H it (ItL t it (i + 1))) { s with heap := h' } := I.write (x := it) (e := it) (t' := s.toks) mu (.inl rfl) (fun b o nb z => (sb.2 b nb).trans z) ⟨_, ho⟩ (itL_ok hit')
    have hq2 : upd H it (ItL t it (i + 1)) q = some (.lst (zs.take i)) := by rw [upd_ne hne]; exact hq
    show wpAny _ A1.in1 (updateSeq q (·.push u) >>= _) _ _ _
    obtain ⟨z, its2, c, r2, hl, e⟩ := I2.lstM hq2
    have l2 : its2.length ≤ 16777215 := by
      rw [← hl, List.length_take]
      have := hz
      rw [sizeLine_eq] at this
      omega
    refine wpAny_bind (wpAny_updateSeq e rfl (wpAny_pure ⟨plainId_quiet PySem.F.plain_extend_loop _, ?_⟩) (by rw [List.size_toArray, sizeLine_eq]; omega) (by show (its2.toArray.push u).size ≤ sizeLine + 1; rw [Array.size_push, List.size_toArray, sizeLine_eq]; omega))
    have I3 := I2.lset (f := (·.push u)) (its' := its2 ++ [u]) (ys := zs.take i ++ [zs[i]]) (t' := s.toks) hq2 e (by simp) (r2.append (.cons ru .nil)) (by rw [List.length_append, List.length_singleton, List.length_take, sizeLine_eq]; rw [sizeLine_eq] at hz; omega)
    refine ih (i + 1) _ _ (by omega) (by omega) I3 ?_ nit nqt ?_ ?_ fun s' I4 => hR s' ?_
    · rw [upd_ne (Ne.symm hne), upd_same]
    · rw [upd_ne (Ne.symm nqt), upd_ne (Ne.symm nit)]
      exact ht
    · rw [upd_same, take_snoc hzi]
    · have e4 : upd (upd (upd (upd H it (ItL t it (i + 1))) q (.lst (zs.take i ++ [zs[i]]))) it (ItTE it)) q (.lst zs) = upd (upd H it (ItTE it)) q (.lst zs) := by
        funext b
        by_cases hb : b = q
        · rw [hb, upd_same, upd_same]
        · rw [upd_ne hb, upd_ne hb]
          by_cases hb2 : b = it
          · rw [hb2, upd_same, upd_same]
          · rw [upd_ne hb2, upd_ne hb2, upd_ne hb, upd_ne hb2]
      rw [← e4]
      exact I4
def rListItL (C : Addr) (sp : Nat → Sp) (E : XK) : List V → Hp → VK → Prop := fun xs H Q => ∃ a dx fs, xs = [.ref a] ∧ H a = some (.ins C dx fs) ∧
  ∀ q n, H q = none → sp n [.ref a] (upd H q (.lst [])) (fun v H1 => ∃ (it t : Addr) (zs : List V), v = .ref it ∧ H1 it = some (ItO t it 0) ∧ it ≠ t ∧ q ≠ t ∧ H1 t = some (.lst zs) ∧ H1 q = some (.lst []) ∧ (∃ dx' fs', H1 a = some (.ins C dx' fs')) ∧ Q (.ref q) (upd (upd H1 it (ItTE it)) q (.lst zs))) E
theorem call_listItL {C f : Addr} {fd : FuncData} {ps : List Str} {sp : Nat → Sp} {E : XK} {n : Nat} {CX : CXT} (hs : PySem.W.findIn X.K (.ref C) "__iter__" = some (some (.ref f))) (hfn : PySem.W.isFn X.K (.ref f) = true) (n1 : PySem.W.findIn X.K (.ref C) "__len__" = some none) (n2 : PySem.W.findIn X.K (.ref C) "__length_hint__" = some none)
    (F : FnY X.prog X.w X.K X.mg X.base CX n f fd ps sp) (hb : Binds X.K fd ps []) (hx : Passes CX X E) (hr : Room (n + 2) X.A) : CallR X (.type "list") (rListItL C sp E) := by
  intro pins s σ H xs us Q I rv h
  obtain ⟨a, dx, fs, rfl, ha, hq⟩ := h
  obtain ⟨u, rfl, ru⟩ := rv.one
  cases ru
  have sb : Sub X n X.A.in1.in1 := (Sub.in1 (Sub.in1 (⟨hr, rfl⟩ : Sub X (n + 2) X.A)))
  refine callType_codes (Q₁ := fun obj s₁ => obj = .ref s.heap.objs.size ∧ s₁ = { s with heap := s.heap.push { cls := .type "list", data := .seq #[] } }) PySem.F.called_list (PySem.F.typeCall_list_1 _) PySem.F.entry_list_init
    (code_list_new _ ⟨rfl, rfl⟩) fun obj s₁ h₁ => ?_
  obtain ⟨rfl, rfl⟩ := h₁
  have hS : (s.heap.push { cls := .type "list", data := .seq #[] }).get? s.heap.objs.size = some { cls := .type "list", data := .seq #[] } := Heap.get?_push_size _ rfl
  refine ⟨⟨_, hS, rfl⟩, PySem.F.args_list_init_2 _ _, ?_⟩
  have fr : H s.heap.objs.size = none := I.hok.fresh (Nat.le_refl _)
  have hsp := fun n => hq _ n fr
  have I1 : Inv X pins σ (upd H s.heap.objs.size (.lst [])) { s with heap := s.heap.push { cls := .type "list", data := .seq #[] } } := I.lnew (its := []) (t' := s.toks) .nil (Nat.zero_le _)
  show wpAny _ _ (do let old ← Builtin.List.listItems (.ref s.heap.objs.size); Builtin.List.listUpdate (.ref s.heap.objs.size) (fun _ => #[]); letGo old.toList.reverse; Builtin.List.listExtendWith (.ref s.heap.objs.size) (.ref a) .none) _ _ _
  refine wpAny_bind ?_
  unfold Builtin.List.listItems
  refine wpAny_bind (wpAny_seqItems hS rfl (wpAny_pure ?_))
  show wpAny _ _ (updateSeq s.heap.objs.size (fun _ => #[]) >>= fun _ => letGo (#[] : Array Value).toList.reverse >>= fun _ => Builtin.List.listExtendWith (.ref s.heap.objs.size) (.ref a) .none) _ _ _
  refine wpAny_bind (wpAny_updateSeq hS rfl ?_)
  have I2 := I1.lset (f := fun _ => #[]) (its := []) (its' := []) (ys := []) (t' := s.toks) upd_same hS rfl .nil (Nat.zero_le _)
  rw [upd_upd] at I2
  refine wpAny_bind (wpAny_letGo ?_)
  have ha2 : upd H s.heap.objs.size (.lst []) a = some (.ins C dx fs) := by rw [upd_ne (ne_of_none ha fr)]; exact ha
  have hne : s.heap.objs.size ≠ a := Ne.symm (ne_of_none ha fr)
  generalize hH2 : upd H s.heap.objs.size (.lst []) = H2 at *
  generalize s.heap.objs.size = q at *
  obtain ⟨mA, J, _⟩ := ins_get I2.hok ha2
  obtain ⟨od, J, _⟩ := J.look
  obtain ⟨m0, hF⟩ := I2.fr
  unfold Builtin.List.listExtendWith
  refine wpAny_bind (J.type.here ?_)
  have h1 : Builtin.List.listSameRef (.ref q) (.ref a) = false := by simp [Builtin.List.listSameRef, hne]
  have h2 : (Value.ref C == Value.type "list") = false := rfl
  have h3 : (Value.ref C == Value.type "tuple") = false := rfl
  simp only [h1, h2, h3, Bool.or_false, Bool.false_eq_true, if_false]
  refine wpAny_bind (PySem.W.owit_iter hF I2.ok.mod.kin J hs hfn ?_)
  have e0 : ∀ {s : Shared} {H : Hp}, Inv X pins σ H s → Env0 X.prog X.w X.K X.mg X.base X.A.in1.in1 X.stack s H := fun {s H} I => by
    have e := I.env0
    exact ⟨by rw [sb.fr]; exact e.frames, e.mod, e.bs, e.bsz, e.funs, e.frf, e.hok, e.bare⟩
  have hl := F.len _ _ _ _ _ (hsp 0)
  have r2 : Vals [V.ref a] [Value.ref a] := .cons rfl .nil
  refine wpAny_call (codeAny_mono (F.run X.A.in1.in1 X.stack _ _ ⟨[.ref a], []⟩ [.ref a] [.ref a] _ E sb.room (e0 I2) (by
    have := hb _ [.ref a] I2.kIn (by simpa using hl)
    simpa using this) r2 (hsp _)) fun r s' hq' => ?_)
  cases r with
  | error e => exact hx pins σ _ _ e s' I2 hq'
  | ok fl =>
    cases fl with
    | next => exact False.elim hq'
    | brk => exact False.elim hq'
    | cont => exact False.elim hq'
    | ret u =>
      obtain ⟨v, H', I', rv, it, t, zs, ev, hit, nit, nqt, ht, hqq, ⟨dx', fs', ha'⟩, hQ⟩ := I2.after hq'
      subst ev
      cases rv
      have stt : ∀ s'', Inv X pins σ H' s'' → s''.heap.IsListIter it t 0 := fun s'' I'' => ⟨_, itO_get I'' hit, rfl, rfl⟩
      have hT : s'.TypeIs (.ref it) "list_iterator" := (stt s' I').typeIs
      have hqi : q ≠ it := fun z => by
        rw [z, hit] at hqq
        exact (nomatch hqq)
      show wpAny _ _ (specialOf (.ref it) "__next__") _ _ _
      refine wpAny_specialOf hT slot_listiter_next.lookup ?_
      obtain ⟨mA', J', _⟩ := ins_get I'.hok ha'
      obtain ⟨od', J', _⟩ := J'.look
      refine wpAny_bind (wpAny_holding (hint_own n1 n2 I'.kIn J' ?_))
      have go : ∀ s'', Inv X pins σ H' s'' → codeAny (model X.prog X.w) X.A.in1 (.builtin "list.extend.loop" ⟨[.ref q, .ref it, .none], []⟩) (wants (fun r s₂ => r = .none ∧ EP X pins σ Q (.ref q) s₂) X.xe) s'' := fun s'' I'' =>
by
        have mu : Mut (H' it) := by rw [hit]; exact True.intro
        obtain ⟨oi, ei, _⟩ := id (stt s'' I'')
        have I5 : Inv X pins σ (upd H' it (ItL t it 0)) s'' := I''.write (x := it) (e := it) (t' := s''.toks) mu (.inl rfl) (fun b o nb z => z) ⟨_, ei⟩ (itL_ok (stt s'' I''))
        refine loop_lst (t := t) (zs := zs) sb.room.hd hqi zs.length 0 _ s'' (by simp) (Nat.zero_le _) I5 upd_same nit nqt (by rw [upd_ne (Ne.symm nit)]; exact ht) (by rw [upd_ne hqi, hqq]; rfl) fun s3 I3 => ?_
        rw [upd_upd] at I3
        exact ⟨rfl, .ref q, _, I3, rfl, hQ⟩
      obtain ⟨z, its, k, r3, hl3, e3⟩ := I'.lstM hqq
      cases r3
      refine wpAny_ite_split (fun _ => ?_) (fun _ => wpAny_pure ⟨plainId_quiet PySem.F.plain_extend_loop _, go s' I'⟩)
      refine wpAny_bind (wpAny_rule ?_)
      refine wpAny_bind ?_
      show wpAny _ _ (updateSeq q (·.push .none) >>= fun _ => updateSeq q (·.pop)) _ _ _
      refine wpAny_bind (wpAny_updateSeq e3 rfl ?_)
      have I3 := I'.lset (f := (·.push Value.none)) (its' := [Value.none]) (ys := [.non]) (t' := s'.toks) hqq e3 (by simp) (.cons rfl .nil) (by rw [List.length_singleton, sizeLine_eq]; decide)
      obtain ⟨z4, its4, k4, r4, hl4, e4⟩ := I3.lstM upd_same
      obtain ⟨u4, rfl, ru4⟩ := r4.one
      refine wpAny_updateSeq e4 rfl ?_ (by show 1 ≤ sizeLine; rw [sizeLine_eq]; decide) (by show 0 ≤ sizeLine + 1; exact Nat.zero_le _)
      have I4 := I3.lset (f := (·.pop)) (its := [u4]) (its' := []) (ys := []) (t' := s'.toks) upd_same e4 (by rfl) .nil (Nat.zero_le _)
      rw [upd_upd] at I4
      have hH : upd H' q (.lst []) = H' := by
        funext b
        by_cases hb : b = q
        · rw [hb, upd_same, hqq]
        · rw [upd_ne hb]
      rw [hH] at I4
      exact wpAny_pure ⟨plainId_quiet PySem.F.plain_extend_loop _, go _ I4⟩
end
theorem u190 {k : Nat} {A : Around} (r : Room k A) : A.units + 190 < cLine := by have := r.un; omega
end XL
set_option Elab.async false
set_option linter.all false
set_option maxRecDepth 100000
set_option maxHeartbeats 4000000
/-! XFoc: o.f = v by an own property's setter; C(..) within a try; a call that raises within a def that lets it out; a written tuple. -/
namespace XL
open PySem PySem.Spec PyProof.Rows L2
structure PSet (K : PySem.W.Frag) (C : Addr) (f : Str) (p g : Addr) : Prop where
  tk : PySem.W.takerIn K C f = some (some (.ref p))
  ty : PySem.W.typeIn K (.ref p) = some (.type "property")
  rec_ : ∃ a rest, PySem.W.recIn K p "property" = some (a :: .ref g :: rest)
def sPSet (C : Addr) (sp : Sp) (E : XK) (ta tv : TE) : TS := fun D σ H => tv σ H fun y H1 => ta σ H1 fun x H2 => ∃ a dx fs, x = .ref a ∧ H2 a = some (.ins C dx fs) ∧ sp [.ref a, y] H2 (fun _ H3 => D.nx σ H3) E
section
variable {X : Cx} {CX : CXT} {k : Nat} {C p g : Addr} {f : Str} {fd : FuncData} {ps : List Str} {sp : Sp} {E : XK} {o value : Expr} {pos pos' : Pos} {ta tv : TE}
theorem Room.in2 {k : Nat} {A : Around} (r : Room (k + 2) A) : Room k A.in1.in1 := (Room.in1 (Room.in1 r))
/-- o.f = v, f a property with a setter -/
theorem ps_pset (ha : PE X o ta) (hv : PE X value tv) (c : Cls X.K C) (hp : PSet X.K C f p g) (F : FnOk X.prog X.w X.K X.mg X.base CX k g fd ps sp) (hr : Room (k + 2) X.A) (hb : Binds X.K fd ps []) (hx : Passes CX X E)
    (hs : swapsWith value (some (.Attribute o f pos')) pos.line X.env = pure false) : PS X (.Assign [.Attribute o f pos'] value pos) (sPSet C sp E ta tv) := by
  refine ⟨fun pins s σ H D I h => ?_⟩
  refine plainObj_wpAny_Assign_Attribute (thn (hv.run pins s σ H _ I h) fun u s1 ⟨y, H1, I1, ry, q⟩ => thn (ha.run pins s1 σ H1 _ I1 q) fun ov s2 ⟨x, H2, I2, rx, a, dx, fs, ex, ea, q2⟩ => ?_) hs
  subst ex
  obtain rfl : ov = Value.ref a := rx
  obtain ⟨mA, O, _, _, _, _⟩ := ins_get I2.hok ea
  obtain ⟨od, J, _⟩ := O.look
  obtain ⟨a0, rest, hrec⟩ := hp.rec_
  have I3 := I2.tok (s2.toks + 1)
  have hl : ([Value.ref a, u] : List Value).length = ps.length := by
    rw [← F.len _ _ _ _ q2]
    rfl
  refine PySem.W.set_plain I2.kIn J c.sa (PySem.W.osa_descr PySem.W.KF.slot_pset I3.kIn J c.po hp.tk hp.ty (PySem.W.prop_set I3.kIn hrec ?_))
  have b := hb { s2 with toks := s2.toks + 1 } [.ref a, u] I3.kIn (by rw [List.append_nil]; exact hl)
  rw [List.append_nil] at b
  refine codeAny_mono (F.run X.A.in1.in1 X.stack { s2 with toks := s2.toks + 1 } H2 ⟨[.ref a, u], []⟩ [.ref a, u] [.ref a, y] _ E (Room.in2 hr) I3.env0.in1.in1 b (.cons rfl (.cons ry .nil)) q2) fun r s' hq => ?_
  cases r with
  | error e => exact hx pins σ _ _ e s' I3 hq
  | ok fl =>
    cases fl with
    | ret u =>
      obtain ⟨v, H', I', rv, q3⟩ := I3.after hq
      exact ⟨σ, H', I', q3⟩
    | next => exact False.elim hq
    | brk => exact False.elim hq
    | cont => exact False.elim hq
end
/-- what leaves a def by its own promise -/
theorem passO {X : Cx} {E : XK} (tk : Takes X (fun cls d _ H => E cls d H)) : Passes (L2.CX X.prog X.w) X E := fun pins σ H s e s' I c => passes_call tk (fun _ _ _ _ h => h) pins σ H s e s' I c
section
variable {X : Cx} {CX : CXT} {k : Nat} {f C : Addr} {fd : FuncData} {ps : List Str} {ds : List Value} {dvs : List V} {sp : Sp} {E : L2.St → XK} {x : Str} {p pos : Pos} {e : Expr} {es : List Expr} {t : TA}
theorem run_makeT {pins : List (Addr × Obj)} {σ : L2.St} {H : Hp} {s : Shared} {Q : VK} {us : List Value} {vs : List V} (M : Mk X.K C f) (F : FnOk X.prog X.w X.K X.mg X.base CX k f fd ps sp) (hr : Room (k + 1) X.A) (hb : Binds X.K fd ps ds) (hd : Vals dvs ds)
    (hx : PassesAt CX X σ (E σ)) (I : Inv X pins σ H s) (r : Vals vs us)
    (h : ∀ x dx, H x = none → H dx = none → dx ≠ x → sp (.ref x :: (vs ++ dvs)) (upd (upd H dx (.own x)) x (.ins C dx [])) (fun v H2 => v = .non ∧ Q (.ref x) H2) (E σ)) :
    wpAny (model X.prog X.w) X.A (call (.ref C) us) (EP X pins σ Q) X.xe s := by
  have hq := h (s.heap.objs.size + 1) s.heap.objs.size (I.hok.fresh (Nat.le_succ _)) (I.hok.fresh (Nat.le_refl _)) (Nat.ne_of_lt (Nat.lt_succ_self _))
  have I2 := Inv.made (C := C) I
  have r2 : Vals (V.ref (s.heap.objs.size + 1) :: (vs ++ dvs)) (Value.ref (s.heap.objs.size + 1) :: (us ++ ds)) := .cons rfl (r.append hd)
  have hl : (Value.ref (s.heap.objs.size + 1) :: us ++ ds).length = ps.length := by
    have e := r2.length
    rw [F.len _ _ _ _ hq] at e
    exact e.symm
  refine wpAny_call (make_map (f := f) I.kIn M.makes M.init (beq_iff_eq.mp M.fn) (codeAny_mono (F.run _ X.stack _ _ ⟨Value.ref (s.heap.objs.size + 1) :: us, []⟩ (Value.ref (s.heap.objs.size + 1) :: (us ++ ds)) _ _ (E σ) (hr.make C us [])
    (I2.env0.make C us []) (hb _ (Value.ref (s.heap.objs.size + 1) :: us) I2.kIn hl) r2 hq) fun r s' hq' => ?_))
  cases r with
  | error e => exact hx pins _ _ e s' I2 hq'
  | ok fl =>
    cases fl with
    | ret u =>
      obtain ⟨v, H', I3, rv, ev, q3⟩ := I2.after hq'
      subst ev
      exact ⟨rv, ⟨V.ref (s.heap.objs.size + 1), H', I3, rfl, q3⟩⟩
    | next => exact False.elim hq'
    | brk => exact False.elim hq'
    | cont => exact False.elim hq'
def tMakeT (C : Addr) (sp : Sp) (dvs : List V) (E : L2.St → XK) (t : TA) : TE := fun σ H Q => t σ H fun vs H1 => ∀ x dx, H1 x = none → H1 dx = none → dx ≠ x → sp (.ref x :: (vs ++ dvs)) (upd (upd H1 dx (.own x)) x (.ins C dx [])) (fun v H2 => v = .non ∧ Q (.ref x) H2) (E σ)
/-- C(e, ..) within a try -/
theorem pe_makeT (M : Mk X.K C f) (F : FnOk X.prog X.w X.K X.mg X.base CX k f fd ps sp) (hr : Room (k + 1) X.A) (hg : Gl X x) (hm : X.mg x = some (.ref C)) (hb : Binds X.K fd ps ds) (hd : Vals dvs ds) (hx : ∀ σ, PassesAt CX X σ (E σ))
    (ha : PA X (e :: es) t) (hdb : (x == ("__debug__" : Str)) = false := by decide) (he : starEach (e :: es) X.env = (false, eval e X.env) :: starEach es X.env := by rfl) (hpl : (backTo pos (starEach es X.env)).any (·.1) = false := by rfl) :
    PE X (.Call (.Name x p) (e :: es) [] pos) (tMakeT C sp dvs E t) := by
  refine ⟨fun pins s σ H Q I h => ?_⟩
  refine wpAny_Call_Name_kw (ld_glob I hg hm ?_ hdb)
  refine PySem.W.callWith_K (h₀ := X.base) I.ok.mod.kin M.kp (thn (ha.run pos pins s σ H _ I h) fun us s1 ⟨vs, H1, I1, r, q⟩ => ⟨I1.kIn, ?_⟩) he hpl
  exact run_makeT M F hr hb hd (hx σ) I1 r q
end
/-- the calls of a def with one default: with and without it -/
structure Dfl1 (K : PySem.W.Frag) (fd : FuncData) (ps : List Str) (dv : V) : Prop where
  all : Binds K fd ps []
  one : ∃ ds, Vals [dv] ds ∧ Binds K fd ps ds
end XL
namespace XL
open PySem PySem.Spec PyProof.Rows L2
section
variable {X : Cx} {pos : Pos}
theorem pg_unlK (K : PySem.W.Frag) (n : Nat) {es : List Expr} {k : Nat} {t : TGs} (h : PGs X es t) (hc : X.calm = true := by rfl) (hK : X.K = K := by rfl)
    (hn : (assignEach es X.env).length = n := by rfl) (hst : (assignEach es X.env).findIdx? (·.1) = none := by rfl) : PG X (.Tuple es k pos) (gUnl K n t) := hK ▸ pg_unl hc h hn hst
theorem mt_indexK (K : PySem.W.Frag) (hK : X.K = K := by rfl) : MtR X "list.index" (rIndex K) := hK ▸ mt_index
end
end XL
set_option Elab.async false
set_option linter.all false
set_option maxRecDepth 100000
set_option maxHeartbeats 4000000
namespace K22
open PySem PySem.Spec PyProof.Rows L2 XL
def topS (i : Nat) : Stmt := PySem.Challenge.pw_drawnanew_k22_whole_focus.main.body.getD i (.Pass ⟨0, 0, 0, 0⟩)
abbrev s_buttons : Stmt := topS 9
theorem sc_buttons : FnScope ["page", "found", "mark"] ["page"] (defScope s_buttons) := ⟨rfl, rfl, rfl, by decide +kernel, rfl, by decide +kernel, by decide +kernel⟩
abbrev s_moved_focus : Stmt := topS 10
theorem sc_moved_focus : FnScope ["rule", "lost", "old", "new", "place", "mark"] ["rule", "lost", "old", "new"] (defScope s_moved_focus) := ⟨rfl, rfl, rfl, by decide +kernel, rfl, by decide +kernel, by decide +kernel⟩
abbrev s_Focus_init : Stmt := inClass (topS 11) 0
theorem sc_Focus_init : FnScope ["self", "page", "rule"] ["self", "page", "rule"] (defScope s_Focus_init) := ⟨rfl, rfl, rfl, by decide +kernel, rfl, by decide +kernel, by decide +kernel⟩
abbrev s_Focus_page : Stmt := inClass (topS 11) 1
theorem sc_Focus_page : FnScope ["self"] ["self"] (defScope s_Focus_page) := ⟨rfl, rfl, rfl, by decide +kernel, rfl, by decide +kernel, by decide +kernel⟩
abbrev s_Focus_at : Stmt := inClass (topS 11) 2
theorem sc_Focus_at : FnScope ["self"] ["self"] (defScope s_Focus_at) := ⟨rfl, rfl, rfl, by decide +kernel, rfl, by decide +kernel, by decide +kernel⟩
abbrev s_Focus_at_set : Stmt := inClass (topS 11) 3
theorem sc_Focus_at_set : FnScope ["self", "mark"] ["self", "mark"] (defScope s_Focus_at_set) := ⟨rfl, rfl, rfl, by decide +kernel, rfl, by decide +kernel, by decide +kernel⟩
abbrev s_Focus_put : Stmt := inClass (topS 11) 4
theorem sc_Focus_put : FnScope ["self", "mark"] ["self", "mark"] (defScope s_Focus_put) := ⟨rfl, rfl, rfl, by decide +kernel, rfl, by decide +kernel, by decide +kernel⟩
abbrev s_Focus_step : Stmt := inClass (topS 11) 5
theorem sc_Focus_step : FnScope ["self", "way", "count", "place"] ["self", "way"] (defScope s_Focus_step) := ⟨rfl, rfl, rfl, by decide +kernel, rfl, by decide +kernel, by decide +kernel⟩
abbrev s_Focus_turn : Stmt := inClass (topS 11) 6
theorem sc_Focus_turn : FnScope ["self", "page", "old"] ["self", "page"] (defScope s_Focus_turn) := ⟨rfl, rfl, rfl, by decide +kernel, rfl, by decide +kernel, by decide +kernel⟩
abbrev s_nodes_of : Stmt := topS 14
theorem sc_nodes_of : FnScope ["root", "out", "waiting", "node"] ["root"] (defScope s_nodes_of) := ⟨rfl, rfl, rfl, by decide +kernel, rfl, by decide +kernel, by decide +kernel⟩
abbrev s_Page_init : Stmt := inClass (topS 15) 0
theorem sc_Page_init : FnScope ["self", "root", "nodes", "above", "order", "node", "below"] ["self", "root"] (defScope s_Page_init) := ⟨rfl, rfl, rfl, by decide +kernel, rfl, by decide +kernel, by decide +kernel⟩
abbrev s_Page_top : Stmt := inClass (topS 15) 1
theorem sc_Page_top : FnScope ["self"] ["self"] (defScope s_Page_top) := ⟨rfl, rfl, rfl, by decide +kernel, rfl, by decide +kernel, by decide +kernel⟩
abbrev s_Page_getitem : Stmt := inClass (topS 15) 3
theorem sc_Page_getitem : FnScope ["self", "mark"] ["self", "mark"] (defScope s_Page_getitem) := ⟨rfl, rfl, rfl, by decide +kernel, rfl, by decide +kernel, by decide +kernel⟩
abbrev s_Page_iter : Stmt := inClass (topS 15) 5
theorem sc_Page_iter : FnScope ["self"] ["self"] (defScope s_Page_iter) := ⟨rfl, rfl, rfl, by decide +kernel, rfl, by decide +kernel, by decide +kernel⟩
abbrev s_mixed : Stmt := topS 17
theorem sc_mixed : FnScope ["_law_number", "_law_turn", "_law_first", "_law_second"] ["_law_number", "_law_turn"] (defScope s_mixed) := ⟨rfl, rfl, rfl, by decide +kernel, rfl, by decide +kernel, by decide +kernel⟩
abbrev s_bag : Stmt := topS 18
theorem sc_bag : FnScope ["_law_script", "_law_cell", "_law_numbers", "_law_seed", "_law_at"] ["_law_script"] (defScope s_bag) := ⟨rfl, rfl, rfl, by decide +kernel, rfl, by decide +kernel, by decide +kernel⟩
abbrev s_pick : Stmt := topS 19
theorem sc_pick : FnScope ["_law_bag_here", "_law_many", "_law_turn", "_law_worth", "_law_cell", "_law_great"] ["_law_bag_here", "_law_many"] (defScope s_pick) := ⟨rfl, rfl, rfl, by decide +kernel, rfl, by decide +kernel, by decide +kernel⟩
abbrev s_choice : Stmt := topS 20
theorem sc_choice : FnScope ["_law_bag_here", "_law_things"] ["_law_bag_here", "_law_things"] (defScope s_choice) := ⟨rfl, rfl, rfl, by decide +kernel, rfl, by decide +kernel, by decide +kernel⟩
abbrev s_mingled : Stmt := topS 21
theorem sc_mingled : FnScope ["_law_bag_here", "_law_things", "_law_left", "_law_out", "_law_step"] ["_law_bag_here", "_law_things"] (defScope s_mingled) := ⟨rfl, rfl, rfl, by decide +kernel, rfl, by decide +kernel, by decide +kernel⟩
abbrev s_text : Stmt := topS 22
theorem sc_text : FnScope ["_law_bag_here", "_law_least", "_law_most", "_law_signs", "_law_told", "_law_step"] ["_law_bag_here", "_law_least", "_law_most"] (defScope s_text) := ⟨rfl, rfl, rfl, by decide +kernel, rfl, by decide +kernel, by decide +kernel⟩
abbrev s_label : Stmt := topS 23
theorem sc_label : FnScope ["_law_bag_here", "_law_way"] ["_law_bag_here"] (defScope s_label) := ⟨rfl, rfl, rfl, by decide +kernel, rfl, by decide +kernel, by decide +kernel⟩
abbrev s_pressed : Stmt := topS 24
theorem sc_pressed : FnScope ["_law_bag_here"] ["_law_bag_here"] (defScope s_pressed) := ⟨rfl, rfl, rfl, by decide +kernel, rfl, by decide +kernel, by decide +kernel⟩
abbrev s_marks : Stmt := topS 25
theorem sc_marks : FnScope ["_law_bag_here", "_law_count", "_law_most", "_law_left", "_law_right", "_law_step", "_law_start", "_law_k"] ["_law_bag_here", "_law_count"] (defScope s_marks) := ⟨rfl, rfl, rfl, by decide +kernel, rfl, by decide +kernel, by decide +kernel⟩
abbrev s_flat : Stmt := topS 26
theorem sc_flat : FnScope ["_law_bag_here", "_law_marks_here", "_law_deepest", "_law_flat_here", "_law_mark", "_law_most"] ["_law_bag_here", "_law_marks_here", "_law_deepest"] (defScope s_flat) := ⟨rfl, rfl, rfl, by decide +kernel, rfl, by decide +kernel, by decide +kernel⟩
abbrev s_grown : Stmt := topS 27
theorem sc_grown : FnScope ["_law_flat_here", "_law_ready", "_law_k", "_law_beneath"] ["_law_flat_here"] (defScope s_grown) := ⟨rfl, rfl, rfl, by decide +kernel, rfl, by decide +kernel, by decide +kernel⟩
abbrev s_fresh : Stmt := topS 28
theorem sc_fresh : FnScope ["_law_bag_here", "_law_pool"] ["_law_bag_here", "_law_pool"] (defScope s_fresh) := ⟨rfl, rfl, rfl, by decide +kernel, rfl, by decide +kernel, by decide +kernel⟩
abbrev s_worn : Stmt := topS 29
theorem sc_worn : FnScope ["_law_bag_here", "_law_flat_here", "_law_lost", "_law_out", "_law_mark", "_law_label_here", "_law_depth", "_law_way", "_law_most"] ["_law_bag_here", "_law_flat_here", "_law_lost"] (defScope s_worn) := ⟨rfl, rfl, rfl, by decide +kernel, rfl, by decide +kernel, by decide +kernel⟩
abbrev s_listed : Stmt := topS 30
theorem sc_listed : FnScope ["_law_flat_here", "_law_row"] ["_law_flat_here"] (defScope s_listed) := ⟨rfl, rfl, rfl, by decide +kernel, rfl, by decide +kernel, by decide +kernel⟩
abbrev s_turned : Stmt := topS 31
theorem sc_turned : FnScope ["_law_word", "_law_lost", "_law_old", "_law_new", "_law_told", "_law_left", "_law_behind", "_law_mark"] ["_law_word", "_law_lost", "_law_old", "_law_new", "_law_told"] (defScope s_turned) := ⟨rfl, rfl, rfl, by decide +kernel, rfl, by decide +kernel, by decide +kernel⟩
abbrev s_stepped : Stmt := topS 32
theorem sc_stepped : FnScope ["_law_marks_here", "_law_at", "_law_way", "_law_k"] ["_law_marks_here", "_law_at", "_law_way"] (defScope s_stepped) := ⟨rfl, rfl, rfl, by decide +kernel, rfl, by decide +kernel, by decide +kernel⟩
abbrev s_refused : Stmt := topS 33
theorem sc_refused : FnScope ["_law_held", "_law_mark", "e"] ["_law_held", "_law_mark"] (defScope s_refused) := ⟨rfl, rfl, rfl, by decide +kernel, rfl, by decide +kernel, by decide +kernel⟩
abbrev s_deeds : Stmt := topS 34
theorem sc_deeds : FnScope ["_law_bag_here", "_law_one", "_law_pool", "_law_held", "_law_marks_here", "_law_step", "_law_way", "_law_told", "_law_mark", "_law_word"] ["_law_bag_here", "_law_one", "_law_pool"] (defScope s_deeds) := ⟨rfl, rfl, rfl, by decide +kernel, rfl, by decide +kernel, by decide +kernel⟩
abbrev s_gone : Stmt := topS 35
theorem sc_gone : FnScope ["_law_one", "_law_after", "_law_page", "_law_told", "_law_shown"] ["_law_one", "_law_after", "_law_page"] (defScope s_gone) := ⟨rfl, rfl, rfl, by decide +kernel, rfl, by decide +kernel, by decide +kernel⟩
abbrev s_next : Stmt := topS 36
theorem sc_next : FnScope ["_law_bag_here", "_law_flat_here", "_law_pool", "_law_lost"] ["_law_bag_here", "_law_flat_here", "_law_pool", "_law_lost"] (defScope s_next) := ⟨rfl, rfl, rfl, by decide +kernel, rfl, by decide +kernel, by decide +kernel⟩
abbrev s_law : Stmt := topS 37
theorem sc_law : FnScope ["_law_script", "_law_bag_here", "_law_pool", "_law_flats", "_law_pages", "_law_group", "_law_word", "_law_row", "_law_turn", "_law_one", "_law_lost", "_law_flat_here"] ["_law_script"] (defScope s_law) := ⟨rfl, rfl, rfl, by decide +kernel, rfl, by decide +kernel, by decide +kernel⟩
abbrev s_NoNode_init : Stmt := inClass (topS 5) 0
abbrev s_BadRule_init : Stmt := inClass (topS 6) 0
/-- what the top leaves -/
structure Top (K : PySem.W.Frag) (mg : Str → Option Value) (W : World) where
  m_abs : mg "abs" = none
  m_enumerate : mg "enumerate" = none
  m_int : mg "int" = none
  m_isinstance : mg "isinstance" = none
  m_iter : mg "iter" = none
  m_len : mg "len" = none
  m_list : mg "list" = none
  m_range : mg "range" = none
  m_str : mg "str" = none
  m_tuple : mg "tuple" = none
  v_MOST_NODES : ∃ t, mg "MOST_NODES" = some (.int 400 t)
  a_buttons : Addr
  d_buttons : FuncData
  F_buttons : Fun K "buttons" "buttons" s_buttons a_buttons d_buttons
  b_buttons : Binds K d_buttons ["page"] []
  g_buttons : mg "buttons" = some (.ref a_buttons)
  a_moved_focus : Addr
  d_moved_focus : FuncData
  F_moved_focus : Fun K "moved_focus" "moved_focus" s_moved_focus a_moved_focus d_moved_focus
  b_moved_focus : Binds K d_moved_focus ["rule", "lost", "old", "new"] []
  g_moved_focus : mg "moved_focus" = some (.ref a_moved_focus)
  a_Focus_init : Addr
  d_Focus_init : FuncData
  F_Focus_init : FunD K "__init__" "Focus.__init__" (defArgs s_Focus_init) (defBody s_Focus_init) (defScope s_Focus_init) [V.str "near"] [] a_Focus_init d_Focus_init
  bd_Focus_init : ∃ ds, Vals [V.str "near"] ds ∧ Binds K d_Focus_init ["self", "page", "rule"] ds
  kb_Focus_init : KBn K d_Focus_init ["self", "page", "rule"] 2 ["rule"] (fun us ws => us ++ ws) (fun vs zs => vs ++ zs)
  b_Focus_init : Binds K d_Focus_init ["self", "page", "rule"] []
  a_Focus_page : Addr
  d_Focus_page : FuncData
  F_Focus_page : Fun K "page" "Focus.page" s_Focus_page a_Focus_page d_Focus_page
  b_Focus_page : Binds K d_Focus_page ["self"] []
  a_Focus_at : Addr
  d_Focus_at : FuncData
  F_Focus_at : Fun K "at" "Focus.at" s_Focus_at a_Focus_at d_Focus_at
  b_Focus_at : Binds K d_Focus_at ["self"] []
  a_Focus_at_set : Addr
  d_Focus_at_set : FuncData
  F_Focus_at_set : Fun K "at" "Focus.at" s_Focus_at_set a_Focus_at_set d_Focus_at_set
  b_Focus_at_set : Binds K d_Focus_at_set ["self", "mark"] []
  a_Focus_put : Addr
  d_Focus_put : FuncData
  F_Focus_put : Fun K "put" "Focus.put" s_Focus_put a_Focus_put d_Focus_put
  b_Focus_put : Binds K d_Focus_put ["self", "mark"] []
  a_Focus_step : Addr
  d_Focus_step : FuncData
  F_Focus_step : Fun K "step" "Focus.step" s_Focus_step a_Focus_step d_Focus_step
  b_Focus_step : Binds K d_Focus_step ["self", "way"] []
  a_Focus_turn : Addr
  d_Focus_turn : FuncData
  F_Focus_turn : Fun K "turn" "Focus.turn" s_Focus_turn a_Focus_turn d_Focus_turn
  b_Focus_turn : Binds K d_Focus_turn ["self", "page"] []
  a_nodes_of : Addr
  d_nodes_of : FuncData
  F_nodes_of : Fun K "nodes_of" "nodes_of" s_nodes_of a_nodes_of d_nodes_of
  b_nodes_of : Binds K d_nodes_of ["root"] []
  g_nodes_of : mg "nodes_of" = some (.ref a_nodes_of)
  a_Page_init : Addr
  d_Page_init : FuncData
  F_Page_init : Fun K "__init__" "Page.__init__" s_Page_init a_Page_init d_Page_init
  b_Page_init : Binds K d_Page_init ["self", "root"] []
  a_Page_top : Addr
  d_Page_top : FuncData
  F_Page_top : Fun K "top" "Page.top" s_Page_top a_Page_top d_Page_top
  b_Page_top : Binds K d_Page_top ["self"] []
  a_Page_getitem : Addr
  d_Page_getitem : FuncData
  F_Page_getitem : Fun K "__getitem__" "Page.__getitem__" s_Page_getitem a_Page_getitem d_Page_getitem
  b_Page_getitem : Binds K d_Page_getitem ["self", "mark"] []
  a_Page_iter : Addr
  d_Page_iter : FuncData
  F_Page_iter : Fun K "__iter__" "Page.__iter__" s_Page_iter a_Page_iter d_Page_iter
  b_Page_iter : Binds K d_Page_iter ["self"] []
  a_mixed : Addr
  d_mixed : FuncData
  F_mixed : Fun K "_law_mixed" "_law_mixed" s_mixed a_mixed d_mixed
  b_mixed : Binds K d_mixed ["_law_number", "_law_turn"] []
  g_mixed : mg "_law_mixed" = some (.ref a_mixed)
  a_bag : Addr
  d_bag : FuncData
  F_bag : Fun K "_law_bag" "_law_bag" s_bag a_bag d_bag
  b_bag : Binds K d_bag ["_law_script"] []
  g_bag : mg "_law_bag" = some (.ref a_bag)
  a_pick : Addr
  d_pick : FuncData
  F_pick : Fun K "_law_pick" "_law_pick" s_pick a_pick d_pick
  b_pick : Binds K d_pick ["_law_bag_here", "_law_many"] []
  g_pick : mg "_law_pick" = some (.ref a_pick)
  a_choice : Addr
  d_choice : FuncData
  F_choice : Fun K "_law_choice" "_law_choice" s_choice a_choice d_choice
  b_choice : Binds K d_choice ["_law_bag_here", "_law_things"] []
  g_choice : mg "_law_choice" = some (.ref a_choice)
  a_mingled : Addr
  d_mingled : FuncData
  F_mingled : Fun K "_law_mingled" "_law_mingled" s_mingled a_mingled d_mingled
  b_mingled : Binds K d_mingled ["_law_bag_here", "_law_things"] []
  g_mingled : mg "_law_mingled" = some (.ref a_mingled)
  a_text : Addr
  d_text : FuncData
  F_text : Fun K "_law_text" "_law_text" s_text a_text d_text
  b_text : Binds K d_text ["_law_bag_here", "_law_least", "_law_most"] []
  g_text : mg "_law_text" = some (.ref a_text)
  a_label : Addr
  d_label : FuncData
  F_label : Fun K "_law_label" "_law_label" s_label a_label d_label
  b_label : Binds K d_label ["_law_bag_here"] []
  g_label : mg "_law_label" = some (.ref a_label)
  a_pressed : Addr
  d_pressed : FuncData
  F_pressed : Fun K "_law_pressed" "_law_pressed" s_pressed a_pressed d_pressed
  b_pressed : Binds K d_pressed ["_law_bag_here"] []
  g_pressed : mg "_law_pressed" = some (.ref a_pressed)
  a_marks : Addr
  d_marks : FuncData
  F_marks : Fun K "_law_marks" "_law_marks" s_marks a_marks d_marks
  b_marks : Binds K d_marks ["_law_bag_here", "_law_count"] []
  g_marks : mg "_law_marks" = some (.ref a_marks)
  a_flat : Addr
  d_flat : FuncData
  F_flat : Fun K "_law_flat" "_law_flat" s_flat a_flat d_flat
  b_flat : Binds K d_flat ["_law_bag_here", "_law_marks_here", "_law_deepest"] []
  g_flat : mg "_law_flat" = some (.ref a_flat)
  a_grown : Addr
  d_grown : FuncData
  F_grown : Fun K "_law_grown" "_law_grown" s_grown a_grown d_grown
  b_grown : Binds K d_grown ["_law_flat_here"] []
  g_grown : mg "_law_grown" = some (.ref a_grown)
  a_fresh : Addr
  d_fresh : FuncData
  F_fresh : Fun K "_law_fresh" "_law_fresh" s_fresh a_fresh d_fresh
  b_fresh : Binds K d_fresh ["_law_bag_here", "_law_pool"] []
  g_fresh : mg "_law_fresh" = some (.ref a_fresh)
  a_worn : Addr
  d_worn : FuncData
  F_worn : Fun K "_law_worn" "_law_worn" s_worn a_worn d_worn
  b_worn : Binds K d_worn ["_law_bag_here", "_law_flat_here", "_law_lost"] []
  g_worn : mg "_law_worn" = some (.ref a_worn)
  a_listed : Addr
  d_listed : FuncData
  F_listed : Fun K "_law_listed" "_law_listed" s_listed a_listed d_listed
  b_listed : Binds K d_listed ["_law_flat_here"] []
  g_listed : mg "_law_listed" = some (.ref a_listed)
  a_turned : Addr
  d_turned : FuncData
  F_turned : Fun K "_law_turned" "_law_turned" s_turned a_turned d_turned
  b_turned : Binds K d_turned ["_law_word", "_law_lost", "_law_old", "_law_new", "_law_told"] []
  g_turned : mg "_law_turned" = some (.ref a_turned)
  a_stepped : Addr
  d_stepped : FuncData
  F_stepped : Fun K "_law_stepped" "_law_stepped" s_stepped a_stepped d_stepped
  b_stepped : Binds K d_stepped ["_law_marks_here", "_law_at", "_law_way"] []
  g_stepped : mg "_law_stepped" = some (.ref a_stepped)
  a_refused : Addr
  d_refused : FuncData
  F_refused : Fun K "_law_refused" "_law_refused" s_refused a_refused d_refused
  b_refused : Binds K d_refused ["_law_held", "_law_mark"] []
  g_refused : mg "_law_refused" = some (.ref a_refused)
  a_deeds : Addr
  d_deeds : FuncData
  F_deeds : Fun K "_law_deeds" "_law_deeds" s_deeds a_deeds d_deeds
  b_deeds : Binds K d_deeds ["_law_bag_here", "_law_one", "_law_pool"] []
  g_deeds : mg "_law_deeds" = some (.ref a_deeds)
  a_gone : Addr
  d_gone : FuncData
  F_gone : Fun K "_law_gone" "_law_gone" s_gone a_gone d_gone
  b_gone : Binds K d_gone ["_law_one", "_law_after", "_law_page"] []
  g_gone : mg "_law_gone" = some (.ref a_gone)
  a_next : Addr
  d_next : FuncData
  F_next : Fun K "_law_next" "_law_next" s_next a_next d_next
  b_next : Binds K d_next ["_law_bag_here", "_law_flat_here", "_law_pool", "_law_lost"] []
  g_next : mg "_law_next" = some (.ref a_next)
  a_law : Addr
  d_law : FuncData
  F_law : Fun K "law" "law" s_law a_law d_law
  b_law : Binds K d_law ["_law_script"] []
  g_law : mg "law" = some (.ref a_law)
  U_RULES : Addr
  g_RULES : mg "RULES" = some (.ref U_RULES)
  sq_RULES : ∀ H, SqT K H U_RULES [V.str "none", V.str "first", V.str "near"]
  C_Page : Addr
  g_Page : mg "Page" = some (.ref C_Page)
  cl_Page : Cls K C_Page
  na_Page_tree : NoAttr K C_Page "tree"
  na_Page_nodes : NoAttr K C_Page "nodes"
  na_Page_above : NoAttr K C_Page "above"
  na_Page_order : NoAttr K C_Page "order"
  mk_Page : Mk K C_Page a_Page_init
  sp_Page_getitem : PySem.W.findIn K (.ref C_Page) "__getitem__" = some (some (.ref a_Page_getitem)) ∧ PySem.W.isFn K (.ref a_Page_getitem) = true ∧ PySem.W.fnIn K a_Page_getitem = true
  sp_Page_iter : PySem.W.findIn K (.ref C_Page) "__iter__" = some (some (.ref a_Page_iter)) ∧ PySem.W.isFn K (.ref a_Page_iter) = true
  p_Page_top : Addr
  pr_Page_top : PropOf K C_Page "top" p_Page_top a_Page_top
  C_Focus : Addr
  g_Focus : mg "Focus" = some (.ref C_Focus)
  cl_Focus : Cls K C_Focus
  na_Focus_rule : NoAttr K C_Focus "rule"
  na_Focus_kept_page : NoAttr K C_Focus "kept_page"
  na_Focus_marks : NoAttr K C_Focus "marks"
  na_Focus_held : NoAttr K C_Focus "held"
  mk_Focus : Mk K C_Focus a_Focus_init
  me_Focus_put : Meth K C_Focus "put" a_Focus_put
  me_Focus_step : Meth K C_Focus "step" a_Focus_step
  me_Focus_turn : Meth K C_Focus "turn" a_Focus_turn
  p_Focus_page : Addr
  pr_Focus_page : PropOf K C_Focus "page" p_Focus_page a_Focus_page
  p_Focus_at : Addr
  pr_Focus_at : PropOf K C_Focus "at" p_Focus_at a_Focus_at
  p_Focus_at_set : Addr
  ps_Focus_at_set : PSet K C_Focus "at" p_Focus_at_set a_Focus_at_set
  x_file : Str
  C_ScreenError : Addr
  g_ScreenError : mg "ScreenError" = some (.ref C_ScreenError)
  C_NoNode : Addr
  i_NoNode : Addr
  g_NoNode : mg "NoNode" = some (.ref C_NoNode)
  x_NoNode : ∀ P : Program, PySem.XExc.PF P x_file → PySem.XExc.ExTxt P K mg "NoNode" "mark" "no node is marked " C_NoNode i_NoNode
  xc_NoNode : ExcC K C_NoNode
  xf_NoNode : XfC K C_NoNode
  ky_NoNode_ScreenError : PySem.W.kitOne K (.ref C_NoNode) (.ref C_ScreenError) = some true
  em_NoNode_NoNode : PySem.W.exmOne K (.ref C_NoNode) (.ref C_NoNode) = some true
  C_BadRule : Addr
  i_BadRule : Addr
  g_BadRule : mg "BadRule" = some (.ref C_BadRule)
  x_BadRule : ∀ P : Program, PySem.XExc.PF P x_file → PySem.XExc.ExTxt P K mg "BadRule" "rule" "not a rule: " C_BadRule i_BadRule
  xc_BadRule : ExcC K C_BadRule
  xf_BadRule : XfC K C_BadRule
  ky_BadRule_ScreenError : PySem.W.kitOne K (.ref C_BadRule) (.ref C_ScreenError) = some true
  em_BadRule_BadRule : PySem.W.exmOne K (.ref C_BadRule) (.ref C_BadRule) = some true
  ki_NoNode_BadRule : PySem.W.kitOne K (.ref C_NoNode) (.ref C_BadRule) = some false
  ki_BadRule_NoNode : PySem.W.kitOne K (.ref C_BadRule) (.ref C_NoNode) = some false
  nl_Page : PySem.W.findIn K (.ref C_Page) "__len__" = some none
  nh_Page : PySem.W.findIn K (.ref C_Page) "__length_hint__" = some none
/-! ### the bag -/
structure Bag (G : Hp) (o : HO) : Prop where
  ex : ∃ (n : Addr) (ns : List Int) (i g t s : Int), o = .lst [.ref n, .int i, .int g, .int t, .int s] ∧ G n = some (.lst (ns.map V.int)) ∧ 0 ≤ i ∧ 0 ≤ g
theorem Bag.same {G G' : Hp} {o : HO} (e : Same G G') (b : Bag G o) : Bag G' o := by
  obtain ⟨n, ns, i, g, t, s, h1, h2, h3⟩ := b.ex
  exact ⟨n, ns, i, g, t, s, h1, e _ _ h2, h3⟩

section
variable {P : Program} {w : World} {K : PySem.W.Frag} {mg : Str → Option Value} {base : Heap}
def spMixed : Sp := fun vs H Q _ => ∃ n t : Int, vs = [.int n, .int t] ∧ ∀ r : Int, 0 ≤ r → r < 2147483587 → Q (.int r) H
theorem ok_mixed (T : Top K mg w) {k : Nat} : FnOk P w K mg base CX0 (k + 1) T.a_mixed T.d_mixed ["_law_number", "_law_turn"] spMixed := by
  refine T.F_mixed.ok sc_mixed (fun vs H Q E h => ?_) (fun cdv A outer s H vs Q E hr h => ?_)
  · obtain ⟨n, t, rfl, _⟩ := h
    rfl
  · obtain ⟨n, t, rfl, q⟩ := h
    refine ⟨_, (pss_cons (ps_set (i := 2) sc_mixed.nd rfl (.inl rfl) (pe_op op_modY (pe_callTy cr_int (by rfl) T.m_int (by decide +kernel) (pa_cons (pe_op op_addY (pe_op op_mulY (pe_op op_addY (xv 0) pe_int) pe_int) (pe_op op_mulY (pe_op op_addY (xv 1) pe_int) pe_int)) pa_nil)) pe_int))
      (pss_cons (ps_set (i := 3) sc_mixed.nd rfl (.inl rfl) (pe_op op_modY (pe_callTy cr_int (by rfl) T.m_int (by decide +kernel) (pa_cons (pe_op op_addY (pe_op op_addY (pe_op op_mulY (xv 2) (xv 2)) (pe_op op_mulY (xv 2) pe_int)) (pe_op op_mulY (pe_op op_addY (xv 1) pe_int) pe_int)) pa_nil)) pe_int))
      (pss_one (ps_ret (pe_op op_modY (pe_callTy cr_int (by rfl) T.m_int (by decide +kernel) (pa_cons (pe_op op_addY (pe_op op_addY (pe_op op_divY (xv 3) pe_int) (pe_op op_mulY (xv 3) pe_int)) (xv 1)) pa_nil)) pe_int))))), ?_⟩
    refine ⟨.inr ⟨by decide, by decide⟩, .inr ⟨by decide, by decide⟩, by decide, fun f _ f0 f1 => ?_⟩
    refine ⟨.inl ⟨by omega, by omega⟩, .inr ⟨by decide, by decide⟩, .inr ⟨by decide, by decide⟩, by decide, fun g _ g0 g1 => ?_⟩
    refine ⟨⟨by decide, by decide⟩, fun d _ _ => ⟨.inr ⟨by decide, by decide⟩, by decide, fun r _ r0 r1 => ?_⟩⟩
    exact q r r0 r1

def spPick : Sp := fun vs H Q _ => ∃ (G : Hp) (M : List (Addr × HO)) (b : Addr) (o : HO) (n : Int), vs = [.ref b, .int n] ∧ Sep G ((b, o) :: M) H ∧ Bag G o ∧ 0 < n ∧ n < 1073741824 ∧
  ∀ (r : Int) (o' : HO) (H' : Hp), 0 ≤ r → r < n → Bag G o' → Sep G ((b, o') :: M) H' → Q (.int r) H'
theorem ok_pick (T : Top K mg w) {k : Nat} (G_mixed : FnOk P w K mg base CX0 (k + 1) T.a_mixed T.d_mixed ["_law_number", "_law_turn"] spMixed) :
    FnOk P w K mg base CX0 (k + 2) T.a_pick T.d_pick ["_law_bag_here", "_law_many"] spPick := by
  refine T.F_pick.ok sc_pick (fun vs H Q E h => ?_) (fun cdv A outer s H vs Q E hr h => ?_)
  · obtain ⟨G, M, b, o, n, rfl, _⟩ := h
    rfl
  · obtain ⟨G, M, b, o, n, rfl, S, B, n0, n1, q⟩ := h
    obtain ⟨N, ns, i, g, t, z, rfl, hN, i0, g0⟩ := B.ex
    refine ⟨_, (pss_cons (ps_set (i := 2) sc_pick.nd rfl (.inl rfl) (pe_ix (ix_k K) (xv 0) pe_int (fun _ _ => rfl)))
      (pss_cons (ps_asg (pe_op op_addY (xv 2) pe_int) (pg_sub (xv 0) pe_int set_list))
      (pss_cons (xs_if (xt_cmp op_gtY (pe_ix (ix_k K) (xv 0) pe_int (fun _ _ => rfl)) pe_int (nomark _))
      (pss_cons (ps_set (i := 3) sc_pick.nd rfl (.inl rfl) (pe_op op_modY (pe_callTy cr_int (by rfl) T.m_int (by decide +kernel) (pa_cons (pe_ix (ix_k K) (xv 0) pe_int (fun _ _ => rfl)) pa_nil)) (xv 1)))
      (pss_cons (ps_asg (pe_op op_divY (pe_ix (ix_k K) (xv 0) pe_int (fun _ _ => rfl)) (xv 1)) (pg_sub (xv 0) pe_int set_list))
      (pss_one (ps_ret (xv 3)))))
      pss_nil)
      (pss_cons (xs_if (xt_cmp op_ltY (pe_ix (ix_k K) (xv 0) pe_int (fun _ _ => rfl)) (pe_callB (cr_lenK K) (by rfl) T.m_len (by decide +kernel) (pa_cons (pe_ix (ix_k K) (xv 0) pe_int (fun _ _ => rfl)) pa_nil)) (nomark _))
      (pss_cons (ps_set (i := 4) sc_pick.nd rfl (.inl rfl) (pe_ix (ix_k K) (pe_ix (ix_k K) (xv 0) pe_int (fun _ _ => rfl)) (pe_ix (ix_k K) (xv 0) pe_int (fun _ _ => rfl)) (fun _ _ => rfl)))
      (pss_cons (ps_asg (pe_op op_addY (pe_ix (ix_k K) (xv 0) pe_int (fun _ _ => rfl)) pe_int) (pg_sub (xv 0) pe_int set_list))
      (pss_cons (ps_set (i := 5) sc_pick.nd rfl (.inl rfl) (pe_callB cr_abs (by rfl) T.m_abs (by decide +kernel) (pa_cons (xv 4) pa_nil)))
      (pss_cons (xs_if (xt_cmp op_geY (xv 5) (pe_op op_powY pe_int pe_int) (nomark _))
      (pss_cons (ps_asg (pe_op op_divY (xv 5) (xv 1)) (pg_sub (xv 0) pe_int set_list))
      (pss_one (ps_ret (pe_op op_modY (pe_callTy cr_int (by rfl) T.m_int (by decide +kernel) (pa_cons (xv 5) pa_nil)) (xv 1)))))
      pss_nil)
      (pss_one (ps_ret (pe_op op_modY (pe_callTy cr_int (by rfl) T.m_int (by decide +kernel) (pa_cons (pe_call G_mixed (hr.mono (by omega)) (by rfl) T.g_mixed T.F_mixed.kp T.b_mixed .nil pass0 (pa_cons (pe_op op_addY (pe_op op_addY (xv 5) (xv 5)) (pe_cmpR op_ltY (xv 4) pe_int (nomark _))) (pa_cons (xv 2) pa_nil))) pa_nil)) (xv 1))))))))
      pss_nil)
      (pss_one (ps_ret (pe_op op_modY (pe_callTy cr_int (by rfl) T.m_int (by decide +kernel) (pa_cons (pe_call G_mixed (hr.mono (by omega)) (by rfl) T.g_mixed T.F_mixed.kp T.b_mixed .nil pass0 (pa_cons (pe_ix (ix_k K) (xv 0) pe_int (fun _ _ => rfl)) (pa_cons (xv 2) pa_nil))) pa_nil)) (xv 1)))))))), ?_⟩
    -- the turn
    refine ⟨_, _, .inl (SqL.of S.hd), rfl, b, _, _, 3, rfl, rfl, S.hd, rfl, ?_⟩
    have S1 := S.set (o' := .lst [.ref N, .int i, .int g, .int (t + 1), .int z])
    -- a great number's rest
    refine ⟨_, _, .inl (SqL.of S1.hd), rfl, fun e => ?_, fun e => ?_⟩
    · refine ⟨_, _, .inl (SqL.of S1.hd), rfl, n0, fun r _ r0 r1 => ?_⟩
      refine ⟨_, _, .inl (SqL.of S1.hd), rfl, ⟨n0, n1⟩, fun d _ d0 => ⟨b, _, _, 2, rfl, rfl, S1.hd, rfl, ?_⟩⟩
      exact q r _ _ r0 r1 ⟨N, ns, i, d, t + 1, z, rfl, hN, i0, d0 g0⟩ S1.set
    -- a new number
    refine ⟨_, _, .inl (SqL.of S1.hd), rfl, _, _, .inl (SqL.of S1.hd), rfl, _, .inl (SqL.of (S1.st hN)), fun e => ?_, fun e => ?_⟩
    · have hi : i < (ns.map V.int).length := of_decide_eq_true e
      obtain ⟨v, hv, hm⟩ := atI_in i0 hi
      obtain ⟨c, _, rfl⟩ := List.mem_map.mp hm
      refine ⟨_, _, .inl (SqL.of S1.hd), rfl, _, _, .inl (SqL.of S1.hd), rfl, _, _, .inl (SqL.of (S1.st hN)), hv, ?_⟩
      refine ⟨_, _, .inl (SqL.of S1.hd), rfl, b, _, _, 1, rfl, rfl, S1.hd, rfl, ?_⟩
      have S2 := S1.set (o' := .lst [.ref N, .int (i + 1), .int g, .int (t + 1), .int z])
      refine ⟨⟨by decide, by decide, by decide⟩, fun p _ => ⟨fun e => ?_, fun e => ?_⟩⟩
      · refine ⟨⟨n0, n1⟩, fun d _ d0 => ⟨b, _, _, 2, rfl, rfl, S2.hd, rfl, n0, fun r _ r0 r1 => ?_⟩⟩
        exact q r _ _ r0 r1 ⟨N, ns, i + 1, d, t + 1, z, rfl, hN, by omega, d0 (by omega)⟩ S2.set
      · refine ⟨_, _, rfl, fun m _ _ => ⟨n0, fun r _ r0 r1 => ?_⟩⟩
        exact q r _ _ r0 r1 ⟨N, ns, i + 1, g, t + 1, z, rfl, hN, by omega, g0⟩ S2
    · refine ⟨_, _, .inl (SqL.of S1.hd), rfl, _, _, rfl, fun m _ _ => ⟨n0, fun r _ r0 r1 => ?_⟩⟩
      exact q r _ _ r0 r1 ⟨N, ns, i, g, t + 1, z, rfl, hN, i0, g0⟩ S1

def spBag (K : PySem.W.Frag) : Sp := fun vs H Q _ => ∃ (G : Hp) (M : List (Addr × HO)) (a : Addr) (ns : List Int), vs = [.ref a] ∧ Sep G M H ∧ SqL K G a (ns.map V.int) ∧ ns.length ≤ 63 ∧
  ∀ (b : Addr) (o : HO) (G' H' : Hp), Same G G' → Bag G' o → Sep G' ((b, o) :: M) H' → Q (.ref b) H'
theorem ok_bag (T : Top K mg w) {k : Nat} : FnOk P w K mg base CX0 (k + 1) T.a_bag T.d_bag ["_law_script"] (spBag K) := by
  refine T.F_bag.ok sc_bag (fun vs H Q E h => ?_) (fun cdv A outer s H vs Q E hr h => ?_)
  · obtain ⟨G, M, a, ns, rfl, _⟩ := h
    rfl
  · obtain ⟨G, M, a, ns, rfl, S, hA, hl, q⟩ := h
    refine ⟨_, (pss_cons (ps_setLc (i := 2) (own := [("_law_cell", 1)]) (by rfl) sc_bag.nd rfl rfl (sw_true rfl rfl rfl (by decide +kernel)) (pi_listK K (xv 0)) (blkOk_by (N := ["_law_script", "_law_cell", "_law_numbers", "_law_seed", "_law_at"]) (sc := defScope s_bag) (by decide +kernel)) (fun _ _ _ _ _ => (pg_name (i := 1) sc_bag.nd rfl (.inl rfl))) (fun _ _ _ _ _ => pts_nil) (fun _ _ _ _ _ => (pe_callTy cr_int (by rfl) T.m_int (by decide +kernel) (pa_cons (xv 1) pa_nil))))
      (pss_cons (ps_set (i := 3) sc_bag.nd rfl (.inl rfl) (pe_callB (cr_lenK K) (by rfl) T.m_len (by decide +kernel) (pa_cons (xv 2) pa_nil)))
      (pss_cons (ps_for PassesOwn.never rfl (pi_enum (by rfl) T.m_enumerate (pa_cons (pe_slice (sl_listK K) (xv 2) po_none (po_some pe_int)) pa_nil)) (pg_tupK K 2 (pgs_cons (pg_name (i := 4) sc_bag.nd rfl (.inl rfl)) (pgs_cons (pg_name (i := 1) sc_bag.nd rfl (.inl rfl)) pgs_nil)))
      (pss_one (ps_set (i := 3) sc_bag.nd rfl (.inl rfl) (pe_op op_modY (pe_callTy cr_int (by rfl) T.m_int (by decide +kernel) (pa_cons (pe_op op_addY (pe_op op_addY (pe_op op_mulY (xv 3) pe_int) (pe_op op_modY (pe_callTy cr_int (by rfl) T.m_int (by decide +kernel) (pa_cons (pe_callB cr_abs (by rfl) T.m_abs (by decide +kernel) (pa_cons (xv 1) pa_nil)) pa_nil)) pe_int)) (pe_op op_mulY (pe_op op_addY (xv 4) pe_int) (pe_cmpR op_ltY (xv 1) pe_int (nomark _)))) pa_nil)) pe_int))))
      (pss_one (ps_ret (pe_lst (pa_cons (xv 2) (pa_cons pe_int (pa_cons pe_int (pa_cons pe_int (pa_cons (xv 3) pa_nil))))))))))), ?_⟩
    refine ⟨a, rfl, ⟨_, S.l hA⟩, fun L nL => lc_pre (xs := ns.map V.int) (fun pre H' => Sep G ((L, .lst pre) :: M) H') (S.new nL) (fun pre H' p => p.l hA) (fun _ => rfl) (fun pre x post H' e p => ?_) (fun H' S1 => ?_)⟩
    · obtain ⟨c, _, rfl⟩ := List.mem_map.mp (show x ∈ ns.map V.int by rw [e]; simp)
      have hz : pre.length ≤ 63 := by
        have z := congrArg List.length e
        rw [List.length_map, List.length_append] at z
        omega
      exact ⟨_, p.hd, smallL (by omega), p.set⟩
    · -- the seed
      have S2 := S1.frz
      have hN : upd G L (.lst (ns.map V.int)) L = some (.lst (ns.map V.int)) := upd_same
      refine ⟨_, .inl (SqL.of (S2.st hN)), ?_⟩
      refine ⟨63, rfl, L, _, rfl, SqL.of (S2.st hN), fun c nc => ?_⟩
      have S3 := S2.newG (o := .lst (cutV (ns.map V.int) none (some 63))) nc
      have s3 := S2.grow (o := .lst (cutV (ns.map V.int) none (some 63))) nc
      refine ⟨c, _, rfl, SqL.of (S3.st upd_same), for_enum (xs := cutV (ns.map V.int) none (some 63)) (fun pre σ H' => ∃ (y1 y4 : Option V) (z : Int) (G' : Hp), σ = [some (.ref a), y1, some (.ref L), some (.int z), y4] ∧
        Same (upd (upd G L (.lst (ns.map V.int))) c (.lst (cutV (ns.map V.int) none (some 63)))) G' ∧ Sep G' M H') ⟨_, _, _, _, rfl, Same.refl _, S3⟩ (fun pre σ H' h => ?_) (fun pre x post σ H' W e h nW => ?_) (fun σ H' h => ?_)⟩
      · obtain ⟨_, _, _, G', _, s4, S4⟩ := h
        exact SqL.of (S4.st (s4 _ _ upd_same))
      · obtain ⟨y1, y4, z, G', rfl, s4, S4⟩ := h
        have hx : x ∈ ns.map V.int := by
          have hm : x ∈ cutV (ns.map V.int) none (some 63) := by rw [e]; simp
          exact List.mem_of_mem_drop (List.mem_of_mem_take hm)
        obtain ⟨v, _, rfl⟩ := List.mem_map.mp hx
        have S5 := S4.newG (o := .tup [.int (pre.length : Nat), .int v]) nW
        refine ⟨.inr ⟨by decide, by decide⟩, by decide, fun r _ r0 r1 => ⟨by decide, fun u _ u0 u1 => ?_⟩⟩
        exact ⟨_, _, _, _, rfl, s4.trans (S4.grow nW), S5⟩
      · obtain ⟨y1, y4, z, G', rfl, s4, S4⟩ := h
        refine ⟨sz, fun b nb => ?_⟩
        exact q b _ G' _ ((S1.frzS).trans (s3.trans s4)) ⟨L, ns, 0, 0, 0, z, rfl, s4 _ _ (s3 _ _ hN), by decide, by decide⟩ (S4.new nb)

def spChoice (K : PySem.W.Frag) : Sp := fun vs H Q _ => ∃ (G : Hp) (M : List (Addr × HO)) (b : Addr) (o : HO) (l : Addr) (xs : List V), vs = [.ref b, .ref l] ∧ Sep G ((b, o) :: M) H ∧ Bag G o ∧ SqL K G l xs ∧ 0 < xs.length ∧ xs.length < 100000 ∧
  ∀ (v : V) (o' : HO) (H' : Hp), v ∈ xs → Bag G o' → Sep G ((b, o') :: M) H' → Q v H'
theorem ok_choice (T : Top K mg w) {k : Nat} (G_pick : FnOk P w K mg base CX0 k T.a_pick T.d_pick ["_law_bag_here", "_law_many"] spPick) : FnOk P w K mg base CX0 (k + 1) T.a_choice T.d_choice ["_law_bag_here", "_law_things"] (spChoice K) := by
  refine T.F_choice.ok sc_choice (fun vs H Q E h => ?_) (fun cdv A outer s H vs Q E hr h => ?_)
  · obtain ⟨G, M, b, o, l, xs, rfl, _⟩ := h
    rfl
  · obtain ⟨G, M, b, o, l, xs, rfl, S, B, hl, x0, x1, q⟩ := h
    refine ⟨_, (pss_one (ps_ret (pe_ix (ix_k K) (xv 1) (pe_call G_pick (hr.mono (by omega)) (by rfl) T.g_pick T.F_pick.kp T.b_pick .nil pass0 (pa_cons (xv 0) (pa_cons (pe_callB (cr_lenK K) (by rfl) T.m_len (by decide +kernel) (pa_cons (xv 1) pa_nil)) pa_nil))) (fun _ _ => rfl)))), ?_⟩
    refine ⟨_, .inl (S.l hl), G, M, b, o, _, rfl, S, B, by omega, by omega, fun r o' H' r0 r1 B' S' => ?_⟩
    obtain ⟨v, hv, hm⟩ := atI_in r0 r1
    exact ⟨_, v, .inl (S'.l hl), hv, q v o' H' hm B' S'⟩

def spMingled (K : PySem.W.Frag) : Sp := fun vs H Q _ => ∃ (G : Hp) (M : List (Addr × HO)) (b : Addr) (o : HO) (l : Addr) (xs : List V), vs = [.ref b, .ref l] ∧ Sep G ((b, o) :: M) H ∧ Bag G o ∧ SqL K G l xs ∧ xs.length < 100000 ∧
  ∀ (p : Addr) (ys : List V) (o' : HO) (G' H' : Hp), Same G G' → G' p = some (.lst ys) → ys.Perm xs → Bag G' o' → Sep G' ((b, o') :: M) H' → Q (.ref p) H'
theorem ok_mingled (T : Top K mg w) {k : Nat} (G_pick : FnOk P w K mg base CX0 k T.a_pick T.d_pick ["_law_bag_here", "_law_many"] spPick) : FnOk P w K mg base CX0 (k + 1) T.a_mingled T.d_mingled ["_law_bag_here", "_law_things"] (spMingled K) := by
  refine T.F_mingled.ok sc_mingled (fun vs H Q E h => ?_) (fun cdv A outer s H vs Q E hr h => ?_)
  · obtain ⟨G, M, b, o, l, xs, rfl, _⟩ := h
    rfl
  · obtain ⟨G, M, b, o, l, xs, rfl, S, B, hl, x1, q⟩ := h
    refine ⟨_, (pss_cons (ps_set (i := 2) sc_mingled.nd rfl (.inl rfl) (pe_callTy (call_listK K) (by rfl) T.m_list (by decide +kernel) (pa_cons (xv 1) pa_nil)))
      (pss_cons (ps_set (i := 3) sc_mingled.nd rfl (.inl rfl) (pe_lst pa_nil))
      (pss_cons (ps_for PassesOwn.never rfl (pi_range1 (by rfl) T.m_range (pa_cons (pe_callB (cr_lenK K) (by rfl) T.m_len (by decide +kernel) (pa_cons (xv 1) pa_nil)) pa_nil)) (pg_name (i := 4) sc_mingled.nd rfl (.inl rfl))
      (pss_one (ps_expr (pe_bmK K PySem.F.plainAttrs_list PySem.F.slot_list_append PySem.F.type_list_append mt_append (xv 3) (pa_cons (pe_bmK K PySem.F.plainAttrs_list PySem.F.slot_list_pop PySem.F.type_list_pop mt_popAt (xv 2) (pa_cons (pe_call G_pick (hr.mono (by omega)) (by rfl) T.g_pick T.F_pick.kp T.b_pick .nil pass0 (pa_cons (xv 0) (pa_cons (pe_callB (cr_lenK K) (by rfl) T.m_len (by decide +kernel) (pa_cons (xv 2) pa_nil)) pa_nil))) pa_nil)) pa_nil)))))
      (pss_one (ps_ret (xv 3)))))), ?_⟩
    refine ⟨l, xs, rfl, .inl (S.l hl), fun L nL => ?_⟩
    have S1 := S.new (o := .lst xs) nL
    refine ⟨sz, fun O nO => ?_⟩
    have S2 := S1.new (o := .lst []) nO
    refine ⟨_, .inl (S2.l hl), _, rfl, by omega, by omega, for_range (lo := 0) (n := (xs.length : Int).toNat) (fun i σ H' => ∃ (y4 : Option V) (o' : HO) (ls os : List V), σ = [some (.ref b), some (.ref l), some (.ref L), some (.ref O), y4] ∧
      Bag G o' ∧ Sep G ((O, .lst os) :: (L, .lst ls) :: (b, o') :: M) H' ∧ ls.length + i = xs.length ∧ os.length = i ∧ (os ++ ls).Perm xs) ?_ (fun i σ H' hi h => ?_) (fun σ H' h => ?_)⟩
    · exact ⟨_, o, xs, [], rfl, B, S2, by omega, rfl, List.Perm.refl _⟩
    · obtain ⟨y4, o', ls, os, rfl, B', S3, e1, e2, pm⟩ := h
      have S4 := (S3.sw).perm (List.Perm.cons _ (List.Perm.swap _ _ _))
      have S5 := S4.sw
      -- out.append(left.pop(pick(bag, len(left))))
      refine ⟨.inl ⟨rfl, _, SqL.of S3.hd⟩, .inl ⟨rfl, _, SqL.of S4.hd⟩, _, .inl (SqL.of S4.hd), G, _, b, o', _, rfl, S5, B', by omega, by omega, fun r o2 H2 r0 r1 B2 S6 => ?_⟩
      have S7 := S6.sw
      obtain ⟨v, hv, hm⟩ := atI_in r0 r1
      have S8 := S7.set (o' := .lst (ls.eraseIdx r.toNat))
      have S9 := (S8.perm (List.Perm.cons _ (List.Perm.swap _ _ _))).sw
      refine ⟨L, ls, r, r.toNat, v, rfl, rfl, S7.hd, by omega, by omega, seqIdx r0 r1, atN r0 hv, O, os, v, rfl, rfl, S9.hd, smallL (by omega), ?_⟩
      refine ⟨_, o2, ls.eraseIdx r.toNat, os ++ [v], rfl, B2, S9.set, ?_, ?_, ?_⟩
      · rw [List.length_eraseIdx_of_lt (by omega)]
        omega
      · rw [List.length_append, e2]
        rfl
      · refine List.Perm.trans ?_ pm
        rw [List.append_assoc, List.singleton_append]
        refine List.Perm.append_left _ ?_
        exact perm_erase (atN r0 hv)
    · obtain ⟨y4, o', ls, os, rfl, B', S3, e1, e2, pm⟩ := h
      have S4 := ((S3.frz).drop)
      exact q O os o' _ _ S3.frzS upd_same (by
        have e3 : ls = [] := List.eq_nil_of_length_eq_zero (by omega)
        rw [e3, List.append_nil] at pm
        exact pm) (B'.same S3.frzS) S4

end
end K22
set_option Elab.async false
set_option linter.all false
set_option maxRecDepth 100000
set_option maxHeartbeats 4000000
namespace K22
open PySem PySem.Spec PyProof.Rows L2 XL
section
variable {P : Program} {w : World} {K : PySem.W.Frag} {mg : Str → Option Value} {base : Heap}
/-! ### drawn texts, labels -/
structure Tx (a b : Nat) (z : Str) : Prop where
  lo : a ≤ z.length
  hi : z.length ≤ b
  ch : ∀ c ∈ z.cps.toList, c < 128
theorem Tx.wide {a b a' b' : Nat} {z : Str} (h : Tx a b z) (h1 : a' ≤ a) (h2 : b ≤ b') : Tx a' b' z := ⟨Nat.le_trans h1 h.lo, Nat.le_trans h.hi h2, h.ch⟩
theorem Tx.app {a b c d : Nat} {x y : Str} (h : Tx a b x) (k : Tx c d y) : Tx (a + c) (b + d) (x ++ y) := by
  have h1 := h.lo; have h2 := h.hi; have h3 := k.lo; have h4 := k.hi
  refine ⟨by rw [app_len]; omega, by rw [app_len]; omega, fun e he => ?_⟩
  rw [app_tl] at he
  rcases List.mem_append.mp he with z | z
  · exact h.ch e z
  · exact k.ch e z
theorem Tx.lit {a b : Nat} (z : Str) (h : (Nat.ble a z.length && Nat.ble z.length b && z.cps.toList.all fun c => decide (c < 128)) = true) : Tx a b z := by
  rw [Bool.and_eq_true, Bool.and_eq_true] at h
  exact ⟨Nat.le_of_ble_eq_true h.1.1, Nat.le_of_ble_eq_true h.1.2, fun c hc => of_decide_eq_true (List.all_eq_true.mp h.2 c hc)⟩
def spText : Sp := fun vs H Q _ => ∃ (G : Hp) (M : List (Addr × HO)) (b : Addr) (o : HO) (l m : Nat), vs = [.ref b, .int (l : Nat), .int (m : Nat)] ∧ Sep G ((b, o) :: M) H ∧ Bag G o ∧ l ≤ m ∧ m ≤ 1000 ∧
  ∀ (z : Str) (o' : HO) (H' : Hp), Tx l m z → Bag G o' → Sep G ((b, o') :: M) H' → Q (.str z) H'
theorem ok_text (T : Top K mg w) {k : Nat} (G_pick : FnOk P w K mg base CX0 k T.a_pick T.d_pick ["_law_bag_here", "_law_many"] spPick) : FnOk P w K mg base CX0 (k + 1) T.a_text T.d_text ["_law_bag_here", "_law_least", "_law_most"] spText := by
  refine T.F_text.ok sc_text (fun vs H Q E h => ?_) (fun cdv A outer s H vs Q E hr h => ?_)
  · obtain ⟨G, M, b, o, l, m, rfl, _⟩ := h
    rfl
  · obtain ⟨G, M, b, o, l, m, rfl, S, B, l1, m1, q⟩ := h
    refine ⟨_, (pss_cons (ps_set (i := 3) sc_text.nd rfl (.inl rfl) pe_str)
      (pss_cons (ps_set (i := 3) sc_text.nd rfl (.inl rfl) (pe_op op_addY (xv 3) pe_str))
      (pss_cons (ps_set (i := 4) sc_text.nd rfl (.inl rfl) pe_str)
      (pss_cons (ps_for PassesOwn.never rfl (pi_range1 (by rfl) T.m_range (pa_cons (pe_op op_addY (xv 1) (pe_call G_pick (hr.mono (by omega)) (by rfl) T.g_pick T.F_pick.kp T.b_pick .nil pass0 (pa_cons (xv 0) (pa_cons (pe_op op_addY (pe_op op_subY (xv 2) (xv 1)) pe_int) pa_nil)))) pa_nil)) (pg_name (i := 5) sc_text.nd rfl (.inl rfl))
      (pss_one (ps_set (i := 4) sc_text.nd rfl (.inl rfl) (pe_op op_addY (xv 4) (pe_ix (ix_k K) (xv 3) (pe_call G_pick (hr.mono (by omega)) (by rfl) T.g_pick T.F_pick.kp T.b_pick .nil pass0 (pa_cons (xv 0) (pa_cons (pe_callB (cr_lenK K) (by rfl) T.m_len (by decide +kernel) (pa_cons (xv 3) pa_nil)) pa_nil))) (fun _ _ => rfl))))))
      (pss_one (ps_ret (xv 4))))))), ?_⟩
    refine ⟨by decide +kernel, fun sg hsg => ?_⟩
    have hlen : sg.length = 94 := by rw [hsg]; decide +kernel
    have hch : ∀ c ∈ sg.cps.toList, c < 128 := by rw [hsg]; decide +kernel
    refine ⟨G, M, b, o, _, rfl, S, B, by omega, by omega, fun r o1 H1 r0 r1 B1 S1 => ?_⟩
    refine ⟨_, rfl, by omega, by omega, for_range (lo := 0) (n := ((l : Int) + r).toNat) (fun i σ H' => ∃ (y5 : Option V) (z : Str) (o' : HO), σ = [some (.ref b), some (.int (l : Nat)), some (.int (m : Nat)), some (.str sg), some (.str z), y5] ∧ z.length = i ∧ (∀ c ∈ z.cps.toList, c < 128) ∧
      Bag G o' ∧ Sep G ((b, o') :: M) H') ⟨_, _, o1, rfl, rfl, (fun c hc => absurd hc (show c ∉ ([] : List Nat) by simp)), B1, S1⟩ (fun i σ H' hi h => ?_) (fun σ H' h => ?_)⟩
    · obtain ⟨y5, z, o', rfl, hz, hzc, B', S'⟩ := h
      refine ⟨small (by omega), G, M, b, o', _, rfl, S', B', by omega, by omega, fun r2 o2 H2 r20 r21 B2 S2 => ?_⟩
      obtain ⟨c, hc, hcm⟩ := atI_in (xs := sg.cps.toList) r20 (by rw [Array.length_toList]; exact r21)
      refine ⟨c, small (by omega), hc, ?_, fun z2 hz2 => ?_⟩
      · rw [hz]
        exact small (by show i + 1 ≤ 100000; omega)
      · refine ⟨_, z2, o2, rfl, ?_, fun d hd => ?_, B2, S2⟩
        · rw [hz2, PySem.Str.length_append, hz]
          rfl
        · rw [hz2, app_tl] at hd
          rcases List.mem_append.mp hd with k | k
          · exact hzc d k
          · have : d = c := by simpa using k
            rw [this]
            exact hch c hcm
    · obtain ⟨y5, z, o', rfl, hz, hzc, B', S'⟩ := h
      exact q z o' H' ⟨by omega, by omega, hzc⟩ B' S'
theorem digit_tx {r : Int} (h0 : 0 ≤ r) (h1 : r < 10) : Tx 1 1 (toString r : Str) := by
  have h : r = 0 ∨ r = 1 ∨ r = 2 ∨ r = 3 ∨ r = 4 ∨ r = 5 ∨ r = 6 ∨ r = 7 ∨ r = 8 ∨ r = 9 := by omega
  rcases h with rfl | rfl | rfl | rfl | rfl | rfl | rfl | rfl | rfl | rfl <;> exact Tx.lit _ (by decide +kernel)
def spLabel : Sp := fun vs H Q _ => ∃ (G : Hp) (M : List (Addr × HO)) (b : Addr) (o : HO), vs = [.ref b] ∧ Sep G ((b, o) :: M) H ∧ Bag G o ∧
  ∀ (z : Str) (o' : HO) (G' H' : Hp), Tx 1 20 z → Same G G' → Bag G' o' → Sep G' ((b, o') :: M) H' → Q (.str z) H'
theorem ok_label (T : Top K mg w) {k : Nat} (G_pick : FnOk P w K mg base CX0 k T.a_pick T.d_pick ["_law_bag_here", "_law_many"] spPick) (G_text : FnOk P w K mg base CX0 (k + 1) T.a_text T.d_text ["_law_bag_here", "_law_least", "_law_most"] spText)
    (G_choice : FnOk P w K mg base CX0 (k + 1) T.a_choice T.d_choice ["_law_bag_here", "_law_things"] (spChoice K)) : FnOk P w K mg base CX0 (k + 2) T.a_label T.d_label ["_law_bag_here"] spLabel := by
  refine T.F_label.ok sc_label (fun vs H Q E h => ?_) (fun cdv A outer s H vs Q E hr h => ?_)
  · obtain ⟨G, M, b, o, rfl, _⟩ := h
    rfl
  · obtain ⟨G, M, b, o, rfl, S, B, q⟩ := h
    refine ⟨_, (pss_cons (ps_set (i := 1) sc_label.nd rfl (.inl rfl) (pe_call G_pick (hr.mono (by omega)) (by rfl) T.g_pick T.F_pick.kp T.b_pick .nil pass0 (pa_cons (xv 0) (pa_cons pe_int pa_nil))))
      (pss_cons (xs_if (xt_cmp op_ltY (xv 1) pe_int (nomark _))
      (pss_one (ps_ret pe_str))
      pss_nil)
      (pss_cons (xs_if (xt_cmp (op_eqK K hr.units) (xv 1) pe_int (nomark _))
      (pss_one (ps_ret pe_str))
      pss_nil)
      (pss_cons (xs_if (xt_cmp op_ltY (xv 1) pe_int (nomark _))
      (pss_one (ps_ret (pe_op op_addY pe_str (pe_callTy cr_strI (by rfl) T.m_str (by decide +kernel) (pa_cons (pe_call G_pick (hr.mono (by omega)) (by rfl) T.g_pick T.F_pick.kp T.b_pick .nil pass0 (pa_cons (xv 0) (pa_cons pe_int pa_nil))) pa_nil)))))
      pss_nil)
      (pss_cons (xs_if (xt_cmp (op_eqK K hr.units) (xv 1) pe_int (nomark _))
      (pss_one (ps_ret (pe_op op_addY pe_str (pe_call G_text (hr.mono (by omega)) (by rfl) T.g_text T.F_text.kp T.b_text .nil pass0 (pa_cons (xv 0) (pa_cons pe_int (pa_cons pe_int pa_nil)))))))
      pss_nil)
      (pss_cons (xs_if (xt_cmp (op_eqK K hr.units) (xv 1) pe_int (nomark _))
      (pss_one (ps_ret (pe_call G_choice (hr.mono (by omega)) (by rfl) T.g_choice T.F_choice.kp T.b_choice .nil pass0 (pa_cons (xv 0) (pa_cons (pe_lst (pa_cons pe_str (pa_cons pe_str (pa_cons pe_str (pa_cons pe_str (pa_cons pe_str (pa_cons pe_str (pa_cons pe_str (pa_cons pe_str (pa_cons pe_str (pa_cons pe_str (pa_cons pe_str (pa_cons pe_str (pa_cons pe_str (pa_cons pe_str (pa_cons pe_str (pa_cons pe_str (pa_cons pe_str (pa_cons pe_str (pa_cons pe_str pa_nil)))))))))))))))))))) pa_nil)))))
      pss_nil)
      (pss_one (ps_ret (pe_call G_text (hr.mono (by omega)) (by rfl) T.g_text T.F_text.kp T.b_text .nil pass0 (pa_cons (xv 0) (pa_cons pe_int (pa_cons pe_int pa_nil)))))))))))), ?_⟩
    refine ⟨G, M, b, o, _, rfl, S, B, by omega, by omega, fun r o1 H1 r0 r1 B1 S1 => ?_⟩
    have sr := Same.refl G
    refine ⟨fun e => ?_, fun e => ⟨fun e => ?_, fun e => ⟨fun e => ?_, fun e => ⟨fun e => ?_, fun e => ⟨fun e => ?_, fun e => ?_⟩⟩⟩⟩⟩
    · exact q _ o1 G _ (Tx.lit _ (by decide +kernel)) sr B1 S1
    · exact q _ o1 G _ (Tx.lit _ (by decide +kernel)) sr B1 S1
    · refine ⟨G, M, b, o1, _, rfl, S1, B1, by omega, by omega, fun r2 o2 H2 r20 r21 B2 S2 => ?_⟩
      have e1 := digit_tx r20 r21
      have e0 : Tx 5 5 ("text " : Str) := Tx.lit _ (by decide +kernel)
      refine ⟨?_, ?_, fun z hz => q z o2 G _ ?_ sr B2 S2⟩
      · have h : r2 = 0 ∨ r2 = 1 ∨ r2 = 2 ∨ r2 = 3 ∨ r2 = 4 ∨ r2 = 5 ∨ r2 = 6 ∨ r2 = 7 ∨ r2 = 8 ∨ r2 = 9 := by omega
        rcases h with rfl | rfl | rfl | rfl | rfl | rfl | rfl | rfl | rfl | rfl <;> decide +kernel
      · have := e1.hi; have := e0.hi
        exact small (by omega)
      · rw [hz]
        exact (e0.app e1).wide (by decide) (by decide)
    · refine ⟨G, M, b, o1, 0, 13, rfl, S1, B1, by omega, by omega, fun z o2 H2 hz B2 S2 => ?_⟩
      have e1 : Tx 7 7 ("button " : Str) := Tx.lit _ (by decide +kernel)
      refine ⟨?_, fun z2 hz2 => q z2 o2 G _ ?_ sr B2 S2⟩
      · have := e1.hi; have := hz.hi
        exact small (by omega)
      · rw [hz2]
        exact (e1.app hz).wide (by decide) (by decide)
    · refine ⟨sz, fun p np => ?_⟩
      refine ⟨_, M, b, o1, p, _, rfl, S1.newG np, B1.same (S1.grow np), SqL.of upd_same, by decide, by decide, fun v o2 H2 hv B2 S2 => ?_⟩
      have hz : ∃ z : Str, v = .str z ∧ Tx 1 20 z := by
        simp only [List.mem_cons, List.not_mem_nil, or_false] at hv
        rcases hv with rfl | rfl | rfl | rfl | rfl | rfl | rfl | rfl | rfl | rfl | rfl | rfl | rfl | rfl | rfl | rfl | rfl | rfl | rfl <;> exact ⟨_, rfl, Tx.lit _ (by decide +kernel)⟩
      obtain ⟨z, rfl, hz⟩ := hz
      exact q z o2 _ _ hz (S1.grow np) B2 S2
    · refine ⟨G, M, b, o1, 1, 20, rfl, S1, B1, by omega, by omega, fun z o2 H2 hz B2 S2 => ?_⟩
      exact q z o2 G _ hz sr B2 S2

theorem ok_pressed (T : Top K mg w) {k : Nat} (G_pick : FnOk P w K mg base CX0 k T.a_pick T.d_pick ["_law_bag_here", "_law_many"] spPick) (G_text : FnOk P w K mg base CX0 (k + 1) T.a_text T.d_text ["_law_bag_here", "_law_least", "_law_most"] spText)
    (G_label : FnOk P w K mg base CX0 (k + 2) T.a_label T.d_label ["_law_bag_here"] spLabel) : FnOk P w K mg base CX0 (k + 3) T.a_pressed T.d_pressed ["_law_bag_here"] spLabel := by
  refine T.F_pressed.ok sc_pressed (fun vs H Q E h => ?_) (fun cdv A outer s H vs Q E hr h => ?_)
  · obtain ⟨G, M, b, o, rfl, _⟩ := h
    rfl
  · obtain ⟨G, M, b, o, rfl, S, B, q⟩ := h
    refine ⟨_, (pss_cons (xs_if (xt_cmp (op_eqK K hr.units) (pe_call G_pick (hr.mono (by omega)) (by rfl) T.g_pick T.F_pick.kp T.b_pick .nil pass0 (pa_cons (xv 0) (pa_cons pe_int pa_nil))) pe_int (nomark _))
      (pss_one (ps_ret (pe_op op_addY pe_str (pe_call G_text (hr.mono (by omega)) (by rfl) T.g_text T.F_text.kp T.b_text .nil pass0 (pa_cons (xv 0) (pa_cons pe_int (pa_cons pe_int pa_nil)))))))
      pss_nil)
      (pss_one (ps_ret (pe_call G_label (hr.mono (by omega)) (by rfl) T.g_label T.F_label.kp T.b_label .nil pass0 (pa_cons (xv 0) pa_nil))))), ?_⟩
    refine ⟨G, M, b, o, _, rfl, S, B, by omega, by omega, fun r o1 H1 r0 r1 B1 S1 => ⟨fun e => ?_, fun e => ?_⟩⟩
    · refine ⟨G, M, b, o1, 0, 13, rfl, S1, B1, by omega, by omega, fun z o2 H2 hz B2 S2 => ?_⟩
      have e1 : Tx 7 7 ("button " : Str) := Tx.lit _ (by decide +kernel)
      refine ⟨?_, fun z2 hz2 => q z2 o2 G _ ?_ (Same.refl G) B2 S2⟩
      · have := e1.hi; have := hz.hi
        exact small (by omega)
      · rw [hz2]
        exact (e1.app hz).wide (by decide) (by decide)
    · exact ⟨G, M, b, o1, rfl, S1, B1, fun z o2 G2 H2 hz s2 B2 S2 => q z o2 G2 H2 hz s2 B2 S2⟩

end
end K22
set_option Elab.async false
set_option linter.all false
set_option maxRecDepth 100000
set_option maxHeartbeats 4000000
namespace K22
open PySem PySem.Spec PyProof.Rows L2 XL
/-! ### data of a bounded size -/
theorem showAll : ∀ {xs : List PyData}, (∀ x ∈ xs, x.showable = true) → PyData.showableAll xs = true
  | [], _ => by simp only [PyData.showableAll]
  | x :: xs, h => by
    simp only [PyData.showableAll, h x (by simp), showAll (xs := xs) fun y hy => h y (List.mem_cons_of_mem _ hy), Bool.and_self]
theorem layAll : ∀ {xs : List PyData}, (∀ x ∈ xs, x.canLay0 = true) → PyData.canLayAll0 xs = true
  | [], _ => by simp only [PyData.canLayAll0]
  | x :: xs, h => by
    simp only [PyData.canLayAll0, h x (by simp), layAll (xs := xs) fun y hy => h y (List.mem_cons_of_mem _ hy), Bool.and_self]
theorem depthAll_le {n : Nat} : ∀ {xs : List PyData}, (∀ x ∈ xs, x.depth ≤ n) → PyData.depthAll xs ≤ n
  | [], _ => by simp only [PyData.depthAll]; omega
  | x :: xs, h => by
    have h1 := h x (by simp)
    have h2 := depthAll_le (xs := xs) fun y hy => h y (List.mem_cons_of_mem _ hy)
    simp only [PyData.depthAll]
    omega
theorem shortAll {n : Nat} : ∀ {xs : List PyData}, (∀ x ∈ xs, x.leavesShort n = true) → PyData.leavesShortAll n xs = true
  | [], _ => by simp only [PyData.leavesShortAll]
  | x :: xs, h => by
    simp only [PyData.leavesShortAll, h x (by simp), shortAll (xs := xs) fun y hy => h y (List.mem_cons_of_mem _ hy), Bool.and_self]
theorem weightAll_le {n : Nat} : ∀ {xs : List PyData}, (∀ x ∈ xs, x.weight ≤ n) → PyData.weightAll xs ≤ xs.length * (n + 1)
  | [], _ => by simp only [PyData.weightAll]; omega
  | x :: xs, h => by
    have h1 := h x (by simp)
    have h2 := weightAll_le (xs := xs) fun y hy => h y (List.mem_cons_of_mem _ hy)
    simp only [PyData.weightAll, List.length_cons, Nat.add_mul]
    omega
structure Fit (w dp : Nat) (d : PyData) : Prop where
  cl : d.canLay0 = true
  sh : d.showable = true
  ls : d.leavesShort 8 = true
  dp : d.depth ≤ dp
  wt : d.weight ≤ w
theorem Fit.mono {w dp w' dp' : Nat} {d : PyData} (h : Fit w dp d) (h1 : w ≤ w') (h2 : dp ≤ dp') : Fit w' dp' d := ⟨h.cl, h.sh, h.ls, Nat.le_trans h.dp h2, Nat.le_trans h.wt h1⟩
theorem Fit.shaped {w dp : Nat} {d : PyData} (h : Fit w dp d) (h2 : dp ≤ 64) : SeqAt.shaped d = true := by
  unfold SeqAt.shaped
  rw [h.cl, decide_eq_true (Nat.le_trans h.dp h2)]
  rfl
theorem Fit.self {w dp : Nat} {d : PyData} (h : Fit w dp d) : PyData.eqv d d = true := SeqAt.eqv_refl d h.cl
structure Shw (d : PyData) : Prop where
  sh : d.showable = true
  nd : d.hasDict = false
  dp : d.depth ≤ 64
  ln : d.shown.length ≤ sizeLine
theorem Fit.shw {w dp : Nat} {d : PyData} (h : Fit w dp d) (h1 : w ≤ 1048576) (h2 : dp ≤ 64) : Shw d :=
  ⟨h.sh, PyData.hasDict_of_canLay d h.cl, Nat.le_trans h.dp h2, PyData.shown_fits (B := 8) (by decide) (by decide) h.ls (Nat.le_trans h.wt (Nat.le_trans h1 (by decide)))⟩
theorem Fit.tup {w dp : Nat} {ds : List PyData} (hw : PyData.weightAll ds ≤ w) (h : ∀ d ∈ ds, ∃ w', Fit w' dp d) : Fit w (dp + 1) (.tuple ds) := by
  have dl := depthAll_le (n := dp) fun d hd => (h d hd).choose_spec.dp
  refine ⟨?_, ?_, ?_, ?_, ?_⟩
  · simp only [PyData.canLay0]; exact layAll fun d hd => (h d hd).choose_spec.cl
  · simp only [PyData.showable]; exact showAll fun d hd => (h d hd).choose_spec.sh
  · simp only [PyData.leavesShort]; exact shortAll fun d hd => (h d hd).choose_spec.ls
  · simp only [PyData.depth]; omega
  · simp only [PyData.weight]; exact hw
theorem Fit.lst {w dp : Nat} {ds : List PyData} (hw : PyData.weightAll ds ≤ w) (h : ∀ d ∈ ds, ∃ w', Fit w' dp d) : Fit w (dp + 1) (.list ds) := by
  have dl := depthAll_le (n := dp) fun d hd => (h d hd).choose_spec.dp
  refine ⟨?_, ?_, ?_, ?_, ?_⟩
  · simp only [PyData.canLay0]; exact layAll fun d hd => (h d hd).choose_spec.cl
  · simp only [PyData.showable]; exact showAll fun d hd => (h d hd).choose_spec.sh
  · simp only [PyData.leavesShort]; exact shortAll fun d hd => (h d hd).choose_spec.ls
  · simp only [PyData.depth]; omega
  · simp only [PyData.weight]; exact hw
theorem Fit.tups {w dp : Nat} {ds : List PyData} (h : ∀ d ∈ ds, Fit w dp d) : Fit (ds.length * (w + 1)) (dp + 1) (.tuple ds) := .tup (weightAll_le fun d hd => (h d hd).wt) fun d hd => ⟨w, h d hd⟩
theorem Fit.lsts {w dp : Nat} {ds : List PyData} (h : ∀ d ∈ ds, Fit w dp d) : Fit (ds.length * (w + 1)) (dp + 1) (.list ds) := .lst (weightAll_le fun d hd => (h d hd).wt) fun d hd => ⟨w, h d hd⟩
theorem Fit.str {z : Str} {w : Nat} (h : ∀ c ∈ z.cps.toList, c < 1114112) (l : z.length ≤ w) : Fit w 0 (.str z) := by
  refine ⟨?_, by simp only [PyData.showable], ?_, by simp only [PyData.depth]; omega, ?_⟩
  · simp only [PyData.canLay0]
    unfold PyData.strOk
    rw [← Array.all_toList, List.all_eq_true]
    exact fun c hc => decide_eq_true (h c hc)
  · simp only [PyData.leavesShort]
    rw [List.all_eq_true]
    exact fun c hc => decide_eq_true (Nat.lt_trans (h c hc) (by decide))
  · simp only [PyData.weight]
    exact l
theorem LS_low : ∀ c ∈ LS.cps.toList, c < 1114112 := by decide +kernel
theorem Fit.name {z : Str} {a b : Nat} (h : Lt a b z) : Fit b 0 (.str z) := .str (fun c hc => LS_low c (h.ch c hc)) h.hi
theorem dig_short : ∀ n : Nat, n < 10 → (PyData.shown (.int (n : Nat))).length ≤ 8 ∧ PyData.weight (.int (n : Nat)) ≤ 4 ∧ PyData.showable (.int (n : Nat)) = true := by decide +kernel
theorem Fit.digit {n : Int} (h0 : 0 ≤ n) (h1 : n ≤ 9) : Fit 4 0 (.int n) := by
  obtain ⟨k, rfl⟩ := Int.eq_ofNat_of_zero_le h0
  have z := dig_short k (by omega)
  refine ⟨by simp only [PyData.canLay0], z.2.2, ?_, by simp only [PyData.depth]; omega, z.2.1⟩
  simp only [PyData.leavesShort]
  exact decide_eq_true z.1
/-! ### data at a value -/
theorem dp_tup {K : PySem.W.Frag} {G : Hp} {v : V} {ds : List PyData} (h : Dp K G v (.tuple ds)) : ∃ a xs, v = .ref a ∧ SqT K G a xs ∧ DpAll K G xs ds := by
  cases h with
  | tup h1 h2 => exact ⟨_, _, rfl, h1, h2⟩
theorem dpa_cons {K : PySem.W.Frag} {G : Hp} {xs : List V} {d : PyData} {ds : List PyData} (h : DpAll K G xs (d :: ds)) : ∃ x r, xs = x :: r ∧ Dp K G x d ∧ DpAll K G r ds := by
  cases h with
  | cons h1 h2 => exact ⟨_, _, rfl, h1, h2⟩
theorem dpa_nil {K : PySem.W.Frag} {G : Hp} {xs : List V} (h : DpAll K G xs []) : xs = [] := by
  cases h
  rfl
theorem dp_str {K : PySem.W.Frag} {G : Hp} {v : V} {z : Str} (h : Dp K G v (.str z)) : v = .str z := by
  cases h
  rfl
theorem dpa_len {K : PySem.W.Frag} {G : Hp} : ∀ {xs : List V} {ds : List PyData}, DpAll K G xs ds → xs.length = ds.length
  | _, _, .nil => rfl
  | _, _, .cons _ h => congrArg (· + 1) (dpa_len h)
theorem dpa_get {K : PySem.W.Frag} {G : Hp} : ∀ {xs : List V} {ds : List PyData} {i : Nat} {x : V}, DpAll K G xs ds → xs[i]? = some x → ∃ d, ds[i]? = some d ∧ Dp K G x d
  | _, _, _, _, .nil, h => by simp at h
  | _, _, 0, _, .cons h1 _, h => by
    simp at h
    subst h
    exact ⟨_, rfl, h1⟩
  | _, _, i + 1, _, .cons _ h2, h => by
    rw [List.getElem?_cons_succ] at h
    obtain ⟨d, e1, e2⟩ := dpa_get h2 h
    exact ⟨d, by rw [List.getElem?_cons_succ]; exact e1, e2⟩
theorem dpa_app {K : PySem.W.Frag} {G : Hp} : ∀ {xs ys : List V} {ds es : List PyData}, DpAll K G xs ds → DpAll K G ys es → DpAll K G (xs ++ ys) (ds ++ es)
  | _, _, _, _, .nil, h => h
  | _, _, _, _, .cons h1 h2, h => .cons h1 (dpa_app h2 h)
theorem dpa_take {K : PySem.W.Frag} {G : Hp} : ∀ {xs : List V} {ds : List PyData} (n : Nat), DpAll K G xs ds → DpAll K G (xs.take n) (ds.take n)
  | _, _, 0, _ => .nil
  | _, _, _ + 1, .nil => .nil
  | _, _, n + 1, .cons h1 h2 => .cons h1 (dpa_take n h2)
theorem dpa_drop {K : PySem.W.Frag} {G : Hp} : ∀ {xs : List V} {ds : List PyData} (n : Nat), DpAll K G xs ds → DpAll K G (xs.drop n) (ds.drop n)
  | _, _, 0, h => h
  | _, _, _ + 1, .nil => .nil
  | _, _, n + 1, .cons _ h2 => dpa_drop n h2
theorem dpa_one {K : PySem.W.Frag} {G : Hp} {v : V} {d : PyData} (h : Dp K G v d) : DpAll K G [v] [d] := .cons h .nil
theorem Sep.mk {G H : Hp} {M : List (Addr × HO)} {p : Addr} {o : HO} (S : Sep G M H) (h : H p = none) : ∃ G', Same G G' ∧ Sep G' M (upd H p o) ∧ G' p = some o := ⟨_, S.grow h, S.newG h, upd_same⟩

/-! ### trees of nodes -/
inductive Tr where
  | node (m l : Str) (ks : List Tr)
def mrk : Tr → Str
  | .node m _ _ => m
def lbl : Tr → Str
  | .node _ l _ => l
def kids : Tr → List Tr
  | .node _ _ ks => ks
theorem tr_eta (t : Tr) : t = .node (mrk t) (lbl t) (kids t) := by cases t; rfl
mutual
def toD : Tr → PyData
  | .node m l ks => .tuple [.str m, .str l, .tuple (toDs ks)]
def toDs : List Tr → List PyData
  | [] => []
  | s :: r => toD s :: toDs r
end
theorem toDs_eq : ∀ ps, toDs ps = ps.map toD
  | [] => by simp only [toDs, List.map_nil]
  | s :: r => by simp only [toDs, List.map_cons, toDs_eq r]
theorem toD_eq (t : Tr) : toD t = .tuple [.str (mrk t), .str (lbl t), .tuple ((kids t).map toD)] := by
  cases t
  simp only [toD, mrk, lbl, kids, toDs_eq]
mutual
def hgt : Tr → Nat
  | .node _ _ ks => hgts ks + 1
def hgts : List Tr → Nat
  | [] => 0
  | s :: r => max (hgt s) (hgts r)
end
theorem hgt_eq (t : Tr) : hgt t = hgts (kids t) + 1 := by
  cases t
  simp only [hgt, kids]
theorem hgt_mem {p : Tr} : ∀ {ps : List Tr}, p ∈ ps → hgt p ≤ hgts ps
  | q :: r, h => by
    rcases List.mem_cons.mp h with rfl | h
    · simp only [hgts]; omega
    · have := hgt_mem h
      simp only [hgts]; omega
theorem hgts_le {n : Nat} : ∀ {ps : List Tr}, (∀ p ∈ ps, hgt p ≤ n) → hgts ps ≤ n
  | [], _ => by simp only [hgts]; omega
  | p :: r, h => by
    have h1 := h p (by simp)
    have h2 := hgts_le (ps := r) fun q hq => h q (List.mem_cons_of_mem _ hq)
    simp only [hgts]; omega
theorem hgt_kid {p s : Tr} (h : p ∈ kids s) : hgt p + 1 ≤ hgt s := by
  have := hgt_mem h
  rw [hgt_eq s]
  omega
/-! in page order -/
mutual
def pre : Tr → List Tr
  | .node m l ks => .node m l ks :: pres ks
def pres : List Tr → List Tr
  | [] => []
  | s :: r => pre s ++ pres r
end
theorem pre_eq (t : Tr) : pre t = t :: pres (kids t) := by
  cases t
  simp only [pre, kids]
theorem pres_app : ∀ xs ys, pres (xs ++ ys) = pres xs ++ pres ys
  | [], ys => by simp only [List.nil_append, pres]
  | x :: xs, ys => by simp only [List.cons_append, pres, pres_app xs ys, List.append_assoc]
theorem pres_one (p : Tr) : pres [p] = pre p := by simp only [pres, List.append_nil]
theorem mem_pres {x : Tr} : ∀ {ps : List Tr}, x ∈ pres ps ↔ ∃ p ∈ ps, x ∈ pre p
  | [] => by simp [pres]
  | p :: r => by simp [pres, mem_pres (ps := r)]
theorem self_pre (t : Tr) : t ∈ pre t := by rw [pre_eq]; simp
theorem many_le : ∀ ps : List Tr, ps.length ≤ (pres ps).length
  | [] => by simp
  | p :: r => by
    have := many_le r
    have e := congrArg List.length (pre_eq p)
    rw [List.length_cons] at e
    simp only [pres, List.length_append, List.length_cons]
    omega
/-! from below -/
mutual
def post : Tr → List Tr
  | .node m l ks => posts ks ++ [.node m l ks]
def posts : List Tr → List Tr
  | [] => []
  | s :: r => post s ++ posts r
end
theorem post_eq (t : Tr) : post t = posts (kids t) ++ [t] := by
  cases t
  simp only [post, kids]
theorem posts_app : ∀ xs ys, posts (xs ++ ys) = posts xs ++ posts ys
  | [], ys => by simp only [List.nil_append, posts]
  | x :: xs, ys => by simp only [List.cons_append, posts, posts_app xs ys, List.append_assoc]
theorem posts_one (p : Tr) : posts [p] = post p := by simp only [posts, List.append_nil]
mutual
theorem post_perm : ∀ t, (post t).Perm (pre t)
  | .node m l ks => by
    simp only [post, pre]
    exact (List.perm_append_comm).trans (List.Perm.cons _ (posts_perm ks))
theorem posts_perm : ∀ ts, (posts ts).Perm (pres ts)
  | [] => by simp only [posts, pres]; exact List.Perm.refl _
  | t :: r => by
    simp only [posts, pres]
    exact (post_perm t).append (posts_perm r)
end
/-- ahead of a node stand those beneath it -/
theorem take_post : ∀ n t, hgt t ≤ n → ∀ i p, (post t)[i]? = some p → ∃ r, (post t).take i = r ++ posts (kids p)
  | 0, t, h, _, _, _ => by rw [hgt_eq] at h; omega
  | n + 1, t, h, i, p, e => by
    have ih := take_post n
    have go : ∀ (ps : List Tr), (∀ q ∈ ps, hgt q ≤ n) → ∀ j, (posts ps)[j]? = some p → ∃ r, (posts ps).take j = r ++ posts (kids p) := by
      intro ps
      induction ps with
      | nil => intro _ j e; simp [posts] at e
      | cons q qs ih2 =>
        intro hq j e
        simp only [posts] at e ⊢
        by_cases hj : j < (post q).length
        · rw [List.getElem?_append_left hj] at e
          obtain ⟨r, hr⟩ := ih q (hq q (by simp)) j p e
          exact ⟨r, by rw [List.take_append_of_le_length (by omega), hr]⟩
        · rw [List.getElem?_append_right (by omega)] at e
          obtain ⟨r, hr⟩ := ih2 (fun x hx => hq x (List.mem_cons_of_mem _ hx)) _ e
          exact ⟨post q ++ r, by rw [List.take_append, List.take_of_length_le (by omega), hr, List.append_assoc]⟩
    rw [post_eq t] at e ⊢
    by_cases hi : i < (posts (kids t)).length
    · rw [List.getElem?_append_left hi] at e
      obtain ⟨r, hr⟩ := go _ (fun q hq => by have := hgt_kid hq; omega) i e
      exact ⟨r, by rw [List.take_append_of_le_length (by omega), hr]⟩
    · rw [List.getElem?_append_right (by omega)] at e
      have hl : i - (posts (kids t)).length = 0 := by
        have := (List.getElem?_eq_some_iff.mp e).1
        simp at this
        omega
      rw [hl] at e
      obtain rfl : t = p := by simpa using e
      have ei : i = (posts (kids t)).length := by omega
      exact ⟨[], by rw [ei, List.take_append_of_le_length (Nat.le_refl _), List.take_length, List.nil_append]⟩
theorem kid_posts {c : Tr} : ∀ {ks : List Tr}, c ∈ ks → c ∈ posts ks
  | k :: r, h => by
    simp only [posts, List.mem_append]
    rcases List.mem_cons.mp h with rfl | h
    · exact .inl (by rw [post_eq]; simp)
    · exact .inr (kid_posts h)
/-! sizes -/
def stp (z : Str) (a p : Int × Int) : Int × Int := if z = "row" then (a.1 + p.1, if a.2 < p.2 then p.2 else a.2) else (if a.1 < p.1 then p.1 else a.1, a.2 + p.2)
def msr (z : Str) (ps : List (Int × Int)) : Int × Int := if ps = [] then (if z = "row" ∨ z = "col" then (0, 0) else (z.length, 1)) else ps.foldl (stp z) (0, 0)
mutual
def meas : Tr → Int × Int
  | .node _ l ks => msr l (meass ks)
def meass : List Tr → List (Int × Int)
  | [] => []
  | s :: r => meas s :: meass r
end
theorem meass_eq : ∀ ps, meass ps = ps.map meas
  | [] => by simp only [meass, List.map_nil]
  | s :: r => by simp only [meass, List.map_cons, meass_eq r]
theorem meas_eq (t : Tr) : meas t = msr (lbl t) ((kids t).map meas) := by
  cases t
  simp only [meas, lbl, kids, meass_eq]
/-! rectangles -/
abbrev Bx := Int × Int × Int × Int
mutual
def rects (x y : Int) : Tr → List (Str × Bx)
  | .node m l ks => (m, (x, y, (msr l (meass ks)).1, (msr l (meass ks)).2)) :: rectss (decide (l = "row")) x y ks
def rectss (row : Bool) (x y : Int) : List Tr → List (Str × Bx)
  | [] => []
  | k :: r => rects x y k ++ rectss row (if row then x + (meas k).1 else x) (if row then y else y + (meas k).2) r
end
theorem rects_eq (x y : Int) (t : Tr) : rects x y t = (mrk t, (x, y, (meas t).1, (meas t).2)) :: rectss (decide (lbl t = "row")) x y (kids t) := by
  cases t
  simp only [rects, mrk, lbl, kids, meas]
  first | rfl | (congr 2)
def offs (row : Bool) (x y : Int) : List Tr → List (Tr × Int × Int)
  | [] => []
  | k :: r => (k, x, y) :: offs row (if row then x + (meas k).1 else x) (if row then y else y + (meas k).2) r
def rectF : List (Tr × Int × Int) → List (Str × Bx)
  | [] => []
  | (t, x, y) :: r => rects x y t ++ rectF r
theorem rectss_eq (row : Bool) : ∀ (ks : List Tr) (x y : Int), rectss row x y ks = rectF (offs row x y ks)
  | [], _, _ => by simp only [rectss, offs, rectF]
  | k :: r, x, y => by simp only [rectss, offs, rectF, rectss_eq row r]
theorem rectF_app : ∀ xs ys, rectF (xs ++ ys) = rectF xs ++ rectF ys
  | [], ys => by simp only [List.nil_append, rectF]
  | (t, x, y) :: r, ys => by simp only [List.cons_append, rectF, rectF_app r ys, List.append_assoc]
mutual
theorem rects_marks (x y : Int) : ∀ t, (rects x y t).map (·.1) = (pre t).map mrk
  | .node m l ks => by simp only [rects, pre, List.map_cons, mrk, rectss_marks]
theorem rectss_marks (row : Bool) (x y : Int) : ∀ ts, (rectss row x y ts).map (·.1) = (pres ts).map mrk
  | [] => by simp only [rectss, pres, List.map_nil]
  | t :: r => by simp only [rectss, pres, List.map_append, rects_marks, rectss_marks]
end
def shf (a b : Int) (r : Str × Bx) : Str × Bx := (r.1, (r.2.1 + a, r.2.2.1 + b, r.2.2.2.1, r.2.2.2.2))
mutual
theorem rects_shift (a b x y : Int) : ∀ t, rects (x + a) (y + b) t = (rects x y t).map (shf a b)
  | .node m l ks => by
    simp only [rects, List.map_cons, shf, rectss_shift a b x y]
theorem rectss_shift (a b x y : Int) (row : Bool) : ∀ ts, rectss row (x + a) (y + b) ts = (rectss row x y ts).map (shf a b)
  | [] => by simp only [rectss, List.map_nil]
  | t :: r => by
    simp only [rectss, List.map_append, rects_shift a b x y]
    congr 1
    cases row
    · have e := rectss_shift a b x (y + (meas t).2) false r
      have e2 : y + (meas t).2 + b = y + b + (meas t).2 := by omega
      rw [e2] at e
      exact e
    · have e := rectss_shift a b (x + (meas t).1) y true r
      have e2 : x + (meas t).1 + a = x + a + (meas t).1 := by omega
      rw [e2] at e
      exact e
end
/-! the flat list of a tree -/
mutual
def fl (d : Nat) : Tr → List (Str × Str × Nat)
  | .node m l ks => (m, l, d) :: fls (d + 1) ks
def fls (d : Nat) : List Tr → List (Str × Str × Nat)
  | [] => []
  | s :: r => fl d s ++ fls d r
end
theorem fl_eq (d : Nat) (t : Tr) : fl d t = (mrk t, lbl t, d) :: fls (d + 1) (kids t) := by
  cases t
  simp only [fl, mrk, lbl, kids]
mutual
theorem fl_pre (d : Nat) : ∀ t, (fl d t).map (fun x => (x.1, x.2.1)) = (pre t).map fun t => (mrk t, lbl t)
  | .node m l ks => by simp only [fl, pre, List.map_cons, mrk, lbl, fls_pre]
theorem fls_pre (d : Nat) : ∀ ts, (fls d ts).map (fun x => (x.1, x.2.1)) = (pres ts).map fun t => (mrk t, lbl t)
  | [] => by simp only [fls, pres, List.map_nil]
  | t :: r => by simp only [fls, pres, List.map_append, fl_pre, fls_pre]
end
mutual
theorem fl_hgt (d : Nat) (n : Nat) : ∀ t, (∀ x ∈ fl d t, x.2.2 < n) → d + hgt t ≤ n
  | .node m l ks, h => by
    simp only [fl, List.mem_cons] at h
    have h0 := h (m, l, d) (.inl rfl)
    have h1 := fls_hgt (d + 1) n ks fun x hx => h x (.inr hx)
    simp only [hgt]
    rcases h1 with h1 | h1
    · rw [h1]; simp only [hgts]; show d + 1 ≤ n; exact h0
    · omega
theorem fls_hgt (d : Nat) (n : Nat) : ∀ ts, (∀ x ∈ fls d ts, x.2.2 < n) → ts = [] ∨ d + hgts ts ≤ n
  | [], _ => .inl rfl
  | t :: r, h => by
    simp only [fls, List.mem_append] at h
    have h0 := fl_hgt d n t fun x hx => h x (.inl hx)
    have h1 := fls_hgt d n r fun x hx => h x (.inr hx)
    refine .inr ?_
    simp only [hgts]
    rcases h1 with h1 | h1
    · rw [h1]; simp only [hgts]; omega
    · omega
end
/-! node values -/
theorem node_at {K : PySem.W.Frag} {G : Hp} {v : V} {t : Tr} (h : Dp K G v (toD t)) : ∃ a kv us, v = .ref a ∧ SqT K G a [.str (mrk t), .str (lbl t), .ref kv] ∧ SqT K G kv us ∧ DpAll K G us ((kids t).map toD) := by
  rw [toD_eq] at h
  obtain ⟨a, xs, rfl, h1, h2⟩ := dp_tup h
  obtain ⟨x1, r1, rfl, h3, h4⟩ := dpa_cons h2
  obtain ⟨x2, r2, rfl, h5, h6⟩ := dpa_cons h4
  obtain ⟨x3, r3, rfl, h7, h8⟩ := dpa_cons h6
  rw [dpa_nil h8] at h1
  obtain ⟨kv, us, rfl, h9, h10⟩ := dp_tup h7
  rw [dp_str h3, dp_str h5] at h1
  exact ⟨a, kv, us, rfl, h1, h9, h10⟩
theorem map_get {ps : List Tr} {i : Nat} {d : PyData} (h : (ps.map toD)[i]? = some d) : ∃ p, ps[i]? = some p ∧ d = toD p := by
  rw [List.getElem?_map] at h
  obtain ⟨p, h1, h2⟩ := Option.map_eq_some_iff.mp h
  exact ⟨p, h1, h2.symm⟩

section
variable {P : Program} {w : World} {K : PySem.W.Frag} {mg : Str → Option Value} {base : Heap}
end
end K22
set_option Elab.async false
set_option linter.all false
set_option maxRecDepth 100000
set_option maxHeartbeats 4000000
namespace K22
open PySem PySem.Spec PyProof.Rows L2 XL
section
variable {P : Program} {w : World} {K : PySem.W.Frag} {mg : Str → Option Value} {base : Heap}
/-! ### a tree out of its flat list -/
abbrev Fr3 := Str × Str × Nat
def Lv : Nat → List Fr3 → Prop
  | _, [] => True
  | p, x :: r => 1 ≤ x.2.2 ∧ x.2.2 ≤ p + 1 ∧ Lv x.2.2 r
def FlOk (fs : List Fr3) : Prop := ∃ x r, fs = x :: r ∧ x.2.2 = 0 ∧ Lv 0 r
theorem lv_pos : ∀ {p : Nat} {r : List Fr3}, Lv p r → ∀ x ∈ r, 1 ≤ x.2.2
  | _, y :: r, h, x, hx => by
    rcases List.mem_cons.mp hx with rfl | hx
    · exact h.1
    · exact lv_pos h.2.2 x hx
/-- the next one is at most one deeper -/
theorem lv_next : ∀ {p : Nat} {r : List Fr3} {i : Nat} {x y : Fr3}, Lv p r → r[i]? = some x → r[i + 1]? = some y → y.2.2 ≤ x.2.2 + 1
  | _, a :: b :: r, 0, x, y, h, e1, e2 => by
    simp at e1 e2
    subst e1 e2
    exact h.2.2.2.1
  | _, a :: r, i + 1, x, y, h, e1, e2 => by
    rw [List.getElem?_cons_succ] at e1 e2
    exact lv_next h.2.2 e1 e2
  | _, [], _, _, _, _, e1, _ => by simp at e1
  | _, [a], 0, x, y, _, e1, e2 => by simp at e2
theorem fl_next {fs : List Fr3} (h : FlOk fs) {i : Nat} {x y : Fr3} (e1 : fs[i]? = some x) (e2 : fs[i + 1]? = some y) : y.2.2 ≤ x.2.2 + 1 := by
  obtain ⟨a, r, rfl, h0, hl⟩ := h
  cases i with
  | zero =>
    simp at e1
    subst e1
    rw [List.getElem?_cons_succ] at e2
    cases r with
    | nil => simp at e2
    | cons b r =>
      simp at e2
      subst e2
      have := hl.2.1
      omega
  | succ i =>
    rw [List.getElem?_cons_succ] at e1 e2
    exact lv_next hl e1 e2
theorem fl_later {fs : List Fr3} (h : FlOk fs) {i : Nat} {x : Fr3} (hi : 1 ≤ i) (e : fs[i]? = some x) : 1 ≤ x.2.2 := by
  obtain ⟨a, r, rfl, h0, hl⟩ := h
  obtain ⟨j, rfl⟩ : ∃ j, i = j + 1 := ⟨i - 1, by omega⟩
  rw [List.getElem?_cons_succ] at e
  exact lv_pos hl x (List.mem_of_getElem? e)
/-- what a stack of trees tells -/
def told : List (Nat × Tr) → List Fr3
  | [] => []
  | (d, t) :: r => fl d t ++ told r
theorem told_same {d : Nat} : ∀ (ts : List Tr) (r : List (Nat × Tr)), told (ts.map (fun t => (d, t)) ++ r) = fls d ts ++ told r
  | [], r => by simp only [List.map_nil, List.nil_append, fls]
  | t :: ts, r => by simp only [List.map_cons, List.cons_append, told, fls, told_same ts r, List.append_assoc]
def RdAt (K : PySem.W.Frag) (G : Hp) (v : V) (p : Nat × Tr) : Prop := ∃ a nv, v = .ref a ∧ G a = some (.tup [.int (p.1 : Nat), nv]) ∧ Dp K G nv (toD p.2)
theorem RdAt.same {K : PySem.W.Frag} {G G' : Hp} {v : V} {p : Nat × Tr} (e : Same G G') (h : RdAt K G v p) : RdAt K G' v p := by
  obtain ⟨a, nv, h1, h2, h3⟩ := h
  exact ⟨a, nv, h1, e _ _ h2, dp_same e h3⟩
def FlAt (G : Hp) (v : V) (p : Fr3) : Prop := ∃ a, v = .ref a ∧ G a = some (.tup [.str p.1, .str p.2.1, .int (p.2.2 : Nat)])
theorem FlAt.same {G G' : Hp} {v : V} {p : Fr3} (e : Same G G') (h : FlAt G v p) : FlAt G' v p := by
  obtain ⟨a, h1, h2⟩ := h
  exact ⟨a, h1, e _ _ h2⟩
def spGrown (K : PySem.W.Frag) : Sp := fun vs H Q _ => ∃ (G : Hp) (M : List (Addr × HO)) (l : Addr) (us : List V) (fs : List Fr3), vs = [.ref l] ∧ Sep G M H ∧ G l = some (.lst us) ∧ Paired (FlAt G) us fs ∧ FlOk fs ∧ fs.length ≤ 1000 ∧
  ∀ (v : V) (t : Tr) (G' H' : Hp), Same G G' → Dp K G' v (toD t) → fl 0 t = fs → Sep G' M H' → Q v H'
theorem atI_last {α : Type} (xs : List α) (x : α) : atI (xs ++ [x]) (-1) = some x := by
  unfold atI ixN
  rw [if_neg (by omega), List.length_append]
  have e : (-1 + ((xs.length + [x].length : Nat) : Int)).toNat = xs.length := by simp; omega
  rw [if_pos (by simp; omega), e]
  simp
theorem prd_unsnoc {α β : Type} {F : α → β → Prop} {xs : List α} {x : α} {ys : List β} (h : Paired F (xs ++ [x]) ys) : ∃ ys' y, ys = ys' ++ [y] ∧ Paired F xs ys' ∧ F x y := by
  induction xs generalizing ys with
  | nil =>
    cases h with
    | cons h t =>
      cases t
      exact ⟨[], _, rfl, .nil, h⟩
  | cons a xs ih =>
    cases h with
    | cons h t =>
      obtain ⟨ys', y, rfl, h1, h2⟩ := ih t
      exact ⟨_ :: ys', y, rfl, .cons h h1, h2⟩
theorem nil_or_snoc {α : Type} (xs : List α) : xs = [] ∨ ∃ ys y, xs = ys ++ [y] := by
  rcases List.eq_nil_or_concat xs with h | ⟨ys, y, h⟩
  · exact .inl h
  · exact .inr ⟨ys, y, by rw [h, List.concat_eq_append]⟩
theorem rev_cons {α : Type} {xs ys : List α} {y : α} (h : xs.reverse = ys ++ [y]) : ∃ r, xs = y :: r ∧ r.reverse = ys := by
  cases xs with
  | nil => simp at h
  | cons a r =>
    rw [List.reverse_cons] at h
    obtain ⟨h1, h2⟩ := List.append_inj' h rfl
    cases h2
    exact ⟨r, rfl, h1⟩
theorem told_head {rd : List (Nat × Tr)} {d : Nat} {t : Tr} : told ((d, t) :: rd) = (mrk t, lbl t, d) :: (fls (d + 1) (kids t) ++ told rd) := by
  simp only [told, fl_eq, List.cons_append]
theorem ok_grown (T : Top K mg w) {k : Nat} : FnOk P w K mg base CX0 (k + 1) T.a_grown T.d_grown ["_law_flat_here"] (spGrown K) := by
  refine T.F_grown.ok sc_grown (fun vs H Q E h => ?_) (fun cdv A outer s H vs Q E hr h => ?_)
  · obtain ⟨G, M, l, us, fs, rfl, _⟩ := h
    rfl
  · obtain ⟨G, M, l, us, fs, rfl, S, hl, hus, ok, fl1000, q⟩ := h
    refine ⟨_, (pss_cons (ps_set (i := 1) sc_grown.nd rfl (.inl rfl) (pe_lst pa_nil))
      (pss_cons (ps_for PassesOwn.never rfl (pi_range3 (by rfl) T.m_range (pa_cons (pe_op op_subY (pe_callB (cr_lenK K) (by rfl) T.m_len (by decide +kernel) (pa_cons (xv 0) pa_nil)) pe_int) (pa_cons (pe_un un_neg pe_int) (pa_cons (pe_un un_neg pe_int) pa_nil)))) (pg_name (i := 2) sc_grown.nd rfl (.inl rfl))
      (pss_cons (ps_set (i := 3) sc_grown.nd rfl (.inl rfl) (pe_lst pa_nil))
      (pss_cons (xs_while PassesOwn.never (PW.pt (xw_and (xt_truK K (xv 1)) (pw_and1 (xt_cmp op_gtY (pe_ix (ix_k K) (pe_ix (ix_k K) (xv 1) (pe_un un_neg pe_int) (fun _ _ => rfl)) pe_int (fun _ _ => rfl)) (pe_ix (ix_k K) (pe_ix (ix_k K) (xv 0) (xv 2) (fun _ _ => rfl)) pe_int (fun _ _ => rfl)) (nomark _)))))
      (pss_one (ps_expr (pe_bmK K PySem.F.plainAttrs_list PySem.F.slot_list_append PySem.F.type_list_append mt_append (xv 3) (pa_cons (pe_ix (ix_k K) (pe_bm0 PySem.F.plainAttrs_list PySem.F.slot_list_pop PySem.F.type_list_pop mt_pop (xv 1)) pe_int (fun _ _ => rfl)) pa_nil)))))
      (pss_one (ps_expr (pe_bmK K PySem.F.plainAttrs_list PySem.F.slot_list_append PySem.F.type_list_append mt_append (xv 1) (pa_cons (pe_tup (pa_cons (pe_ix (ix_k K) (pe_ix (ix_k K) (xv 0) (xv 2) (fun _ _ => rfl)) pe_int (fun _ _ => rfl)) (pa_cons (pe_tup (pa_cons (pe_ix (ix_k K) (pe_ix (ix_k K) (xv 0) (xv 2) (fun _ _ => rfl)) pe_int (fun _ _ => rfl)) (pa_cons (pe_ix (ix_k K) (pe_ix (ix_k K) (xv 0) (xv 2) (fun _ _ => rfl)) pe_int (fun _ _ => rfl)) (pa_cons (pe_callTy (call_tupleK K) (by rfl) T.m_tuple (by decide +kernel) (pa_cons (xv 3) pa_nil)) pa_nil)))) pa_nil))) pa_nil)))))))
      (pss_one (ps_ret (pe_ix (ix_k K) (pe_ix (ix_k K) (xv 1) pe_int (fun _ _ => rfl)) pe_int (fun _ _ => rfl)))))), ?_⟩
    have ul := prd_len hus
    refine ⟨sz, fun R nR => ?_⟩
    have S1 := S.new (o := .lst []) nR
    refine ⟨_, .inl (SqL.of (S1.st hl)), 1, rfl, 1, rfl, (us.length : Int) - 1, -1, -1, us.length, rfl, ?_, for_rangeC (lo := (us.length : Int) - 1) (c := -1) (n := us.length) (fun i σ H' => ∃ (y2 y3 : Option V) (ws : List V) (rd : List (Nat × Tr)) (G' : Hp), σ = [some (.ref l), some (.ref R), y2, y3] ∧
      Same G G' ∧ Paired (RdAt K G') ws rd.reverse ∧ told rd = fs.drop (fs.length - i) ∧ (rd.map (·.1)).Pairwise (· ≥ ·) ∧ rd.length ≤ i ∧ Sep G' ((R, .lst ws) :: M) H') ⟨_, _, [], [], G, rfl, Same.refl _, .nil, by simp [told], .nil, Nat.le_refl _, S1⟩ (fun i σ H' hi h => ?_) (fun σ H' h => ?_)⟩
    · have z := RgC.neg (i := (us.length : Int) - 1) (j := -1) (by omega) (by omega) (by omega) (by omega)
      have e1 : ((us.length : Int) - 1 - -1).toNat = us.length := by omega
      rw [e1] at z
      exact z
    · obtain ⟨y2, y3, ws, rd, G1, rfl, s1, hws, htold, hpw, hrl, S2⟩ := h
      have ek : ((us.length : Int) - 1 + (i : Nat) * (-1)) = ((us.length - 1 - i : Nat) : Int) := by omega
      rw [ek]
      obtain ⟨u, hu⟩ : ∃ u, us[us.length - 1 - i]? = some u := ⟨_, List.getElem?_eq_getElem (by omega)⟩
      obtain ⟨x, hx, ax, rfl, hax⟩ := prd_get hus hu
      have hdrop : fs.drop (fs.length - (i + 1)) = x :: fs.drop (fs.length - i) := by
        have e : fs.length - (i + 1) = us.length - 1 - i := by omega
        rw [e, List.drop_eq_getElem_cons (by omega)]
        have hx2 := (List.getElem?_eq_some_iff.mp hx).2
        rw [hx2]
        congr 2
        omega
      refine ⟨sz, fun Bn nB => ?_⟩
      have S3 := S2.new (o := .lst []) nB
      refine ⟨fun m σ H' => ∃ (ws' bs : List V) (pp rd' : List (Nat × Tr)), σ = [some (.ref l), some (.ref R), some (.int ((us.length - 1 - i : Nat) : Int)), some (.ref Bn)] ∧ rd = pp ++ rd' ∧ m = rd'.length ∧ (∀ p ∈ pp, x.2.2 < p.1) ∧ Paired (RdAt K G1) ws' rd'.reverse ∧
        DpAll K G1 bs ((pp.map (·.2)).map toD) ∧ Sep G1 ((Bn, .lst bs) :: (R, .lst ws') :: M) H', ⟨rd.length, ws, [], [], rd, rfl, rfl, rfl, (fun _ h => nomatch h), hws, .nil, S3⟩, fun m σ H4 h => ?_⟩
      obtain ⟨ws', bs, pp, rd', rfl, erd, rfl, hpp, hws', hbs, S4⟩ := h
      have hl4 := S4.st (s1 _ _ hl)
      have hax4 := S4.st (s1 _ _ hax)
      have eK : atI us ((us.length - 1 - i : Nat) : Int) = some (.ref ax) := atI_nat hu
      have rdl : rd.length = pp.length + rd'.length := by rw [erd, List.length_append]
      have main : (∀ p ∈ rd', p.1 ≤ x.2.2) → ∃ ts : List Tr, pp = ts.map (fun t => (x.2.2 + 1, t)) := fun hle => by
        have all : ∀ p ∈ pp, p.1 = x.2.2 + 1 := fun p hp => by
          have h1 := hpp p hp
          have h2 : p.1 ≤ x.2.2 + 1 := by
            cases hpc : pp with
            | nil => rw [hpc] at hp; cases hp
            | cons p0 pr =>
              have e0 : p0.1 ≤ x.2.2 + 1 := by
                obtain ⟨d0, t0⟩ := p0
                have ed := htold
                rw [erd, hpc, List.cons_append, told_head] at ed
                have hy : fs[fs.length - i]? = some (mrk t0, lbl t0, d0) := by
                  have e2 := congrArg List.head? ed
                  rw [List.head?_drop] at e2
                  exact e2.symm
                have e3 : fs.length - i = (us.length - 1 - i) + 1 := by omega
                rw [e3] at hy
                exact fl_next ok hx hy
              have hpw2 := hpw
              rw [erd, hpc, List.cons_append, List.map_cons, List.pairwise_cons] at hpw2
              rw [hpc] at hp
              rcases List.mem_cons.mp hp with rfl | hp
              · exact e0
              · have := hpw2.1 p.1 (List.mem_map_of_mem (List.mem_append_left _ hp))
                omega
          omega
        refine ⟨pp.map (·.2), ?_⟩
        rw [List.map_map]
        have : pp.map ((fun t => (x.2.2 + 1, t)) ∘ fun p => p.2) = pp.map id := List.map_congr_left fun p hp => by
          show (x.2.2 + 1, p.2) = p
          rw [← all p hp]
        rw [this, List.map_id]
      have wl := prd_len hws'
      rw [List.length_reverse] at wl
      rcases nil_or_snoc ws' with ew | ⟨wp, w0, ew⟩
      · subst ew
        have hle : ∀ p ∈ rd', p.1 ≤ x.2.2 := fun p hp => by
          have : rd' = [] := List.length_eq_zero_iff.mp (by rw [← wl]; rfl)
          rw [this] at hp
          cases hp
        refine ⟨!([] : List V).isEmpty, .inl ⟨_, SqL.of S4.sw.hd, rfl⟩, (fun e => nomatch e), fun e => ⟨ff, fun _ => ?f1⟩⟩
        case f1 =>
          obtain ⟨ts, ets⟩ := main hle
          have e2 : pp.map (·.2) = ts := by
            rw [ets, List.map_map]
            exact List.map_id _
          rw [e2] at hbs
          refine ⟨.inl ⟨rfl, _, SqL.of S4.sw.hd⟩, _, _, .inl (SqL.of hl4), eK, _, _, .inr (SqT.of hax4), atI_nat (j := 2) rfl, _, _, .inl (SqL.of hl4), eK, _, _, .inr (SqT.of hax4), atI_nat (j := 0) rfl, _, _, .inl (SqL.of hl4), eK, _, _, .inr (SqT.of hax4), atI_nat (j := 1) rfl,
            Bn, bs, rfl, .inl ⟨SqL.of S4.hd, fun t5 nt5 => ?_⟩⟩
          obtain ⟨G5, s5, S5, h5⟩ := Sep.mk (o := .tup bs) S4 nt5
          refine ⟨sz, fun t6 nt6 => ?_⟩
          obtain ⟨G6, s6, S6, h6⟩ := Sep.mk (o := .tup [.str x.1, .str x.2.1, .ref t5]) S5 nt6
          refine ⟨sz, fun t7 nt7 => ?_⟩
          obtain ⟨G7, s7, S7, h7⟩ := Sep.mk (o := .tup [.int (x.2.2 : Nat), .ref t6]) S6 nt7
          have s17 := s5.trans (s6.trans s7)
          have dt : Dp K G7 (.ref t6) (toD (.node x.1 x.2.1 ts)) := by
            rw [toD_eq]
            exact .tup (SqT.of (s7 _ _ h6)) (.cons (.str _) (.cons (.str _) (.cons (.tup (SqT.of (s7 _ _ (s6 _ _ h5))) (dpa_same s17 hbs)) .nil)))
          refine ⟨R, [], .ref t7, rfl, rfl, S7.sw.hd, smallL (by omega), _, _, [] ++ [.ref t7], (x.2.2, .node x.1 x.2.1 ts) :: rd', G7, rfl, s1.trans s17, ?_, ?_, ?_, by rw [List.length_cons]; omega, S7.drop.set⟩
          · rw [List.reverse_cons]
            exact prd_app (prd_imp (fun _ _ => RdAt.same s17) hws') (.cons ⟨t7, .ref t6, rfl, h7, dt⟩ .nil)
          · rw [hdrop, told_head]
            have e3 := htold
            rw [erd, ets, told_same] at e3
            rw [← e3]
            rfl
          · rw [List.map_cons, List.pairwise_cons]
            refine ⟨fun n hn => ?_, ?_⟩
            · obtain ⟨p, hp, rfl⟩ := List.mem_map.mp hn
              exact hle p hp
            · have hpw2 := hpw
              rw [erd, List.map_append, List.pairwise_append] at hpw2
              exact hpw2.2.1
      · subst ew
        obtain ⟨rr, p0, err, hwp, hp0⟩ := prd_unsnoc hws'
        obtain ⟨rt, ert, err2⟩ := rev_cons err
        subst ert
        have hp0' := hp0
        obtain ⟨a0, nv, rfl, ha0, hnv⟩ := hp0
        have ha4 := S4.st ha0
        have ne : (!(wp ++ [V.ref a0]).isEmpty) = true := by simp
        by_cases hgt : x.2.2 < p0.1
        · refine ⟨!(wp ++ [V.ref a0]).isEmpty, .inl ⟨_, SqL.of S4.sw.hd, rfl⟩, fun _ => ⟨1, rfl, _, _, .inl (SqL.of S4.sw.hd), atI_last _ _, _, _, .inr (SqT.of ha4), atI_nat (j := 0) rfl, _, _, .inl (SqL.of hl4), eK, _, _, .inr (SqT.of hax4), atI_nat (j := 2) rfl, fun _ => ?_, fun e => absurd (show (x.2.2 : Int) < (p0.1 : Int) by omega) (of_decide_eq_false e)⟩, fun e => absurd (ne.symm.trans e) (by decide)⟩
          have S5 := S4.sw.set (o' := .lst wp)
          have ppl : pp.length + 1 ≤ rd.length := by rw [rdl, List.length_cons]; omega
          have bl := dpa_len hbs
          rw [List.length_map, List.length_map] at bl
          refine ⟨.inl ⟨rfl, _, SqL.of S4.hd⟩, .inl ⟨rfl, _, SqL.of S4.sw.hd⟩, R, wp ++ [V.ref a0], .ref a0, rfl, rfl, S4.sw.hd, by simp, ?_⟩
          rw [List.dropLast_concat]
          refine ⟨_, _, .inr (SqT.of (S5.st ha0)), atI_nat (j := 1) rfl, Bn, bs, nv, rfl, rfl, S5.sw.hd, smallL (by omega), ?_⟩
          refine ⟨rt.length, by rw [List.length_cons]; omega, wp, bs ++ [nv], pp ++ [p0], rt, rfl, by rw [erd, List.append_assoc]; rfl, rfl, fun p hp => ?_, by rw [err2]; exact hwp, ?_, S5.sw.set⟩
          · rcases List.mem_append.mp hp with z | z
            · exact hpp p z
            · rw [List.mem_singleton.mp z]
              exact hgt
          · rw [List.map_append, List.map_append]
            exact dpa_app hbs (dpa_one hnv)
        · have hle : ∀ p ∈ p0 :: rt, p.1 ≤ x.2.2 := fun p hp => by
            have hpw2 := hpw
            rw [erd, List.map_append, List.pairwise_append] at hpw2
            have h3 := hpw2.2.1
            rw [List.map_cons, List.pairwise_cons] at h3
            rcases List.mem_cons.mp hp with rfl | hp
            · omega
            · have := h3.1 p.1 (List.mem_map_of_mem hp)
              omega
          refine ⟨!(wp ++ [V.ref a0]).isEmpty, .inl ⟨_, SqL.of S4.sw.hd, rfl⟩, fun _ => ⟨1, rfl, _, _, .inl (SqL.of S4.sw.hd), atI_last _ _, _, _, .inr (SqT.of ha4), atI_nat (j := 0) rfl, _, _, .inl (SqL.of hl4), eK, _, _, .inr (SqT.of hax4), atI_nat (j := 2) rfl, fun e => absurd (show (x.2.2 : Int) < (p0.1 : Int) from of_decide_eq_true e) (by omega), fun _ => ?f2⟩, fun e => absurd (ne.symm.trans e) (by decide)⟩
          case f2 =>
            obtain ⟨ts, ets⟩ := main hle
            have e2 : pp.map (·.2) = ts := by
              rw [ets, List.map_map]
              exact List.map_id _
            rw [e2] at hbs
            refine ⟨.inl ⟨rfl, _, SqL.of S4.sw.hd⟩, _, _, .inl (SqL.of hl4), eK, _, _, .inr (SqT.of hax4), atI_nat (j := 2) rfl, _, _, .inl (SqL.of hl4), eK, _, _, .inr (SqT.of hax4), atI_nat (j := 0) rfl, _, _, .inl (SqL.of hl4), eK, _, _, .inr (SqT.of hax4), atI_nat (j := 1) rfl,
              Bn, bs, rfl, .inl ⟨SqL.of S4.hd, fun t5 nt5 => ?_⟩⟩
            obtain ⟨G5, s5, S5, h5⟩ := Sep.mk (o := .tup bs) S4 nt5
            refine ⟨sz, fun t6 nt6 => ?_⟩
            obtain ⟨G6, s6, S6, h6⟩ := Sep.mk (o := .tup [.str x.1, .str x.2.1, .ref t5]) S5 nt6
            refine ⟨sz, fun t7 nt7 => ?_⟩
            obtain ⟨G7, s7, S7, h7⟩ := Sep.mk (o := .tup [.int (x.2.2 : Nat), .ref t6]) S6 nt7
            have s17 := s5.trans (s6.trans s7)
            have dt : Dp K G7 (.ref t6) (toD (.node x.1 x.2.1 ts)) := by
              rw [toD_eq]
              exact .tup (SqT.of (s7 _ _ h6)) (.cons (.str _) (.cons (.str _) (.cons (.tup (SqT.of (s7 _ _ (s6 _ _ h5))) (dpa_same s17 hbs)) .nil)))
            refine ⟨R, (wp ++ [V.ref a0]), .ref t7, rfl, rfl, S7.sw.hd, smallL (by omega), _, _, (wp ++ [V.ref a0]) ++ [.ref t7], (x.2.2, .node x.1 x.2.1 ts) :: (p0 :: rt), G7, rfl, s1.trans s17, ?_, ?_, ?_, by rw [List.length_cons]; omega, S7.drop.set⟩
            · rw [List.reverse_cons]
              exact prd_app (prd_imp (fun _ _ => RdAt.same s17) hws') (.cons ⟨t7, .ref t6, rfl, h7, dt⟩ .nil)
            · rw [hdrop, told_head]
              have e3 := htold
              rw [erd, ets, told_same] at e3
              rw [← e3]
              rfl
            · rw [List.map_cons, List.pairwise_cons]
              refine ⟨fun n hn => ?_, ?_⟩
              · obtain ⟨p, hp, rfl⟩ := List.mem_map.mp hn
                exact hle p hp
              · have hpw2 := hpw
                rw [erd, List.map_append, List.pairwise_append] at hpw2
                exact hpw2.2.1
    · obtain ⟨y2, y3, ws, rd, G1, rfl, s1, hws, htold, hpw, hrl, S2⟩ := h
      rw [ul, Nat.sub_self, List.drop_zero] at htold
      obtain ⟨x0, r0, ef, hx0, hlv⟩ := id ok
      cases rd with
      | nil =>
        rw [ef] at htold
        simp [told] at htold
      | cons p rd =>
        obtain ⟨d, t⟩ := p
        rw [told_head, ef] at htold
        injection htold with h1 h2
        have hd : d = 0 := by rw [← h1] at hx0; exact hx0
        have er : rd = [] := by
          cases rd with
          | nil => rfl
          | cons p2 rd =>
            obtain ⟨d2, t2⟩ := p2
            have hm : (mrk t2, lbl t2, d2) ∈ r0 := by
              rw [← h2, told_head]
              simp
            have h3 := lv_pos hlv _ hm
            rw [List.map_cons, List.pairwise_cons] at hpw
            have h4 := hpw.1 d2 (by simp)
            have h3' : 1 ≤ d2 := h3
            omega
        subst er hd
        have hws1 : Paired (RdAt K G1) ws [(0, t)] := hws
        cases hws1 with
        | cons hw ht =>
          cases ht
          obtain ⟨a0, nv, rfl, ha0, hnv⟩ := hw
          refine ⟨_, _, .inl (SqL.of S2.hd), atI_nat (j := 0) rfl, _, _, .inr (SqT.of (S2.st ha0)), atI_nat (j := 1) rfl, q nv t G1 H' s1 hnv ?_ S2.drop⟩
          rw [ef, fl_eq, ← h1, ← h2]
          simp [told]

end
end K22
set_option Elab.async false
set_option linter.all false
set_option maxRecDepth 100000
set_option maxHeartbeats 4000000
namespace K22
open PySem PySem.Spec PyProof.Rows L2 XL
section
variable {P : Program} {w : World} {K : PySem.W.Frag} {mg : Str → Option Value} {base : Heap}
/-! ### drawn marks, flat lists -/
theorem num3 : ∀ n : Nat, n < 997 → PySem.intText? ((toString ((n : Nat) : Int) : String) : Str) = some ((n : Nat) : Int) ∧ (Nat.ble 1 ((toString ((n : Nat) : Int) : String) : Str).length && Nat.ble ((toString ((n : Nat) : Int) : String) : Str).length 3 && ((toString ((n : Nat) : Int) : String) : Str).cps.toList.all fun c => decide (c < 128)) = true := by decide +kernel
theorem cop997 : ∀ s : Nat, s < 997 → 0 < s → Nat.gcd 997 s = 1 := by decide +kernel
def nOf (a b : Nat) (k : Nat) : Nat := (a + k * b) % 997
theorem nOf_inj {a b i j : Nat} (hb : b < 997) (hb0 : 0 < b) (hi : i < 997) (hj : j < 997) (h : nOf a b i = nOf a b j) : i = j := by
  have key : ∀ {i j : Nat}, i < 997 → j ≤ i → nOf a b i = nOf a b j → i = j := fun {i j} hi hji h => by
    unfold nOf at h
    have e : a + i * b = (a + j * b) + (i - j) * b := by
      rw [Nat.sub_mul]
      have := Nat.mul_le_mul_right b hji
      omega
    rw [e] at h
    have h2 : 997 ∣ (i - j) * b := by
      refine Nat.dvd_of_mod_eq_zero ?_
      generalize a + j * b = u at *
      generalize (i - j) * b = v at *
      omega
    have h5 : 997 ∣ (i - j) := Nat.Coprime.dvd_of_dvd_mul_right (show Nat.Coprime 997 b from cop997 b hb hb0) h2
    obtain ⟨c, hc⟩ := h5
    cases c with
    | zero => omega
    | succ c => omega
  rcases Nat.le_total j i with h1 | h1
  · exact key hi h1 h
  · exact (key hj h1 h.symm).symm
def mkO (l r : Str) (a b k : Nat) : Str := l ++ ((toString ((nOf a b k : Nat) : Int) : String) : Str) ++ r
theorem nOf_lt (a b k : Nat) : nOf a b k < 997 := Nat.mod_lt _ (by decide)
theorem num_tx3 (a b k : Nat) : Tx 1 3 ((toString ((nOf a b k : Nat) : Int) : String) : Str) := Tx.lit _ (num3 _ (nOf_lt a b k)).2
theorem mkO_inj {l r : Str} {a b i j : Nat} (hb : b < 997) (hb0 : 0 < b) (hi : i < 997) (hj : j < 997) (h : mkO l r a b i = mkO l r a b j) : i = j := by
  have e := congrArg (fun z : Str => z.cps.toList) h
  unfold mkO at e
  simp only [app_tl] at e
  have e2 := List.append_cancel_left (List.append_cancel_right e)
  have e3 : ((toString ((nOf a b i : Nat) : Int) : String) : Str) = ((toString ((nOf a b j : Nat) : Int) : String) : Str) := by
    have : ∀ x y : Str, x.cps.toList = y.cps.toList → x = y := fun x y h => by
      cases x; cases y
      simp at h
      rw [h]
    exact this _ _ e2
  have e4 := (num3 _ (nOf_lt a b i)).1
  rw [e3, (num3 _ (nOf_lt a b j)).1] at e4
  exact nOf_inj (a := a) hb hb0 hi hj (by
    have := Option.some.inj e4
    omega)
theorem nd_map {α β : Type} {f : α → β} : ∀ {l : List α}, (∀ i j, i ∈ l → j ∈ l → f i = f j → i = j) → l.Nodup → (l.map f).Nodup
  | [], _, _ => List.nodup_nil
  | x :: l, h, nd => by
    rw [List.nodup_cons] at nd
    rw [List.map_cons, List.nodup_cons]
    refine ⟨fun hm => ?_, nd_map (fun i j hi hj => h i j (List.mem_cons_of_mem _ hi) (List.mem_cons_of_mem _ hj)) nd.2⟩
    obtain ⟨y, hy, e⟩ := List.mem_map.mp hm
    have := h y x (List.mem_cons_of_mem _ hy) List.mem_cons_self e
    rw [this] at hy
    exact nd.1 hy
theorem lg997 {n : Nat} (h : n < 997) : ((n : Nat) : Int).natAbs.log2 < 1920 := by
  have : ∀ n : Nat, n < 997 → n.log2 < 1920 := by decide +kernel
  exact this n h
def spMarks : Sp := fun vs H Q _ => ∃ (G : Hp) (M : List (Addr × HO)) (b : Addr) (o : HO) (c : Nat), vs = [.ref b, .int (c : Nat)] ∧ Sep G ((b, o) :: M) H ∧ Bag G o ∧ c ≤ 400 ∧
  ∀ (D : Addr) (zs : List Str) (o' : HO) (G' H' : Hp), Same G G' → G' D = some (.lst (zs.map V.str)) → zs.length = c → zs.Nodup → (∀ z ∈ zs, Tx 1 59 z) → Bag G' o' → Sep G' ((b, o') :: M) H' → Q (.ref D) H'
theorem ok_marks (T : Top K mg w) {k : Nat} (G_pick : FnOk P w K mg base CX0 k T.a_pick T.d_pick ["_law_bag_here", "_law_many"] spPick) (G_text : FnOk P w K mg base CX0 (k + 1) T.a_text T.d_text ["_law_bag_here", "_law_least", "_law_most"] spText) : FnOk P w K mg base CX0 (k + 2) T.a_marks T.d_marks ["_law_bag_here", "_law_count"] spMarks := by
  refine T.F_marks.ok sc_marks (fun vs H Q E h => ?_) (fun cdv A outer s H vs Q E hr h => ?_)
  · obtain ⟨G, M, b, o, c, rfl, _⟩ := h
    rfl
  · obtain ⟨G, M, b, o, c, rfl, S, B, c4, q⟩ := h
    refine ⟨_, (pss_cons (ps_set (i := 2) sc_marks.nd rfl (.inl rfl) (pe_ix (ix_k K) (pe_lst (pa_cons pe_int (pa_cons pe_int (pa_cons pe_int (pa_cons pe_int pa_nil))))) (pe_call G_pick (hr.mono (by omega)) (by rfl) T.g_pick T.F_pick.kp T.b_pick .nil pass0 (pa_cons (xv 0) (pa_cons pe_int pa_nil))) (fun _ _ => rfl)))
      (pss_cons (ps_set (i := 3) sc_marks.nd rfl (.inr rfl) (pe_call G_text (hr.mono (by omega)) (by rfl) T.g_text T.F_text.kp T.b_text .nil pass0 (pa_cons (xv 0) (pa_cons pe_int (pa_cons (xv 2) pa_nil)))))
      (pss_cons (ps_set (i := 4) sc_marks.nd rfl (.inr rfl) (pe_call G_text (hr.mono (by omega)) (by rfl) T.g_text T.F_text.kp T.b_text .nil pass0 (pa_cons (xv 0) (pa_cons pe_int (pa_cons (xv 2) pa_nil)))))
      (pss_cons (ps_set (i := 5) sc_marks.nd rfl (.inr rfl) (pe_op op_addY pe_int (pe_call G_pick (hr.mono (by omega)) (by rfl) T.g_pick T.F_pick.kp T.b_pick .nil pass0 (pa_cons (xv 0) (pa_cons pe_int pa_nil)))))
      (pss_cons (ps_set (i := 6) sc_marks.nd rfl (.inr rfl) (pe_call G_pick (hr.mono (by omega)) (by rfl) T.g_pick T.F_pick.kp T.b_pick .nil pass0 (pa_cons (xv 0) (pa_cons pe_int pa_nil))))
      (pss_one (ps_ret (pe_lc (own := [("_law_k", 7)]) (by rfl) sc_marks.nd (pi_range1 (by rfl) T.m_range (pa_cons (xv 1) pa_nil)) (blkOk_by (N := ["_law_bag_here", "_law_count", "_law_most", "_law_left", "_law_right", "_law_step", "_law_start", "_law_k"]) (sc := defScope s_marks) (by decide +kernel)) (fun _ _ _ _ _ => (pg_name (i := 7) sc_marks.nd rfl (.inl rfl))) (fun _ _ _ _ _ => pts_nil) (fun _ _ _ _ _ => (pe_op op_addY (pe_op op_addY (xv 3) (pe_callTy cr_strI (by rfl) T.m_str (by decide +kernel) (pa_cons (pe_op op_modY (pe_callTy cr_int (by rfl) T.m_int (by decide +kernel) (pa_cons (pe_op op_addY (xv 6) (pe_op op_mulY (xv 7) (xv 5))) pa_nil)) pe_int) pa_nil))) (xv 4))))))))))), ?_⟩
    refine ⟨sz, fun l1 nl1 => ?_⟩
    obtain ⟨G1, s1, S1, h1⟩ := Sep.mk (o := .lst [.int 3, .int 3, .int 3, .int 28]) S nl1
    refine ⟨G1, _, b, o, 4, rfl, S1, B.same s1, by decide, by decide, fun r2 o2 H2 r20 r21 B2 S2 => ?_⟩
    obtain ⟨m, hm, m28⟩ : ∃ m : Nat, atI [V.int 3, .int 3, .int 3, .int 28] r2 = some (.int (m : Nat)) ∧ m ≤ 28 := by
      rcases (by omega : r2 = 0 ∨ r2 = 1 ∨ r2 = 2 ∨ r2 = 3) with rfl | rfl | rfl | rfl
      · exact ⟨3, atI_nat (j := 0) rfl, by decide⟩
      · exact ⟨3, atI_nat (j := 1) rfl, by decide⟩
      · exact ⟨3, atI_nat (j := 2) rfl, by decide⟩
      · exact ⟨28, atI_nat (j := 3) rfl, by decide⟩
    refine ⟨_, _, .inl (SqL.of (S2.st h1)), hm, ?_⟩
    refine ⟨G1, _, b, o2, 0, m, rfl, S2, B2, Nat.zero_le _, by omega, fun z3 o3 H3 t3 B3 S3 => ?_⟩
    refine ⟨G1, _, b, o3, 0, m, rfl, S3, B3, Nat.zero_le _, by omega, fun z4 o4 H4 t4 B4 S4 => ?_⟩
    refine ⟨G1, _, b, o4, 996, rfl, S4, B4, by decide, by decide, fun r5 o5 H5 r50 r51 B5 S5 => ?_⟩
    refine ⟨G1, _, b, o5, 997, rfl, S5, B5, by decide, by decide, fun r6 o6 H6 r60 r61 B6 S6 => ?_⟩
    obtain ⟨st, rfl⟩ := Int.eq_ofNat_of_zero_le r50
    obtain ⟨a, rfl⟩ := Int.eq_ofNat_of_zero_le r60
    have t3h := t3.hi
    have t4h := t4.hi
    refine ⟨_, rfl, by omega, by omega, fun D nD => lc_range (lo := 0) (n := ((c : Nat) : Int).toNat) (fun i H' => Sep G1 ((D, .lst (((List.range i).map (mkO z3 z4 a (1 + st))).map V.str)) :: (b, o6) :: M) H') (S6.new nD) (fun i H' hi p => ?_) (fun H7 S7 => ?_)⟩
    · refine ⟨rfl, .inr ⟨by omega, by omega⟩, by decide, fun r7 e7 r70 r71 => ?_⟩
      have e8 : r7 = ((nOf a (1 + st) i : Nat) : Int) := by
        rw [e7]
        unfold nOf
        have : ((a : Int) + (0 + (i : Nat)) * (1 + (st : Int))) = ((a + i * (1 + st) : Nat) : Int) := by
          rw [Int.zero_add]
          push_cast
          omega
        rw [this]
        omega
      have tx3 := num_tx3 a (1 + st) i
      have tx3h := tx3.hi
      rw [e8]
      refine ⟨lg997 (nOf_lt _ _ _), small (by omega), fun t8 et8 => ⟨?_, fun t9 et9 => ?_⟩⟩
      · rw [et8, app_len]
        exact small (by omega)
      · refine ⟨_, p.hd, smallL (by rw [List.length_map, List.length_map, List.length_range]; omega), ?_⟩
        rw [List.range_succ, List.map_append, List.map_append]
        have : t9 = mkO z3 z4 a (1 + st) i := by rw [et9, et8]; rfl
        rw [this]
        exact p.set
    · have S8 := S7.frz
      have ec : ((c : Nat) : Int).toNat = c := by omega
      rw [ec] at S7 S8
      refine q D _ o6 _ _ (s1.trans S7.frzS) upd_same (by rw [List.length_map, List.length_range]) ?_ (fun z hz => ?_) (B6.same S7.frzS) S8
      · refine nd_map (fun i j hi hj h => mkO_inj (by omega) (by omega) ?_ ?_ h) List.nodup_range
        · have := List.mem_range.mp hi; omega
        · have := List.mem_range.mp hj; omega
      · obtain ⟨i, hi, rfl⟩ := List.mem_map.mp hz
        exact ((t3.app (num_tx3 a (1 + st) i)).app t4).wide (by omega) (by omega)

end
end K22
set_option Elab.async false
set_option linter.all false
set_option maxRecDepth 100000
set_option maxHeartbeats 4000000
namespace K22
open PySem PySem.Spec PyProof.Rows L2 XL
section
variable {P : Program} {w : World} {K : PySem.W.Frag} {mg : Str → Option Value} {base : Heap}
theorem lv_snoc : ∀ {p : Nat} {r : List Fr3} {y : Fr3}, Lv p r → 1 ≤ y.2.2 → y.2.2 ≤ ((r.getLast?.map (·.2.2)).getD p) + 1 → Lv p (r ++ [y])
  | p, [], y, _, h1, h2 => ⟨h1, h2, trivial⟩
  | p, x :: r, y, h, h1, h2 => by
    refine ⟨h.1, h.2.1, lv_snoc h.2.2 h1 ?_⟩
    cases r with
    | nil => simpa using h2
    | cons z r =>
      cases hw : (z :: r).getLast? with
      | none => simp at hw
      | some w0 =>
        rw [List.getLast?_cons_cons, hw] at h2
        simpa using h2
theorem flok_snoc {fs : List Fr3} {x y : Fr3} (h : FlOk (fs ++ [x])) (h1 : 1 ≤ y.2.2) (h2 : y.2.2 ≤ x.2.2 + 1) : FlOk (fs ++ [x] ++ [y]) := by
  obtain ⟨a, r, e, h0, hl⟩ := h
  refine ⟨a, r ++ [y], by rw [e]; rfl, h0, lv_snoc hl h1 ?_⟩
  have e2 := congrArg List.getLast? e
  rw [List.getLast?_append] at e2
  simp at e2
  cases r with
  | nil =>
    simp at e2
    rw [e2] at h2
    simp
    omega
  | cons z r =>
    rw [List.getLast?_cons_cons] at e2
    rw [← e2]
    simpa using h2
def spFlat : Sp := fun vs H Q _ => ∃ (G : Hp) (M : List (Addr × HO)) (b : Addr) (o : HO) (l : Addr) (zs : List Str) (dp : Nat), vs = [.ref b, .ref l, .int (dp : Nat)] ∧ Sep G ((b, o) :: M) H ∧ Bag G o ∧ G l = some (.lst (zs.map V.str)) ∧ 0 < zs.length ∧ zs.length ≤ 400 ∧ 1 ≤ dp ∧ dp ≤ 100 ∧
  ∀ (D : Addr) (us : List V) (fs : List Fr3) (o' : HO) (G' H' : Hp), Same G G' → G' D = some (.lst us) → Paired (FlAt G') us fs → FlOk fs → fs.map (·.1) = zs → (∀ f ∈ fs, Tx 1 20 f.2.1 ∧ f.2.2 ≤ dp) → Bag G' o' → Sep G' ((b, o') :: M) H' → Q (.ref D) H'
theorem cut_from1 (xs : List V) : cutV xs (some 1) none = xs.drop 1 := by
  unfold cutV
  have e : HT.sIx xs.length 0 (some 1) = min 1 xs.length := HT.sIx_nat xs.length 0 1
  rw [e, HT.sIx_none]
  cases xs with
  | nil => simp
  | cons a r =>
    simp
theorem ok_flat (T : Top K mg w) {k : Nat} (G_pick : FnOk P w K mg base CX0 k T.a_pick T.d_pick ["_law_bag_here", "_law_many"] spPick) (G_pressed : FnOk P w K mg base CX0 (k + 2) T.a_pressed T.d_pressed ["_law_bag_here"] spLabel) : FnOk P w K mg base CX0 (k + 3) T.a_flat T.d_flat ["_law_bag_here", "_law_marks_here", "_law_deepest"] spFlat := by
  refine T.F_flat.ok sc_flat (fun vs H Q E h => ?_) (fun cdv A outer s H vs Q E hr h => ?_)
  · obtain ⟨G, M, b, o, l, zs, dp, rfl, _⟩ := h
    rfl
  · obtain ⟨G, M, b, o, l, zs, dp, rfl, S, B, hl, z0, z4, d1, d100, q⟩ := h
    refine ⟨_, (pss_cons (ps_set (i := 3) sc_flat.nd rfl (.inl rfl) (pe_lst (pa_cons (pe_tup (pa_cons (pe_ix (ix_k K) (xv 1) pe_int (fun _ _ => rfl)) (pa_cons (pe_call G_pressed (hr.mono (by omega)) (by rfl) T.g_pressed T.F_pressed.kp T.b_pressed .nil pass0 (pa_cons (xv 0) pa_nil)) (pa_cons pe_int pa_nil)))) pa_nil)))
      (pss_cons (ps_for PassesOwn.never rfl (pi_listK K (pe_slice (sl_listK K) (xv 1) (po_some pe_int) po_none)) (pg_name (i := 4) sc_flat.nd rfl (.inl rfl))
      (pss_cons (ps_set (i := 5) sc_flat.nd rfl (.inl rfl) (pe_op op_addY (pe_ix (ix_k K) (pe_ix (ix_k K) (xv 3) (pe_un un_neg pe_int) (fun _ _ => rfl)) pe_int (fun _ _ => rfl)) pe_int))
      (xss_cut (xs_if (xt_cmp op_gtY (xv 5) (xv 2) (nomark _))
      (pss_one (ps_set (i := 5) sc_flat.nd rfl (.inl rfl) (xv 2)))
      pss_nil)
      (pss_one (ps_expr (pe_bmK K PySem.F.plainAttrs_list PySem.F.slot_list_append PySem.F.type_list_append mt_append (xv 3) (pa_cons (pe_tup (pa_cons (xv 4) (pa_cons (pe_call G_pressed (hr.mono (by omega)) (by rfl) T.g_pressed T.F_pressed.kp T.b_pressed .nil pass0 (pa_cons (xv 0) pa_nil)) (pa_cons (pe_op op_addY pe_int (pe_call G_pick (hr.mono (by omega)) (by rfl) T.g_pick T.F_pick.kp T.b_pick .nil pass0 (pa_cons (xv 0) (pa_cons (xv 5) pa_nil)))) pa_nil)))) pa_nil)))))))
      (pss_one (ps_ret (xv 3))))), ?_⟩
    obtain ⟨z, zr, rfl⟩ : ∃ z zr, zs = z :: zr := List.exists_cons_of_ne_nil (fun e => by rw [e] at z0; exact absurd z0 (by decide))
    refine ⟨_, _, .inl (SqL.of (S.st hl)), atI_nat (j := 0) rfl, G, _, b, o, rfl, S, B, fun z1 o1 G1 H1 t1 s1 B1 S1 => ⟨sz, fun p2 np2 => ?_⟩⟩
    obtain ⟨G2, s2, S2, h2⟩ := Sep.mk (o := .tup [.str z, .str z1, .int 0]) S1 np2
    refine ⟨sz, fun L nL => ?_⟩
    have S3 := (S2.new (o := .lst [.ref p2]) nL).sw
    have s02 := s1.trans s2
    refine ⟨1, rfl, l, _, rfl, SqL.of (S3.st (s02 _ _ hl)), fun p4 np4 => ?_⟩
    rw [cut_from1]
    obtain ⟨G4, s4, S4, h4⟩ := Sep.mk (o := .lst (((z :: zr).map V.str).drop 1)) S3 np4
    have h4 : G4 p4 = some (.lst (zr.map V.str)) := h4
    have s04 := s02.trans s4
    refine ⟨p4, rfl, ⟨_, SqL.of (S4.st h4)⟩, for_list (xs := zr.map V.str) (fun i σ H' => ∃ (y4 y5 : Option V) (o' : HO) (us : List V) (fs : List Fr3) (f : Fr3) (u : V) (G' : Hp), σ = [some (.ref b), some (.ref l), some (.int (dp : Nat)), some (.ref L), y4, y5] ∧ Same G4 G' ∧ Bag G' o' ∧
      Paired (FlAt G') (us ++ [u]) (fs ++ [f]) ∧ FlOk (fs ++ [f]) ∧ (fs ++ [f]).map (·.1) = z :: zr.take i ∧ (∀ x ∈ fs ++ [f], Tx 1 20 x.2.1 ∧ x.2.2 ≤ dp) ∧ us.length = i ∧ Sep G' ((b, o') :: (L, .lst (us ++ [u])) :: M) H')
      ⟨_, _, o1, [], [], (z, z1, 0), .ref p2, G4, rfl, Same.refl _, (B1.same s2).same s4, .cons ⟨p2, rfl, s4 _ _ h2⟩ .nil, ⟨_, [], rfl, rfl, trivial⟩, rfl, fun x hx => ?_, rfl, S4⟩ (fun i σ H' _ h => ?_) (fun i u σ H' hu h => ?_) (fun σ H' h => ?_)⟩
    · have : x = (z, z1, 0) := by simpa using hx
      rw [this]
      exact ⟨t1, Nat.zero_le _⟩
    · obtain ⟨_, _, _, _, _, _, _, G', _, s', _, _, _, _, _, _, S'⟩ := h
      exact SqL.of (S'.st (s' _ _ h4))
    · obtain ⟨y4, y5, o5, us, fs, f, uf, G5, rfl, s5, B5, hus, fok, hmk, hfx, ul, S5⟩ := h
      rw [List.getElem?_map] at hu
      obtain ⟨zm, hzm, rfl⟩ := Option.map_eq_some_iff.mp hu
      have il := (List.getElem?_eq_some_iff.mp hzm).1
      obtain ⟨fs', f', ef, hus', hf⟩ := prd_unsnoc hus
      obtain ⟨rfl, ef2⟩ := List.append_inj' ef rfl
      obtain rfl : f = f' := by simpa using ef2
      obtain ⟨af, rfl, haf⟩ := hf
      have fd := (hfx f (by simp)).2
      refine ⟨1, rfl, _, _, .inl (SqL.of S5.sw.hd), atI_last _ _, _, _, .inr (SqT.of (S5.st haf)), atI_nat (j := 2) rfl, ?_⟩
      refine ⟨fun σ H' => ∃ m : Nat, σ = [some (.ref b), some (.ref l), some (.int (dp : Nat)), some (.ref L), some (.str zm), some (.int (m : Nat))] ∧ H' = _ ∧ 1 ≤ m ∧ m ≤ dp ∧ m ≤ f.2.2 + 1, ⟨fun e => ⟨dp, rfl, rfl, d1, Nat.le_refl _, ?_⟩, fun e => ⟨f.2.2 + 1, rfl, rfl, by omega, ?_, Nat.le_refl _⟩⟩, fun σ H6 h => ?_⟩
      · have := of_decide_eq_true e
        omega
      · have := of_decide_eq_false e
        omega
      obtain ⟨m, rfl, rfl, m1, mdp, mf⟩ := h
      refine ⟨.inl ⟨rfl, _, SqL.of S5.sw.hd⟩, G5, _, b, o5, rfl, S5, B5, fun z7 o7 G7 H7 t7 s7 B7 S7 => ?_⟩
      refine ⟨G7, _, b, o7, _, rfl, S7, B7, by omega, by omega, fun r8 o8 H8 r80 r81 B8 S8 => ⟨sz, fun p9 np9 => ?_⟩⟩
      obtain ⟨j, rfl⟩ := Int.eq_ofNat_of_zero_le r80
      have ej : (1 : Int) + (j : Int) = ((1 + j : Nat) : Int) := by omega
      rw [ej]
      obtain ⟨G9, s9, S9, h9⟩ := Sep.mk (o := .tup [.str zm, .str z7, .int ((1 + j : Nat) : Int)]) S8 np9
      have s59 := s7.trans s9
      refine ⟨L, _, _, rfl, rfl, S9.sw.hd, smallL (by rw [List.length_append, ul]; show i + 1 < _; rw [List.length_cons] at z4; omega), ?_⟩
      refine ⟨_, _, o8, us ++ [.ref af], fs ++ [f], (zm, z7, 1 + j), .ref p9, G9, rfl, s5.trans s59, B8.same s9, prd_app (prd_imp (fun _ _ => FlAt.same s59) hus) (.cons ⟨p9, rfl, h9⟩ .nil), flok_snoc fok (by show 1 ≤ 1 + j; omega) (by show 1 + j ≤ _; omega), ?_, fun x hx => ?_, by rw [List.length_append, ul]; rfl, S9.sw.set.sw⟩
      · rw [List.map_append, hmk, take_snoc hzm]
        rfl
      · rcases List.mem_append.mp hx with k | k
        · exact hfx x k
        · rw [List.mem_singleton.mp k]
          exact ⟨t7, by show 1 + j ≤ dp; omega⟩
    · obtain ⟨y4, y5, o5, us, fs, f, uf, G5, rfl, s5, B5, hus, fok, hmk, hfx, ul, S5⟩ := h
      rw [List.length_map, List.take_length] at hmk
      have S6 := S5.sw
      exact q L _ _ o5 _ _ (s04.trans (s5.trans S6.frzS)) upd_same (prd_imp (fun _ _ => FlAt.same S6.frzS) hus) fok hmk hfx (B5.same S6.frzS) S6.frz

end
end K22
set_option Elab.async false
set_option linter.all false
set_option maxRecDepth 100000
set_option maxHeartbeats 4000000
namespace K22
open PySem PySem.Spec PyProof.Rows L2 XL
section
variable {P : Program} {w : World} {K : PySem.W.Frag} {mg : Str → Option Value} {base : Heap}
/-! ### nodes_of, from_below -/
theorem dpa_unsnoc {K : PySem.W.Frag} {G : Hp} {xs : List V} {x : V} {ds : List PyData} (h : DpAll K G (xs ++ [x]) ds) : ∃ ds' d, ds = ds' ++ [d] ∧ DpAll K G xs ds' ∧ Dp K G x d := by
  induction xs generalizing ds with
  | nil =>
    cases h with
    | cons h t =>
      cases t
      exact ⟨[], _, rfl, .nil, h⟩
  | cons a xs ih =>
    cases h with
    | cons h t =>
      obtain ⟨ds', d, rfl, h1, h2⟩ := ih t
      exact ⟨_ :: ds', d, rfl, .cons h h1, h2⟩
theorem dpa_rev {K : PySem.W.Frag} {G : Hp} : ∀ {xs : List V} {ds : List PyData}, DpAll K G xs ds → DpAll K G xs.reverse ds.reverse
  | _, _, .nil => .nil
  | _, _, .cons h t => by
    rw [List.reverse_cons, List.reverse_cons]
    exact dpa_app (dpa_rev t) (dpa_one h)
theorem map_snoc {ts : List Tr} {ds : List PyData} {d : PyData} (h : ts.map toD = ds ++ [d]) : ∃ ts' t, ts = ts' ++ [t] ∧ ts'.map toD = ds ∧ toD t = d := by
  rcases nil_or_snoc ts with rfl | ⟨ts', t, rfl⟩
  · simp at h
  · rw [List.map_append] at h
    obtain ⟨h1, h2⟩ := List.append_inj' h rfl
    exact ⟨ts', t, rfl, h1, by simpa using h2⟩
def spNodes (K : PySem.W.Frag) : Sp := fun vs H Q _ => ∃ (G : Hp) (M : List (Addr × HO)) (v : V) (t : Tr), vs = [v] ∧ Sep G M H ∧ Dp K G v (toD t) ∧ (pre t).length ≤ 1000 ∧
  ∀ (l : Addr) (us : List V) (G' H' : Hp), Same G G' → G' l = some (.lst us) → DpAll K G' us ((pre t).map toD) → Sep G' M H' → Q (.ref l) H'
theorem ok_nodes_of (T : Top K mg w) {k : Nat} : FnOk P w K mg base CX0 (k + 1) T.a_nodes_of T.d_nodes_of ["root"] (spNodes K) := by
  refine T.F_nodes_of.ok sc_nodes_of (fun vs H Q E h => ?_) (fun cdv A outer s H vs Q E hr h => ?_)
  · obtain ⟨G, M, v, t, rfl, _⟩ := h
    rfl
  · obtain ⟨G, M, v, t, rfl, S, hv, pl, q⟩ := h
    refine ⟨_, (pss_cons (ps_set (i := 1) sc_nodes_of.nd rfl (.inl rfl) (pe_lst pa_nil))
      (pss_cons (ps_set (i := 2) sc_nodes_of.nd rfl (.inl rfl) (pe_lst (pa_cons (xv 0) pa_nil)))
      (pss_cons (xs_while PassesOwn.never (xt_truK K (xv 2))
      (pss_cons (ps_set (i := 3) sc_nodes_of.nd rfl (.inl rfl) (pe_bm0 PySem.F.plainAttrs_list PySem.F.slot_list_pop PySem.F.type_list_pop mt_pop (xv 2)))
      (pss_cons (ps_expr (pe_bmK K PySem.F.plainAttrs_list PySem.F.slot_list_append PySem.F.type_list_append mt_append (xv 1) (pa_cons (xv 3) pa_nil)))
      (pss_one (ps_expr (pe_bmK K PySem.F.plainAttrs_list PySem.F.slot_list_extend PySem.F.type_list_extend (mt_extT K) (xv 2) (pa_cons (pe_revTK K (pe_ix (ix_k K) (xv 3) pe_int (fun _ _ => rfl)) (pe_str (pe_un un_neg pe_int) fun _ _ _ h => ⟨1, rfl, h⟩)) pa_nil)))))))
      (pss_one (ps_ret (xv 1)))))), ?_⟩
    refine ⟨sz, fun O nO => ?_⟩
    have S1 := S.new (o := .lst []) nO
    refine ⟨sz, fun W nW => ?_⟩
    have S2 := S1.new (o := .lst [v]) nW
    refine ⟨fun m σ H' => ∃ (y3 : Option V) (os ws : List V) (dn ts : List Tr) (G' : Hp), σ = [some v, some (.ref O), some (.ref W), y3] ∧ Same G G' ∧ m = (pres ts).length ∧ dn ++ pres ts = pre t ∧ DpAll K G' os (dn.map toD) ∧ DpAll K G' ws (ts.reverse.map toD) ∧ ts.length ≤ (pres ts).length ∧ Sep G' ((W, .lst ws) :: (O, .lst os) :: M) H',
      ⟨(pre t).length, _, [], [v], [], [t], G, rfl, Same.refl _, by rw [pres_one], by rw [pres_one]; rfl, .nil, dpa_one hv, by rw [pres_one, pre_eq]; simp, S2⟩, fun m σ H' h => ?_⟩
    obtain ⟨y3, os, ws, dn, ts, G1, rfl, s1, rfl, hall, hos, hws, htl, S3⟩ := h
    have al := congrArg List.length hall
    rw [List.length_append] at al
    have ol := dpa_len hos
    rw [List.length_map] at ol
    have wl := dpa_len hws
    rw [List.length_map, List.length_reverse] at wl
    rcases nil_or_snoc ws with ew | ⟨wp, w0, ew⟩
    · subst ew
      refine ⟨!([] : List V).isEmpty, .inl ⟨_, SqL.of S3.hd, rfl⟩, (fun e => nomatch e), fun _ => ?_⟩
      have e0 : ts = [] := List.length_eq_zero_iff.mp wl.symm
      subst e0
      have e1 : dn = pre t := by simpa [pres] using hall
      rw [e1] at hos
      have S4 := S3.drop
      exact q O os _ _ (s1.trans S4.frzS) upd_same (dpa_same S4.frzS hos) S4.frz
    · subst ew
      have ne : (!(wp ++ [w0]).isEmpty) = true := by simp
      refine ⟨!(wp ++ [w0]).isEmpty, .inl ⟨_, SqL.of S3.hd, rfl⟩, fun _ => ?_, fun e => absurd (ne.symm.trans e) (by decide)⟩
      obtain ⟨ds', d, eds, hwp, hw0⟩ := dpa_unsnoc hws
      obtain ⟨tr', t0, ert, emp, rfl⟩ := map_snoc eds
      obtain ⟨tr, ets, etr⟩ := rev_cons ert
      subst ets
      have S4 := S3.set (o' := .lst wp)
      refine ⟨.inl ⟨rfl, _, SqL.of S3.hd⟩, W, wp ++ [w0], w0, rfl, rfl, S3.hd, by simp, ?_⟩
      rw [List.dropLast_concat]
      have S5 := S4.sw.set (o' := .lst (os ++ [w0]))
      refine ⟨.inl ⟨rfl, _, SqL.of S4.sw.hd⟩, O, os, w0, rfl, rfl, S4.sw.hd, smallL (by omega), ?_⟩
      obtain ⟨a0, kv, kus, rfl, ha0, hkv, hkus⟩ := node_at hw0
      have kl := dpa_len hkus
      rw [List.length_map] at kl
      refine ⟨.inl ⟨rfl, _, SqL.of S5.sw.hd⟩, _, _, .inr (S5.t ha0), atI_nat (j := 2) rfl, kv, kus, rfl, S5.t hkv, fun p6 np6 => ?_⟩
      obtain ⟨G6, s6, S6, h6⟩ := Sep.mk (o := .tup kus.reverse) S5 np6
      have pe : pres (t0 :: tr) = t0 :: pres (kids t0 ++ tr) := by
        simp only [pres]
        rw [pre_eq, List.cons_append, pres_app]
      rw [pe] at hall htl al
      have kml := many_le (kids t0 ++ tr)
      rw [List.length_append] at kml
      rw [List.length_cons] at wl al htl
      rw [List.length_append, List.length_singleton] at wl
      refine ⟨W, p6, wp, kus.reverse, rfl, rfl, S6.sw.hd, SqT.of (S6.st h6), small (by rw [List.length_reverse]; omega), ?_⟩
      refine ⟨(pres (kids t0 ++ tr)).length, by rw [pe, List.length_cons]; omega, _, os ++ [.ref a0], wp ++ kus.reverse, dn ++ [t0], kids t0 ++ tr, G6, rfl, s1.trans s6, rfl, by rw [List.append_assoc]; exact hall, ?_, ?_, by rw [List.length_append]; exact kml, S6.sw.set⟩
      · rw [List.map_append]
        exact dpa_app (dpa_same s6 hos) (dpa_one (dp_same s6 hw0))
      · rw [List.reverse_append, List.map_append, etr, emp, List.map_reverse]
        exact dpa_app (dpa_same s6 hwp) (dpa_rev (dpa_same s6 hkus))

end
end K22
set_option Elab.async false
set_option linter.all false
set_option maxRecDepth 100000
set_option maxHeartbeats 4000000
namespace K22
open PySem PySem.Spec PyProof.Rows L2 XL
section
variable {P : Program} {w : World} {K : PySem.W.Frag} {mg : Str → Option Value} {base : Heap}
structure PgAt (K : PySem.W.Frag) (C : Addr) (G : Hp) (p : Addr) (t : Tr) : Prop where
  ex : ∃ (dx N A O : Addr) (v : V) (us : List V) (ka kn : List (Key × V)), G p = some (.ins C dx [("tree", v), ("nodes", .ref N), ("above", .ref A), ("order", .ref O)]) ∧ Dp K G v (toD t) ∧ G N = some (.dK kn) ∧ G A = some (.dK ka) ∧ G O = some (.lst (((pre t).map mrk).map V.str)) ∧
    DpAll K G us ((pre t).map toD) ∧ kn = (((pre t).map mrk).map (fun m => (Sum.inr m : Key))).zip us
theorem PgAt.same {K : PySem.W.Frag} {C : Addr} {G G' : Hp} {p : Addr} {t : Tr} (e : Same G G') (h : PgAt K C G p t) : PgAt K C G' p t := by
  obtain ⟨dx, N, A, O, v, us, ka, kn, h1, h2, h3, h4, h5, h6, h7⟩ := h.ex
  exact ⟨dx, N, A, O, v, us, ka, kn, e _ _ h1, dp_same e h2, e _ _ h3, e _ _ h4, e _ _ h5, dpa_same e h6, h7⟩
def spPage (K : PySem.W.Frag) (C : Addr) : Sp := fun vs H Q _ => ∃ (G : Hp) (M : List (Addr × HO)) (x dx : Addr) (v : V) (t : Tr), vs = [.ref x, v] ∧ Sep G ((x, .ins C dx []) :: M) H ∧ Dp K G v (toD t) ∧ ((pre t).map mrk).Nodup ∧ (pre t).length ≤ 400 ∧
  ∀ (G' H' : Hp), Same G G' → PgAt K C G' x t → Sep G' M H' → Q .non H'
theorem valV_none {kvs : List (Key × V)} {k : Key} (h : k ∉ kvs.map (·.1)) : valV kvs k = none := by
  induction kvs with
  | nil => rfl
  | cons p r ih =>
    rw [List.map_cons, List.mem_cons, not_or] at h
    rw [valV_neg (fun e => h.1 e.symm)]
    exact ih h.2
theorem putK_new {kvs : List (Key × V)} {k : Key} {v : V} (h : valV kvs k = none) : putK kvs k v = kvs ++ [(k, v)] := by
  unfold putK
  rw [valV_any, h]
  rfl
theorem putK_len (kvs : List (Key × V)) (k : Key) (v : V) : (putK kvs k v).length ≤ kvs.length + 1 := by
  unfold putK
  split
  · rw [List.length_map]; omega
  · simp

end
end K22
set_option Elab.async false
set_option linter.all false
set_option maxRecDepth 100000
set_option maxHeartbeats 4000000
namespace K22
open PySem PySem.Spec PyProof.Rows L2 XL
section
variable {P : Program} {w : World} {K : PySem.W.Frag} {mg : Str → Option Value} {base : Heap}
/-! ### fields -/
theorem putF_ne {f g : Str} {v x : V} {r : List (Str × V)} (h : decide (g = f) = false := by decide +kernel) : putF f v ((g, x) :: r) = (g, x) :: putF f v r := by
  show (if g = f then _ else _) = _
  rw [if_neg (of_decide_eq_false h)]
theorem putF_eq {f : Str} {v x : V} {r : List (Str × V)} : putF f v ((f, x) :: r) = (f, v) :: r := by
  show (if f = f then _ else _) = _
  rw [if_pos rfl]
theorem putF_nil {f : Str} {v : V} : putF f v [] = [(f, v)] := rfl
theorem lk_ne {f g : Str} {x : V} {r : List (Str × V)} (h : (f == g) = false := by decide +kernel) : List.lookup f ((g, x) :: r) = List.lookup f r := by simp [List.lookup, h]
theorem lk_eq {f : Str} {x : V} {r : List (Str × V)} : List.lookup f ((f, x) :: r) = some x := by simp [List.lookup]
theorem Sep.keep {G H : Hp} {M : List (Addr × HO)} {p : Addr} {o : HO} (S : Sep G ((p, o) :: M) H) : ∃ G', Same G G' ∧ Sep G' M H ∧ G' p = some o := ⟨_, S.frzS, S.frz, upd_same⟩

mutual
theorem sub_pre {p : Tr} : ∀ t, p ∈ pre t → (pres (kids p)).length ≤ (pre t).length
  | .node m l ks, h => by
    simp only [pre, List.mem_cons, List.length_cons] at h ⊢
    rcases h with rfl | h
    · simp only [kids]; omega
    · have := sub_pres ks h
      omega
theorem sub_pres {p : Tr} : ∀ ts, p ∈ pres ts → (pres (kids p)).length ≤ (pres ts).length
  | [], h => by simp [pres] at h
  | t :: r, h => by
    simp only [pres, List.mem_append, List.length_append] at h ⊢
    rcases h with h | h
    · have := sub_pre t h; omega
    · have := sub_pres r h; omega
end
theorem sub_len {p t : Tr} (h : p ∈ pre t) : (pres (kids p)).length ≤ (pre t).length := sub_pre t h
theorem kV_str (z : Str) : V.str z = kV (Sum.inr z : Key) := rfl
theorem ok_Page_init (T : Top K mg w) (G_nodes_of : FnOk P w K mg base CX0 1 T.a_nodes_of T.d_nodes_of ["root"] (spNodes K)) : FnOk P w K mg base CX0 2 T.a_Page_init T.d_Page_init ["self", "root"] (spPage K T.C_Page) := by
  refine T.F_Page_init.ok sc_Page_init (fun vs H Q E h => ?_) (fun cdv A outer s H vs Q E hr h => ?_)
  · obtain ⟨G, M, x, dx, v, t, rfl, _⟩ := h
    rfl
  · obtain ⟨G, M, x, dx, v, t, rfl, S, hv, nd, pl, q⟩ := h
    refine ⟨_, (pss_cons (ps_set (i := 2) sc_Page_init.nd rfl (.inl rfl) pe_dnewK)
      (pss_cons (ps_set (i := 3) sc_Page_init.nd rfl (.inl rfl) (pe_disp (pps_cons (pe_ix (ix_k K) (xv 1) pe_int (fun _ _ => rfl)) pe_non pps_nil) (by rfl) (by rfl) (fun z => by cases z) (by decide)))
      (pss_cons (ps_set (i := 4) sc_Page_init.nd rfl (.inl rfl) (pe_lst pa_nil))
      (pss_cons (ps_for PassesOwn.never rfl (pi_listK K (pe_call G_nodes_of (hr.mono (by omega)) (by rfl) T.g_nodes_of T.F_nodes_of.kp T.b_nodes_of .nil pass0 (pa_cons (xv 1) pa_nil))) (pg_name (i := 5) sc_Page_init.nd rfl (.inl rfl))
      (pss_cons (xs_if (pt_cmp (pc_din (hu_of hr) (pe_ix (ix_k K) (xv 5) pe_int (fun _ _ => rfl)) (xv 2)))
      (pss_one ps_never)
      pss_nil)
      (pss_cons (ps_dput (hu_of hr) (xv 2) (pe_ix (ix_k K) (xv 5) pe_int (fun _ _ => rfl)) (xv 5) rfl)
      (pss_cons (ps_expr (pe_bmK K PySem.F.plainAttrs_list PySem.F.slot_list_append PySem.F.type_list_append mt_append (xv 4) (pa_cons (pe_ix (ix_k K) (xv 5) pe_int (fun _ _ => rfl)) pa_nil)))
      (pss_one (ps_for PassesOwn.never rfl (pi_tupK K (pe_ix (ix_k K) (xv 5) pe_int (fun _ _ => rfl))) (pg_name (i := 6) sc_Page_init.nd rfl (.inl rfl))
      (pss_one (ps_dput (hu_of hr) (xv 3) (pe_ix (ix_k K) (xv 6) pe_int (fun _ _ => rfl)) (pe_ix (ix_k K) (xv 5) pe_int (fun _ _ => rfl)) rfl))))))))
      (pss_cons (xs_if (xt_cmp op_gtY (pe_callB (cr_lenK K) (by rfl) T.m_len (by decide +kernel) (pa_cons (xv 4) pa_nil)) (xe_globI (by rfl) T.v_MOST_NODES) (nomark _))
      (pss_one ps_never)
      pss_nil)
      (pss_cons (ps_fld (xv 0) (xv 1) rfl)
      (pss_cons (ps_fld (xv 0) (xv 2) rfl)
      (pss_cons (ps_fld (xv 0) (xv 3) rfl)
      (pss_one (ps_fld (xv 0) (xv 4) rfl)))))))))), ?_⟩
    obtain ⟨a0, kv0, kus0, rfl, ha0, hkv0, hkus0⟩ := node_at hv
    refine fun N nN => ?_
    have S1 := S.new (o := .dK []) nN
    refine fun A' nA => ?_
    have S2 := S1.new (o := .dK []) nA
    refine ⟨_, _, .inr (S2.t ha0), atI_nat (j := 0) rfl, S2.hd, [(Sum.inr (mrk t), V.non)], rfl, by simp, sz, fun O nO => ?_⟩
    have S3 := (S2.set (o' := .dK (mergeK [] [(Sum.inr (mrk t), V.non)]))).new (o := .lst []) nO
    refine ⟨G, _, _, t, rfl, S3, hv, by omega, fun D us G1 H1 s1 hD hus S4 => ?_⟩
    have ul := dpa_len hus
    rw [List.length_map] at ul
    refine ⟨D, rfl, ⟨us, SqL.of (S4.st hD)⟩, for_list (xs := us) (fun i σ H' => ∃ (y5 y6 : Option V) (ka : List (Key × V)), σ = [some (.ref x), some (.ref a0), some (.ref N), some (.ref A'), some (.ref O), y5, y6] ∧ ka.length ≤ 1 + 400 * i ∧
      Sep G1 ((O, .lst ((((pre t).take i).map mrk).map V.str)) :: (A', .dK ka) :: (N, .dK (((((pre t).take i).map mrk).map (fun m => (Sum.inr m : Key))).zip (us.take i))) :: (x, .ins T.C_Page dx []) :: M) H')
      ⟨_, _, _, rfl, (show (mergeK [] [(Sum.inr (mrk t), V.non)] : List (Key × V)).length ≤ 1 from Nat.le_refl _), S4⟩ (fun i σ H' _ h => ?_) (fun i u σ H' hu h => ?_) (fun σ H' h => ?_)⟩
    · obtain ⟨_, _, _, _, _, S'⟩ := h
      exact SqL.of (S'.st hD)
    · obtain ⟨y5, y6, ka, rfl, kal, S5⟩ := h
      obtain ⟨d, hd, hud⟩ := dpa_get hus hu
      obtain ⟨p, hp, rfl⟩ := map_get hd
      obtain ⟨a, kv, kus, rfl, ha, hkv, hkus⟩ := node_at hud
      have il := (List.getElem?_eq_some_iff.mp hp).1
      have kl := dpa_len hkus
      rw [List.length_map] at kl
      have kml := many_le (kids p)
      have kcl : (pres (kids p)).length ≤ (pre t).length := sub_len (List.mem_of_getElem? hp)
      have tkl : ((pre t).take i).length = i := by rw [List.length_take]; omega
      have utl : (us.take i).length = i := by rw [List.length_take]; omega
      have keys : ((((((pre t).take i).map mrk).map (fun m => (Sum.inr m : Key))).zip (us.take i)).map (·.1)) = (((pre t).take i).map mrk).map (fun m => (Sum.inr m : Key)) := List.map_fst_zip (by rw [List.length_map, List.length_map, tkl, utl]; exact Nat.le_refl _)
      have free : valV ((((((pre t).take i).map mrk).map (fun m => (Sum.inr m : Key))).zip (us.take i))) (Sum.inr (mrk p)) = none := valV_none (by
        rw [keys]
        intro hm
        obtain ⟨m, hm1, hm2⟩ := List.mem_map.mp hm
        cases hm2
        have e1 : (pre t).map mrk = ((pre t).take i).map mrk ++ mrk p :: ((pre t).drop (i + 1)).map mrk := by
          conv => lhs; rw [(take_pre hp).1]
          rw [List.map_append, List.map_cons]
        rw [e1, List.nodup_append] at nd
        exact nd.2.2 _ hm1 _ List.mem_cons_self rfl)
      have SN := S5.perm (List.perm_append_comm_assoc [_, _] [_] _)
      refine ⟨_, _, .inr (S5.t ha), atI_nat (j := 0) rfl, N, _, rfl, DGet.k (k := Sum.inr (mrk p)) SN.hd, _, rfl, ?_⟩
      rw [free]
      refine ⟨ff, fun _ => ?_⟩
      refine ⟨_, _, .inr (S5.t ha), atI_nat (j := 0) rfl, N, _, rfl, DPut.k (k := Sum.inr (mrk p)) SN.hd (smallL (by rw [List.length_zip, utl]; omega)), ?_⟩
      rw [putK_new free]
      have S6 := SN.set (o' := .dK (((((pre t).take i).map mrk).map (fun m => (Sum.inr m : Key))).zip (us.take i) ++ [(Sum.inr (mrk p), V.ref a)]))
      refine ⟨.inl ⟨rfl, _, SqL.of S6.sw.hd⟩, _, _, .inr (S6.t ha), atI_nat (j := 0) rfl, O, _, _, rfl, rfl, S6.sw.hd, smallL (by rw [List.length_map, List.length_map, tkl]; omega), ?_⟩
      have S7 := S6.sw.set (o' := .lst ((((pre t).take i).map mrk).map V.str ++ [V.str (mrk p)]))
      have S8 := S7.perm (List.perm_append_comm_assoc [_, _] [_] _)
      refine ⟨_, _, .inr (S7.t ha), atI_nat (j := 2) rfl, kv, rfl, ⟨kus, S7.t hkv⟩, for_tup (xs := kus) (fun j σ H' => ∃ (y6 : Option V) (ka' : List (Key × V)), σ = [some (.ref x), some (.ref a0), some (.ref N), some (.ref A'), some (.ref O), some (.ref a), y6] ∧ ka'.length ≤ 1 + 400 * i + j ∧
        Sep G1 ((A', .dK ka') :: (O, .lst ((((pre t).take i).map mrk).map V.str ++ [V.str (mrk p)])) :: (N, .dK (((((pre t).take i).map mrk).map (fun m => (Sum.inr m : Key))).zip (us.take i) ++ [(Sum.inr (mrk p), V.ref a)])) :: (x, .ins T.C_Page dx []) :: M) H')
        ⟨_, ka, rfl, by omega, S8⟩ (fun j σ H' _ h => ?_) (fun j c σ H' hc h => ?_) (fun σ H' h => ?_)⟩
      · obtain ⟨_, _, _, _, S'⟩ := h
        exact S'.t hkv
      · obtain ⟨y6, ka', rfl, kal', S9⟩ := h
        obtain ⟨d, hd, hcd⟩ := dpa_get hkus hc
        obtain ⟨pc, hpc, rfl⟩ := map_get hd
        obtain ⟨ac, kvc, kusc, rfl, hac, _, _⟩ := node_at hcd
        have jl := (List.getElem?_eq_some_iff.mp hpc).1
        refine ⟨_, _, .inr (S9.t ha), atI_nat (j := 0) rfl, _, _, .inr (S9.t hac), atI_nat (j := 0) rfl, A', _, rfl, DPut.k (k := Sum.inr (mrk pc)) S9.hd ?_, _, _, rfl, ?_, S9.set⟩
        · have : 400 * i ≤ 400 * 400 := Nat.mul_le_mul_left _ (by omega)
          rw [sizeLine_eq]
          omega
        · have := putK_len ka' (Sum.inr (mrk pc)) (.str (mrk p))
          omega
      · obtain ⟨y6, ka', rfl, kal', S9⟩ := h
        refine ⟨_, _, ka', rfl, by omega, ?_⟩
        rw [take_snoc hp, take_snoc hu, List.map_append, List.map_append, List.map_append, List.zip_append (by rw [List.length_map, List.length_map, tkl, utl])]
        exact S9.sw
    · obtain ⟨y5, y6, ka, rfl, kal, S5⟩ := h
      rw [ul, List.take_length, List.take_of_length_le (by omega)] at S5
      refine ⟨_, .inl (SqL.of S5.hd), fun e => ?_, fun _ => ?_⟩
      · have := of_decide_eq_true e
        rw [List.length_map, List.length_map] at this
        omega
      have SX := S5.perm (List.perm_append_comm_assoc [_, _, _] [_] _)
      refine ⟨x, T.C_Page, dx, [], rfl, SX.hd, T.cl_Page, T.na_Page_tree, by decide, ?_⟩
      rw [putF_nil]
      have X1 := SX.set (o' := .ins T.C_Page dx [("tree", .ref a0)])
      refine ⟨x, T.C_Page, dx, _, rfl, X1.hd, T.cl_Page, T.na_Page_nodes, by simp, ?_⟩
      rw [putF_ne, putF_nil]
      have X2 := X1.set (o' := .ins T.C_Page dx [("tree", .ref a0), ("nodes", .ref N)])
      refine ⟨x, T.C_Page, dx, _, rfl, X2.hd, T.cl_Page, T.na_Page_above, by simp, ?_⟩
      rw [putF_ne, putF_ne, putF_nil]
      have X3 := X2.set (o' := .ins T.C_Page dx [("tree", .ref a0), ("nodes", .ref N), ("above", .ref A')])
      refine ⟨x, T.C_Page, dx, _, rfl, X3.hd, T.cl_Page, T.na_Page_order, by simp, ?_⟩
      rw [putF_ne, putF_ne, putF_ne, putF_nil]
      have X4 := X3.set (o' := .ins T.C_Page dx [("tree", .ref a0), ("nodes", .ref N), ("above", .ref A'), ("order", .ref O)])
      obtain ⟨Ga, sa, Sa, ea⟩ := Sep.keep X4
      obtain ⟨Gb, sb, Sb, eb⟩ := Sep.keep Sa
      obtain ⟨Gc, sc, Sc, ec⟩ := Sep.keep Sb
      obtain ⟨Gd, sd, Sd, ed⟩ := Sep.keep Sc
      have sAll := sa.trans (sb.trans (sc.trans sd))
      exact q Gd _ (s1.trans sAll) ⟨dx, N, A', O, _, us, ka, _, sd _ _ (sc _ _ (sb _ _ ea)), dp_same (s1.trans sAll) hv, ed, sd _ _ ec, sd _ _ (sc _ _ eb), dpa_same sAll hus, rfl⟩ Sd

end
end K22
set_option Elab.async false
set_option linter.all false
set_option maxRecDepth 100000
set_option maxHeartbeats 4000000
namespace K22
open PySem PySem.Spec PyProof.Rows L2 XL
section
variable {P : Program} {w : World} {K : PySem.W.Frag} {mg : Str → Option Value} {base : Heap}
structure TrOk (t : Tr) : Prop where
  nd : ((pre t).map mrk).Nodup
  ln : (pre t).length ≤ 400
  hg : hgt t ≤ 60
  tx : ∀ p ∈ pre t, Tx 1 59 (mrk p) ∧ Tx 1 20 (lbl p)
theorem trok_of {t : Tr} {fs : List Fr3} {zs : List Str} {n : Nat} (h : fl 0 t = fs) (hz : fs.map (·.1) = zs) (nd : zs.Nodup) (zl : zs.length ≤ 400) (ht : ∀ z ∈ zs, Tx 1 59 z) (hf : ∀ f ∈ fs, Tx 1 20 f.2.1 ∧ f.2.2 < n) (hn : n ≤ 60) : TrOk t := by
  have e := fl_pre 0 t
  rw [h] at e
  have e1 : (pre t).map mrk = zs := by
    have z := congrArg (List.map (·.1)) e
    rw [List.map_map, List.map_map] at z
    rw [← hz]
    exact z.symm
  refine ⟨by rw [e1]; exact nd, ?_, ?_, fun p hp => ⟨?_, ?_⟩⟩
  · have z := congrArg List.length e1
    rw [List.length_map] at z
    omega
  · have z := fl_hgt 0 n t fun x hx => (hf x (by rw [← h]; exact hx)).2
    omega
  · exact ht _ (by rw [← e1]; exact List.mem_map_of_mem hp)
  · have hm : (mrk p, lbl p) ∈ fs.map (fun x => (x.1, x.2.1)) := by rw [e]; exact List.mem_map_of_mem hp
    obtain ⟨f, hf1, ef⟩ := List.mem_map.mp hm
    have := (hf f hf1).1
    have e2 : f.2.1 = lbl p := (Prod.mk.inj ef).2
    rw [e2] at this
    exact this

/-! ### pages read: [], iteration; buttons -/
theorem kn_val {K : PySem.W.Frag} {G : Hp} {p : Tr} : ∀ {us : List V} {ts : List Tr}, DpAll K G us (ts.map toD) → (ts.map mrk).Nodup → p ∈ ts → ∃ v, valV (((ts.map mrk).map (fun m => (Sum.inr m : Key))).zip us) (Sum.inr (mrk p)) = some v ∧ Dp K G v (toD p)
  | _, [], _, _, hp => nomatch hp
  | u :: us, t :: ts, .cons h r, nd, hp => by
    rw [List.map_cons, List.nodup_cons] at nd
    rcases List.mem_cons.mp hp with rfl | hp
    · exact ⟨u, valV_pos rfl, h⟩
    · obtain ⟨v, h1, h2⟩ := kn_val r nd.2 hp
      refine ⟨v, ?_, h2⟩
      show valV ((Sum.inr (mrk t), u) :: _) _ = _
      rw [valV_neg (fun e => nd.1 ?_)]
      · exact h1
      · rw [Sum.inr.inj e]
        exact List.mem_map_of_mem hp
theorem kn_keys {ts : List Tr} {us : List V} (h : us.length = ts.length) : ((((ts.map mrk).map (fun m => (Sum.inr m : Key))).zip us).map (·.1)) = (ts.map mrk).map (fun m => (Sum.inr m : Key)) := by
  rw [List.map_fst_zip]
  simp only [List.length_map]
  omega
theorem kn_none {ts : List Tr} {us : List V} {m : Str} (h : us.length = ts.length) (hm : m ∉ ts.map mrk) : valV (((ts.map mrk).map (fun m => (Sum.inr m : Key))).zip us) (Sum.inr m) = none := valV_none (by
  rw [kn_keys h]
  intro hx
  obtain ⟨z, hz, e⟩ := List.mem_map.mp hx
  rw [Sum.inr.inj e] at hz
  exact hm hz)
theorem repr_short {z : Str} {n : Nat} (h : ∀ c ∈ z.cps.toList, c < 128) (l : z.length ≤ n) (hn : n ≤ 1000) : (reprText z).length ≤ 100000 := by
  have := PySem.StrLaws.reprText_len z fun c hc => Nat.lt_trans (h c hc) (by decide)
  omega
def spPgGet (K : PySem.W.Frag) (C Ce : Addr) : Sp := fun vs H Q E => ∃ (G : Hp) (x : Addr) (m : Str) (t : Tr), vs = [.ref x, .str m] ∧ Same G H ∧ PgAt K C G x t ∧ ((pre t).map mrk).Nodup ∧ (∀ c ∈ m.cps.toList, c < 128) ∧ m.length ≤ 1000 ∧
  (∀ p v, p ∈ pre t → mrk p = m → Dp K G v (toD p) → Q v H) ∧ (m ∉ (pre t).map mrk → ∀ dd, H dd = none → E (.ref Ce) (some dd) (upd H dd (.xd [("mark", .str m)])))
theorem ok_Page_getitem (T : Top K mg w) (pf : PySem.XExc.PF P T.x_file) {k : Nat} : FnOk P w K mg base (L2.CX P w) (k + 2) T.a_Page_getitem T.d_Page_getitem ["self", "mark"] (spPgGet K T.C_Page T.C_NoNode) := by
  refine T.F_Page_getitem.okX sc_Page_getitem (fun vs H Q E h => ?_) (fun cdv A outer s H vs Q E hr h => ?_)
  · obtain ⟨G, x, m, t, rfl, _⟩ := h
    rfl
  · obtain ⟨G, x, m, t, rfl, s0, hp, nd, hch, hlen, q, qe⟩ := h
    obtain ⟨dx, N, A', O, v, us, ka, kn, h1, h2, h3, h4, h5, h6, h7⟩ := hp.ex
    have hx := s0 _ _ h1
    have ul := dpa_len h6
    rw [List.length_map] at ul
    refine ⟨_, (pss_cons (xs_if (pt_cmp (pc_dnotin (hu_of hr) (xv 1) (pe_fldK K (xv 0))))
      (pss_one (ps_raiseX (k := 0) rfl (T.x_NoNode P pf) (hr.mono (by omega)) (takes_of rfl rfl rfl rfl) (pa_cons (xv 1) pa_nil)))
      pss_nil)
      (pss_one (ps_ret (pe_dget (hu_of hr) (pe_fldK K (xv 0)) (xv 1) (fun _ _ => rfl))))), ?_⟩
    refine ⟨x, T.C_Page, dx, _, _, rfl, hx, T.cl_Page, T.na_Page_nodes, (by rw [lk_ne, lk_eq]), N, _, rfl, DGet.k (k := Sum.inr m) (s0 _ _ h3), _, rfl, fun e => ?_, fun e => ?_⟩
    · refine ⟨_, rfl, .inl ⟨_, rfl, repr_short hch hlen (Nat.le_refl _)⟩, fun dd ndd => qe (fun hm => ?_) dd ndd⟩
      obtain ⟨p, hp, rfl⟩ := List.mem_map.mp hm
      obtain ⟨u, hu, _⟩ := kn_val h6 nd hp
      rw [h7, hu] at e
      exact nomatch e
    · by_cases hm : m ∈ (pre t).map mrk
      · obtain ⟨p, hp, rfl⟩ := List.mem_map.mp hm
        obtain ⟨u, hu, hd⟩ := kn_val h6 nd hp
        refine ⟨x, T.C_Page, dx, _, _, rfl, hx, T.cl_Page, T.na_Page_nodes, (by rw [lk_ne, lk_eq]), N, u, rfl, ?_, q p u hp rfl hd⟩
        rw [← hu, ← h7]
        exact DGet.k (k := Sum.inr (mrk p)) (s0 _ _ h3)
      · rw [h7, kn_none ul hm] at e
        exact nomatch e
def spPgIter (K : PySem.W.Frag) (C : Addr) (n : Nat) : Sp := fun vs H Q _ => ∃ (G : Hp) (x : Addr) (t : Tr), vs = [.ref x] ∧ Same G H ∧ PgAt K C G x t ∧ ∀ it l, H it = none → n ≤ it → G l = some (.lst (((pre t).map mrk).map V.str)) → Q (.ref it) (upd H it (ItO l it 0))
theorem ok_Page_iter (T : Top K mg w) {k : Nat} : FnY P w K mg base CX0 (k + 1) T.a_Page_iter T.d_Page_iter ["self"] (spPgIter K T.C_Page) := by
  refine okY T.F_Page_iter sc_Page_iter (fun n vs H Q E h => ?_) (fun cdv A outer s H vs Q E hr h => ?_)
  · obtain ⟨G, x, t, rfl, _⟩ := h
    rfl
  · obtain ⟨G, x, t, rfl, s0, hp, q⟩ := h
    obtain ⟨dx, N, A', O, v, us, ka, kn, h1, h2, h3, h4, h5, h6, h7⟩ := hp.ex
    refine ⟨_, (pss_one (ps_ret (pe_callB ItX.call_iterN (by rfl) T.m_iter (by decide +kernel) (pa_cons (pe_fldK K (xv 0)) pa_nil)))), ?_⟩
    exact ⟨x, T.C_Page, dx, _, _, rfl, s0 _ _ h1, T.cl_Page, T.na_Page_order, (by rw [lk_ne, lk_ne, lk_ne, lk_eq]), O, _, rfl, SqL.of (s0 _ _ h5), fun it nit hn => q it O nit hn h5⟩
def spTop (K : PySem.W.Frag) (C : Addr) : Sp := fun vs H Q _ => ∃ (G : Hp) (p : Addr) (t : Tr), vs = [.ref p] ∧ Same G H ∧ PgAt K C G p t ∧ ∀ v, Dp K G v (toD t) → Q v H
theorem ok_Page_top (T : Top K mg w) {k : Nat} : FnOk P w K mg base CX0 (k + 1) T.a_Page_top T.d_Page_top ["self"] (spTop K T.C_Page) := by
  refine T.F_Page_top.ok sc_Page_top (fun vs H Q E h => ?_) (fun cdv A outer s H vs Q E hr h => ?_)
  · obtain ⟨G, p, t, rfl, _⟩ := h
    rfl
  · obtain ⟨G, p, t, rfl, S, pg, q⟩ := h
    obtain ⟨dx, N, A', O, v, us, ka, kn, h1, h2, _⟩ := pg.ex
    refine ⟨_, (pss_one (ps_ret (pe_fldK K (xv 0)))), ?_⟩
    exact ⟨p, T.C_Page, dx, _, _, rfl, S _ _ h1, T.cl_Page, T.na_Page_tree, lk_eq, q v h2⟩
def isB (z : Str) : Bool := Txt.startswith z "button "
def btn (ts : List Tr) : List Str := (ts.filter fun p => isB (lbl p)).map mrk
theorem btn_snoc (ts : List Tr) (p : Tr) : btn (ts ++ [p]) = btn ts ++ (if isB (lbl p) then [mrk p] else []) := by
  unfold btn
  rw [List.filter_append, List.map_append]
  cases h : isB (lbl p) <;> simp [List.filter, h]
theorem btn_sub {ts : List Tr} {m : Str} (h : m ∈ btn ts) : m ∈ ts.map mrk := by
  obtain ⟨p, hp, rfl⟩ := List.mem_map.mp h
  exact List.mem_map_of_mem (List.mem_filter.mp hp).1
theorem btn_len (ts : List Tr) : (btn ts).length ≤ ts.length := by
  unfold btn
  rw [List.length_map]
  exact List.length_filter_le _ _
theorem btn_nd {ts : List Tr} (h : (ts.map mrk).Nodup) : (btn ts).Nodup := (List.filter_sublist.map mrk).nodup h
def spBut (K : PySem.W.Frag) (C : Addr) : Sp := fun vs H Q _ => ∃ (G : Hp) (M : List (Addr × HO)) (x : Addr) (t : Tr), vs = [.ref x] ∧ Sep G M H ∧ PgAt K C G x t ∧ TrOk t ∧
  ∀ (b : Addr) (G' H' : Hp), Same G G' → TupF G' b ((btn (pre t)).map V.str) → Sep G' M H' → Q (.ref b) H'
theorem ok_buttons (T : Top K mg w) (G_Page_iter : FnY P w K mg base CX0 3 T.a_Page_iter T.d_Page_iter ["self"] (spPgIter K T.C_Page)) (G_Page_getitem : FnOk P w K mg base (L2.CX P w) 3 T.a_Page_getitem T.d_Page_getitem ["self", "mark"] (spPgGet K T.C_Page T.C_NoNode)) :
    FnOk P w K mg base CX0 5 T.a_buttons T.d_buttons ["page"] (spBut K T.C_Page) := by
  refine T.F_buttons.ok sc_buttons (fun vs H Q E h => ?_) (fun cdv A outer s H vs Q E hr h => ?_)
  · obtain ⟨G, M, x, t, rfl, _⟩ := h
    rfl
  · obtain ⟨G, M, x, t, rfl, S, hp, ok, q⟩ := h
    obtain ⟨dx, N, A', O, v, us, ka, kn, h1, _⟩ := id hp.ex
    have pl := ok.ln
    refine ⟨_, (pss_cons (ps_set (i := 1) sc_buttons.nd rfl (.inl rfl) (pe_lst pa_nil))
      (pss_cons (ps_for PassesOwn.never rfl (pi_ownLK K (xv 0) G_Page_iter T.sp_Page_iter.1 T.sp_Page_iter.2 T.b_Page_iter pass0 (hr.mono (by omega))) (pg_name (i := 2) sc_buttons.nd rfl (.inl rfl))
      (pss_one (xs_if (xt_truK K (pe_m1 PySem.F.slot_str_startswith PySem.F.type_str_startswith mt_startswith (pe_ix (ix_k K) (pe_ixO (xv 0) (xv 2) G_Page_getitem T.sp_Page_getitem.1 T.sp_Page_getitem.2.2 T.sp_Page_getitem.2.1 T.b_Page_getitem passL (hr.mono (by omega))) pe_int (fun _ _ => rfl)) pe_str))
      (pss_one (ps_expr (pe_bmK K PySem.F.plainAttrs_list PySem.F.slot_list_append PySem.F.type_list_append mt_append (xv 1) (pa_cons (xv 2) pa_nil))))
      pss_nil)))
      (pss_one (ps_ret (pe_callTy (call_tupleFK K) (by rfl) T.m_tuple (by decide +kernel) (pa_cons (xv 1) pa_nil)))))), ?_⟩
    refine ⟨sz, fun F nF => ?_⟩
    have S1 := S.new (o := .lst []) nF
    refine ⟨x, dx, _, rfl, S1.st h1, fun n => ⟨G, x, t, rfl, S1.1, hp, fun it l nit hn hlm => ⟨it, l, rfl, hn, upd_same, ?_⟩⟩⟩
    rw [dropH_upd nit]
    refine for_list (xs := ((pre t).map mrk).map V.str) (fun i σ H' => ∃ (y2 : Option V), σ = [some (.ref x), some (.ref F), y2] ∧ Sep G ((F, .lst ((btn ((pre t).take i)).map V.str)) :: M) H') ⟨_, rfl, S1⟩ (fun i σ H' _ h => ?_) (fun i y σ H' hy h => ?_) (fun σ H' h => ?_)
    · obtain ⟨_, _, S'⟩ := h
      exact SqL.of (S'.st hlm)
    · obtain ⟨y2, rfl, S'⟩ := h
      rw [List.getElem?_map, List.getElem?_map] at hy
      obtain ⟨z, hz, rfl⟩ := Option.map_eq_some_iff.mp hy
      obtain ⟨p, hpi, rfl⟩ := Option.map_eq_some_iff.mp hz
      have hpm := List.mem_of_getElem? hpi
      have il := (List.getElem?_eq_some_iff.mp hpi).1
      refine ⟨x, dx, _, rfl, S'.st h1, G, x, mrk p, t, rfl, S'.1, hp, ok.nd, (ok.tx p hpm).1.ch, Nat.le_trans (ok.tx p hpm).1.hi (by decide), fun p' v' hp' em hv' => ?_, fun hno => absurd (List.mem_map_of_mem hpm) hno⟩
      obtain rfl : p' = p := by
        obtain ⟨j, hj⟩ := List.getElem?_of_mem hp'
        have e1 : ((pre t).map mrk)[j]? = ((pre t).map mrk)[i]? := by rw [List.getElem?_map, List.getElem?_map, hj, hpi]; exact congrArg some em
        have jl := (List.getElem?_eq_some_iff.mp hj).1
        have e2 := (List.getElem?_inj (by rw [List.length_map]; exact jl) ok.nd).mp e1
        rw [e2, hpi] at hj
        exact (Option.some.inj hj).symm
      obtain ⟨a, kv, kus, rfl, ha, _, _⟩ := node_at hv'
      refine ⟨_, _, .inr (S'.t ha), atI_nat (j := 1) rfl, ⟨_, rfl⟩, _, _, rfl, rfl, ?_⟩
      have e := btn_snoc ((pre t).take i) p'
      rw [← take_snoc hpi] at e
      refine ⟨fun eb => ?_, fun eb => ?_⟩
      · rw [if_pos (show isB (lbl p') = true from eb)] at e
        refine ⟨.inl ⟨rfl, _, SqL.of S'.hd⟩, F, _, _, rfl, rfl, S'.hd, smallL ?_, ?_⟩
        · have := btn_len ((pre t).take i)
          rw [List.length_map]
          rw [List.length_take] at this
          omega
        refine ⟨_, rfl, ?_⟩
        rw [e, List.map_append]
        exact S'.set
      · rw [if_neg (by rw [show isB (lbl p') = false from eb]; decide), List.append_nil] at e
        refine ⟨_, rfl, ?_⟩
        rw [e]
        exact S'
    · obtain ⟨y2, rfl, S'⟩ := h
      rw [List.length_map, List.length_map, List.take_length] at S'
      refine ⟨F, _, rfl, .inl ⟨SqL.of S'.hd, fun b o nb ob => ?_⟩⟩
      have S2 := S'.drop.newG (o := .frz o (.tup ((btn (pre t)).map V.str))) nb
      exact q b _ _ (S'.drop.grow nb) ⟨o, ob, upd_same⟩ S2

end
end K22
set_option Elab.async false
set_option linter.all false
set_option maxRecDepth 100000
set_option maxHeartbeats 4000000
namespace K22
open PySem PySem.Spec PyProof.Rows L2 XL
section
variable {P : Program} {w : World} {K : PySem.W.Frag} {mg : Str → Option Value} {base : Heap}
/-! ### Focus -/
def oV : Option Str → V
  | none => .non
  | some m => .str m
def fcF (z : Str) (pg mk : Addr) (v : V) : List (Str × V) := [("rule", .str z), ("kept_page", .ref pg), ("marks", .ref mk), ("held", v)]
theorem fc_rule {z : Str} {pg mk : Addr} {v : V} : (fcF z pg mk v).lookup ("rule" : Str) = some (.str z) := lk_eq
theorem fc_page {z : Str} {pg mk : Addr} {v : V} : (fcF z pg mk v).lookup ("kept_page" : Str) = some (.ref pg) := by unfold fcF; rw [lk_ne, lk_eq]
theorem fc_marks {z : Str} {pg mk : Addr} {v : V} : (fcF z pg mk v).lookup ("marks" : Str) = some (.ref mk) := by unfold fcF; rw [lk_ne, lk_ne, lk_eq]
theorem fc_held {z : Str} {pg mk : Addr} {v : V} : (fcF z pg mk v).lookup ("held" : Str) = some v := by unfold fcF; rw [lk_ne, lk_ne, lk_ne, lk_eq]
theorem fc_put {z : Str} {pg mk : Addr} {v u : V} : putF "held" u (fcF z pg mk v) = fcF z pg mk u := by unfold fcF; rw [putF_ne, putF_ne, putF_ne, putF_eq]
theorem eqv_str (a b : Str) : PyData.eqv (.str a) (.str b) = decide (a = b) := by
  rw [Bool.eq_iff_iff]
  simp [PyData.eqv]
theorem nodup_at {α : Type} {xs : List α} (h : xs.Nodup) {i j : Nat} {x : α} (hi : xs[i]? = some x) (hj : xs[j]? = some x) : i = j :=
  (List.getElem?_inj (List.getElem?_eq_some_iff.mp hi).1 h).mp (hi.trans hj.symm)
theorem strs_dp {K : PySem.W.Frag} {G : Hp} : ∀ zs : List Str, DpAll K G (zs.map V.str) (zs.map PyData.str)
  | [] => .nil
  | z :: r => .cons (.str z) (strs_dp r)
theorem strs_fit {zs : List Str} {b : Nat} (h : ∀ z ∈ zs, (∀ c ∈ z.cps.toList, c < 128) ∧ z.length ≤ b) : ∃ n, Fit n 1 (.list (zs.map PyData.str)) :=
  ⟨_, Fit.lsts (w := b) fun d hd => by
    obtain ⟨z, hz, rfl⟩ := List.mem_map.mp hd
    exact Fit.str (fun c hc => Nat.lt_trans ((h z hz).1 c hc) (by decide)) (h z hz).2⟩
/-- good texts -/
def Gd (z : Str) : Prop := (∀ c ∈ z.cps.toList, c < 128) ∧ z.length ≤ 1000
theorem Tx.gd {a b : Nat} {z : Str} (h : Tx a b z) (hb : b ≤ 1000) : Gd z := ⟨h.ch, Nat.le_trans h.hi hb⟩
theorem Gd.sh {z : Str} (h : Gd z) : SeqAt.shaped (.str z) = true := (Fit.str (w := 1000) (fun c hc => Nat.lt_trans (h.1 c hc) (by decide)) h.2).shaped (by decide)
theorem gd_lay {zs : List Str} (h : ∀ z ∈ zs, Gd z) : PyData.canLayAll0 (zs.map PyData.str) = true := layAll fun d hd => by
  obtain ⟨z, hz, rfl⟩ := List.mem_map.mp hd
  exact (Fit.str (w := 1000) (fun c hc => Nat.lt_trans ((h z hz).1 c hc) (by decide)) (h z hz).2).cl
/-- where the focus stands -/
def HK (bs : List Str) (h : Option Str) (hk : Option Nat) : Prop := (h = none ∧ hk = none) ∨ ∃ m k, h = some m ∧ hk = some k ∧ bs[k]? = some m
def stK (n : Nat) (hk : Option Nat) (nx : Bool) : Nat := match hk with
  | none => if nx then 0 else n - 1
  | some k => if nx then (k + 1) % n else (k + n - 1) % n
def stp1 (bs : List Str) (hk : Option Nat) (nx : Bool) : Option Str := if bs = [] then none else bs[stK bs.length hk nx]?
theorem stK_lt {n : Nat} (h : 0 < n) (hk : Option Nat) (nx : Bool) : stK n hk nx < n := by
  unfold stK
  split
  · split <;> omega
  · split <;> exact Nat.mod_lt _ h
theorem stp1_ne {bs : List Str} (h : bs ≠ []) (hk : Option Nat) (nx : Bool) : ∃ m, bs[stK bs.length hk nx]? = some m ∧ stp1 bs hk nx = some m := by
  have hl : 0 < bs.length := List.length_pos_iff.mpr h
  have := stK_lt hl hk nx
  refine ⟨bs[stK bs.length hk nx], List.getElem?_eq_getElem this, ?_⟩
  unfold stp1
  rw [if_neg h, List.getElem?_eq_getElem this]
theorem HK.step {bs : List Str} {hk : Option Nat} {nx : Bool} : ∃ hk', HK bs (stp1 bs hk nx) hk' := by
  by_cases h : bs = []
  · exact ⟨none, .inl ⟨by unfold stp1; rw [if_pos h], rfl⟩⟩
  · obtain ⟨m, h1, h2⟩ := stp1_ne h hk nx
    exact ⟨some _, .inr ⟨m, _, h2, rfl, h1⟩⟩
theorem HK.mem {bs : List Str} {m : Str} {hk : Option Nat} (h : HK bs (some m) hk) : m ∈ bs := by
  rcases h with ⟨e, _⟩ | ⟨m', k, e, _, h3⟩
  · cases e
  · cases e
    exact List.mem_of_getElem? h3
theorem HK.of {bs : List Str} {m : Str} (h : m ∈ bs) : ∃ hk, HK bs (some m) hk := by
  obtain ⟨k, hk⟩ := List.getElem?_of_mem h
  exact ⟨some k, .inr ⟨m, k, rfl, rfl, hk⟩⟩
def rules : List Str := ["none", "first", "near"]
def spFoc (K : PySem.W.Frag) (C CP Ce : Addr) : Sp := fun vs H Q E => ∃ (G : Hp) (M : List (Addr × HO)) (x dx pg : Addr) (z : Str) (t : Tr), vs = [.ref x, .ref pg, .str z] ∧ Sep G ((x, .ins C dx []) :: M) H ∧ PgAt K CP G pg t ∧ TrOk t ∧ Gd z ∧
  (z ∈ rules → ∀ (mk : Addr) (G' H' : Hp), Same G G' → TupF G' mk ((btn (pre t)).map V.str) → Sep G' ((x, .ins C dx (fcF z pg mk .non)) :: M) H' → Q .non H') ∧
  (z ∉ rules → ∀ dd, H dd = none → E (.ref Ce) (some dd) (upd H dd (.xd [("rule", .str z)])))
theorem ok_Focus_init (T : Top K mg w) (pf : PySem.XExc.PF P T.x_file) (G_buttons : FnOk P w K mg base CX0 5 T.a_buttons T.d_buttons ["page"] (spBut K T.C_Page)) :
    FnOk P w K mg base (L2.CX P w) 7 T.a_Focus_init T.d_Focus_init ["self", "page", "rule"] (spFoc K T.C_Focus T.C_Page T.C_BadRule) := by
  refine T.F_Focus_init.ok sc_Focus_init (fun vs H Q E h => ?_) (fun cdv A outer s H vs Q E hr h => ?_)
  · obtain ⟨G, M, x, dx, pg, z, t, rfl, _⟩ := h
    rfl
  · obtain ⟨G, M, x, dx, pg, z, t, rfl, S, hp, ok, hz, q, qe⟩ := h
    refine ⟨_, (pss_cons (xs_if (xt_cmp (notin_seqK K) (xv 2) (pe_glob (v := .ref T.U_RULES) (by rfl) T.g_RULES rfl) (by rfl))
      (pss_one (ps_raiseX (k := 0) rfl (T.x_BadRule P pf) (hr.mono (by omega)) (takes_of rfl rfl rfl rfl) (pa_cons (xv 2) pa_nil)))
      pss_nil)
      (pss_cons (ps_fld (xv 0) (xv 2) rfl)
      (pss_cons (ps_fld (xv 0) (xv 1) rfl)
      (pss_cons (ps_fld (xv 0) (pe_call G_buttons (hr.mono (by omega)) (by rfl) T.g_buttons T.F_buttons.kp T.b_buttons .nil pass0 (pa_cons (xv 1) pa_nil)) rfl)
      (pss_one (ps_fld (xv 0) pe_non rfl)))))), ?_⟩
    refine ⟨T.U_RULES, _, rfl, .inr (T.sq_RULES _), rfl, rfl, fun e => ?_, fun e => ?_⟩
    · have e2 : (!inV (.str z) (rules.map V.str)) = true := e
      rw [inV_str] at e2
      exact ⟨_, rfl, .inl ⟨_, rfl, repr_short hz.1 hz.2 (Nat.le_refl _)⟩, fun dd ndd => qe (by simpa using e2) dd ndd⟩
    · have e2 : (!inV (.str z) (rules.map V.str)) = false := e
      rw [inV_str] at e2
      have hm : z ∈ rules := by simpa using e2
      refine ⟨x, T.C_Focus, dx, _, rfl, S.hd, T.cl_Focus, T.na_Focus_rule, by simp, ?_⟩
      rw [putF_nil]
      have X1 := S.set (o' := .ins T.C_Focus dx [("rule", .str z)])
      refine ⟨x, T.C_Focus, dx, _, rfl, X1.hd, T.cl_Focus, T.na_Focus_kept_page, by simp, ?_⟩
      rw [putF_ne, putF_nil]
      have X2 := X1.set (o' := .ins T.C_Focus dx [("rule", .str z), ("kept_page", .ref pg)])
      refine ⟨G, _, pg, t, rfl, X2, hp, ok, fun mk G3 H3 s3 hmk X3 => ?_⟩
      refine ⟨x, T.C_Focus, dx, _, rfl, X3.hd, T.cl_Focus, T.na_Focus_marks, by simp, ?_⟩
      rw [putF_ne, putF_ne, putF_nil]
      have X4 := X3.set (o' := .ins T.C_Focus dx [("rule", .str z), ("kept_page", .ref pg), ("marks", .ref mk)])
      refine ⟨x, T.C_Focus, dx, _, rfl, X4.hd, T.cl_Focus, T.na_Focus_held, by simp, ?_⟩
      rw [putF_ne, putF_ne, putF_ne, putF_nil]
      exact q hm mk G3 _ s3 hmk (X4.set (o' := .ins T.C_Focus dx (fcF z pg mk .non)))
theorem ok_Focus_page (T : Top K mg w) {k : Nat} : FnOk P w K mg base CX0 (k + 1) T.a_Focus_page T.d_Focus_page ["self"] (getSp T.C_Focus "kept_page") := by
  refine T.F_Focus_page.ok sc_Focus_page (fun vs H Q E h => ?_) (fun cdv A outer s H vs Q E hr h => ?_)
  · obtain ⟨x, dx, fs, v, rfl, _⟩ := h
    rfl
  · obtain ⟨x, dx, fs, v, rfl, hx, hl, q⟩ := h
    exact ⟨_, (pss_one (ps_ret (pe_fldK K (xv 0)))), x, T.C_Focus, dx, _, _, rfl, hx, T.cl_Focus, T.na_Focus_kept_page, hl, q⟩
theorem ok_Focus_at (T : Top K mg w) {k : Nat} : FnOk P w K mg base CX0 (k + 1) T.a_Focus_at T.d_Focus_at ["self"] (getSp T.C_Focus "held") := by
  refine T.F_Focus_at.ok sc_Focus_at (fun vs H Q E h => ?_) (fun cdv A outer s H vs Q E hr h => ?_)
  · obtain ⟨x, dx, fs, v, rfl, _⟩ := h
    rfl
  · obtain ⟨x, dx, fs, v, rfl, hx, hl, q⟩ := h
    exact ⟨_, (pss_one (ps_ret (pe_fldK K (xv 0)))), x, T.C_Focus, dx, _, _, rfl, hx, T.cl_Focus, T.na_Focus_held, hl, q⟩
def spAt (r : V → Hp → VK → Prop) (C Ce : Addr) : Sp := fun vs H Q E => ∃ (G : Hp) (M : List (Addr × HO)) (x dx pg mk : Addr) (z : Str) (v : V) (bs : List Str) (h : Option Str), vs = [.ref x, oV h] ∧ Sep G ((x, .ins C dx (fcF z pg mk v)) :: M) H ∧ TupF G mk (bs.map V.str) ∧ (∀ m, h = some m → Gd m) ∧
  ((h = none ∨ ∃ m ∈ bs, h = some m) → ∀ H', Sep G ((x, .ins C dx (fcF z pg mk (oV h))) :: M) H' → r (oV h) H' Q) ∧
  (∀ m, h = some m → m ∉ bs → ∀ dd, H dd = none → E (.ref Ce) (some dd) (upd H dd (.xd [("mark", .str m)])))
theorem ok_Focus_at_set (T : Top K mg w) (pf : PySem.XExc.PF P T.x_file) {k : Nat} : FnOk P w K mg base (L2.CX P w) (k + 2) T.a_Focus_at_set T.d_Focus_at_set ["self", "mark"] (spAt (fun _ H Q => Q .non H) T.C_Focus T.C_NoNode) := by
  refine T.F_Focus_at_set.okX sc_Focus_at_set (fun vs H Q E h => ?_) (fun cdv A outer s H vs Q E hr h => ?_)
  · obtain ⟨G, M, x, dx, pg, mk, z, v, bs, h, rfl, _⟩ := h
    rfl
  · obtain ⟨G, M, x, dx, pg, mk, z, v, bs, h, rfl, S, hmk, hg, q, qe⟩ := h
    refine ⟨_, (pss_cons (xs_if (PW.pt (xw_and (xt_cmp op_notN (xv 1) pe_non (nomark _)) (pw_and1 (xt_cmp (notin_seqK K) (xv 1) (pe_fldK K (xv 0)) (by rfl)))))
      (pss_one (ps_raiseX (k := 0) rfl (T.x_NoNode P pf) (hr.mono (by omega)) (takes_of rfl rfl rfl rfl) (pa_cons (xv 1) pa_nil)))
      pss_nil)
      (pss_one (ps_fld (xv 0) (xv 1) rfl))), ?_⟩
    have st : ∀ H1, H1 = H → (h = none ∨ ∃ m ∈ bs, h = some m) → _ := fun H1 e hh => q hh _ (S.set (o' := .ins T.C_Focus dx (fcF z pg mk (oV h))))
    cases h with
    | none =>
      refine ⟨rfl, ff, fun _ => ⟨ff, fun _ => ?_⟩⟩
      refine ⟨x, T.C_Focus, dx, _, rfl, S.hd, T.cl_Focus, T.na_Focus_held, by simp [fcF], ?_⟩
      rw [fc_put]
      exact st _ rfl (.inl rfl)
    | some m =>
      refine ⟨rfl, fun _ => ?_, tt⟩
      refine ⟨x, T.C_Focus, dx, _, _, rfl, S.hd, T.cl_Focus, T.na_Focus_marks, fc_marks, mk, _, rfl, .inr (hmk.same S.1).tu.sq, rfl, strs_flat _, fun e => ?_, fun e => ?_⟩
      · have e2 : (!inV (.str m) (bs.map V.str)) = true := e
        rw [inV_str] at e2
        exact ⟨_, rfl, .inl ⟨_, rfl, repr_short (hg m rfl).1 (hg m rfl).2 (Nat.le_refl _)⟩, fun dd ndd => qe m rfl (by simpa using e2) dd ndd⟩
      · have e2 : (!inV (.str m) (bs.map V.str)) = false := e
        rw [inV_str] at e2
        refine ⟨x, T.C_Focus, dx, _, rfl, S.hd, T.cl_Focus, T.na_Focus_held, by simp [fcF], ?_⟩
        rw [fc_put]
        exact st _ rfl (.inr ⟨m, by simpa using e2, rfl⟩)
theorem ok_Focus_put (T : Top K mg w) (G_Focus_at_set : FnOk P w K mg base (L2.CX P w) 3 T.a_Focus_at_set T.d_Focus_at_set ["self", "mark"] (spAt (fun _ H Q => Q .non H) T.C_Focus T.C_NoNode)) :
    FnOk P w K mg base (L2.CX P w) 6 T.a_Focus_put T.d_Focus_put ["self", "mark"] (spAt (fun v H Q => Q v H) T.C_Focus T.C_NoNode) := by
  refine T.F_Focus_put.okX sc_Focus_put (fun vs H Q E h => ?_) (fun cdv A outer s H vs Q E hr h => ?_)
  · obtain ⟨G, M, x, dx, pg, mk, z, v, bs, h, rfl, _⟩ := h
    rfl
  · obtain ⟨G, M, x, dx, pg, mk, z, v, bs, h, rfl, S, hmk, hg, q, qe⟩ := h
    refine ⟨_, (pss_cons (ps_pset (xv 0) (xv 1) T.cl_Focus T.ps_Focus_at_set G_Focus_at_set (hr.mono (by omega)) T.b_Focus_at_set (passO (takes_of rfl rfl rfl rfl)) rfl)
      (pss_one (ps_ret (pe_fldK K (xv 0))))), ?_⟩
    refine ⟨x, dx, _, rfl, S.hd, G, M, x, dx, pg, mk, z, v, bs, h, rfl, S, hmk, hg, fun hh H' S' => ?_, qe⟩
    exact ⟨x, T.C_Focus, dx, _, _, rfl, S'.hd, T.cl_Focus, T.na_Focus_held, fc_held, q hh H' S'⟩

end
end K22
set_option Elab.async false
set_option linter.all false
set_option maxRecDepth 100000
set_option maxHeartbeats 4000000
namespace K22
open PySem PySem.Spec PyProof.Rows L2 XL
section
variable {P : Program} {w : World} {K : PySem.W.Frag} {mg : Str → Option Value} {base : Heap}
theorem tix {bs : List Str} {k : Nat} {m : Str} (nd : bs.Nodup) (hk : bs[k]? = some m) : ∀ (j : Nat) (z : PyData), j < k → (bs.map PyData.str)[j]? = some z → PyData.eqv z (.str m) = false := fun j z hj hz => by
  rw [List.getElem?_map] at hz
  obtain ⟨y, hy, rfl⟩ := Option.map_eq_some_iff.mp hz
  rw [eqv_str, decide_eq_false_iff_not]
  intro e
  rw [e] at hy
  have := nodup_at nd hy hk
  omega
theorem atI_end {α : Type} {xs : List α} {v : α} (h : xs[xs.length - 1]? = some v) : atI xs (-1) = some v := by
  rcases nil_or_snoc xs with rfl | ⟨ys, y, rfl⟩
  · simp at h
  · rw [List.length_append, List.length_singleton, Nat.add_sub_cancel, List.getElem?_append_right (Nat.le_refl _), Nat.sub_self] at h
    obtain rfl : y = v := by simpa using h
    exact atI_last ys y
theorem mod_next {k n : Nat} : (((k : Int)) + 1) % (n : Int) = (((k + 1) % n : Nat) : Int) := by
  rw [Int.natCast_emod]
  rfl
theorem mod_prev {k n : Nat} (h : 0 < n) : (((k : Int)) - 1) % (n : Int) = (((k + n - 1) % n : Nat) : Int) := by
  rw [Int.natCast_emod, show ((k + n - 1 : Nat) : Int) = ((k : Int) - 1) + n by omega, Int.add_emod_right]
theorem at_str {bs : List Str} {j : Nat} {m : Str} (h : bs[j]? = some m) : atI (bs.map V.str) (j : Int) = some (.str m) := atI_nat (by rw [List.getElem?_map, h]; rfl)
def spStep (C : Addr) : Sp := fun vs H Q _ => ∃ (G : Hp) (M : List (Addr × HO)) (x dx pg mk : Addr) (z : Str) (bs : List Str) (h : Option Str) (hk : Option Nat) (nx : Bool), vs = [.ref x, .str (if nx then "next" else "back")] ∧ Sep G ((x, .ins C dx (fcF z pg mk (oV h))) :: M) H ∧ TupF G mk (bs.map V.str) ∧ (∀ z ∈ bs, Gd z) ∧ bs.Nodup ∧ bs.length ≤ 1000 ∧ HK bs h hk ∧
  ∀ H', Sep G ((x, .ins C dx (fcF z pg mk (oV (stp1 bs hk nx)))) :: M) H' → Q (oV (stp1 bs hk nx)) H'
theorem ok_Focus_step (T : Top K mg w) {k : Nat} : FnOk P w K mg base CX0 (k + 1) T.a_Focus_step T.d_Focus_step ["self", "way"] (spStep T.C_Focus) := by
  refine T.F_Focus_step.ok sc_Focus_step (fun vs H Q E h => ?_) (fun cdv A outer s H vs Q E hr h => ?_)
  · obtain ⟨G, M, x, dx, pg, mk, z, bs, h, hk, nx, rfl, _⟩ := h
    rfl
  · obtain ⟨G, M, x, dx, pg, mk, z, bs, h, hk, nx, rfl, S, hmk, hg, nd, bl, hh, q⟩ := h
    refine ⟨_, (pss_cons (ps_set (i := 2) sc_Focus_step.nd rfl (.inl rfl) (pe_callB (cr_lenK K) (by rfl) T.m_len (by decide +kernel) (pa_cons (pe_fldK K (xv 0)) pa_nil)))
      (pss_cons (xs_if (xt_cmp (op_eqK K hr.units) (xv 2) pe_int (nomark _))
      (pss_one (ps_fld (xv 0) pe_non rfl))
      (pss_one (xs_if (xt_cmp (op_eqK K hr.units) (xv 1) pe_str (nomark _))
      (pss_cons (ps_set (i := 3) sc_Focus_step.nd rfl (.inl rfl) (xe_if (xt_cmp op_isN (pe_fldK K (xv 0)) pe_non (nomark _)) (pe_un un_neg pe_int) (pe_tm PySem.F.slot_tuple_index PySem.F.type_tuple_index (mt_tindexK K (u65 hr)) (pe_fldK K (xv 0)) (pa_cons (pe_fldK K (xv 0)) pa_nil))))
      (pss_one (ps_fld (xv 0) (pe_ix (ix_k K) (pe_fldK K (xv 0)) (pe_op op_modY (pe_op op_addY (xv 3) pe_int) (xv 2)) (fun _ _ => rfl)) rfl)))
      (pss_cons (ps_set (i := 3) sc_Focus_step.nd rfl (.inl rfl) (xe_if (xt_cmp op_isN (pe_fldK K (xv 0)) pe_non (nomark _)) pe_int (pe_tm PySem.F.slot_tuple_index PySem.F.type_tuple_index (mt_tindexK K (u65 hr)) (pe_fldK K (xv 0)) (pa_cons (pe_fldK K (xv 0)) pa_nil))))
      (pss_one (ps_fld (xv 0) (pe_ix (ix_k K) (pe_fldK K (xv 0)) (pe_op op_modY (pe_op op_subY (xv 3) pe_int) (xv 2)) (fun _ _ => rfl)) rfl))))))
      (pss_one (ps_ret (pe_fldK K (xv 0)))))), ?_⟩
    have mkq := (hmk.same S.1).tu.sq (K := K)
    have F := fun (f : Str) => (S.hd : H x = some (.ins T.C_Focus dx (fcF z pg mk (oV h))))
    have X1 := fun v => S.set (o' := .ins T.C_Focus dx (fcF z pg mk v))
    refine ⟨x, T.C_Focus, dx, _, _, rfl, S.hd, T.cl_Focus, T.na_Focus_marks, fc_marks, _, .inr mkq, fun e => ?_, fun e => ?_⟩
    · have e0 : bs = [] := by
        have := of_decide_eq_true e
        rw [List.length_map] at this
        exact List.length_eq_zero_iff.mp (by omega)
      have e1 : stp1 bs hk nx = none := by unfold stp1; rw [if_pos e0]
      rw [e1] at q
      refine ⟨x, T.C_Focus, dx, _, rfl, S.hd, T.cl_Focus, T.na_Focus_held, by simp [fcF], ?_⟩
      rw [fc_put]
      exact ⟨x, T.C_Focus, dx, _, _, rfl, (X1 _).hd, T.cl_Focus, T.na_Focus_held, fc_held, q _ (X1 _)⟩
    · have e0 : bs ≠ [] := fun e0 => by
        have := of_decide_eq_false e
        rw [e0] at this
        exact this rfl
      have hl : 0 < bs.length := List.length_pos_iff.mpr e0
      have bl2 : (bs.map V.str).length = bs.length := List.length_map _
      obtain ⟨m1, hm1, hs1⟩ := stp1_ne e0 hk nx
      rw [hs1] at q
      have fin : ∀ H', H' = upd H x (.ins T.C_Focus dx (fcF z pg mk (oV (some m1)))) → _ := fun H' e => q H' (by rw [e]; exact X1 _)
      cases nx with
      | true =>
        refine ⟨fun _ => ?_, fun e => absurd e (by decide)⟩
        rcases hh with ⟨rfl, rfl⟩ | ⟨m, k0, rfl, rfl, hk0⟩
        · refine ⟨x, T.C_Focus, dx, _, _, rfl, S.hd, T.cl_Focus, T.na_Focus_held, fc_held, rfl, fun _ => ?_, tt⟩
          refine ⟨1, rfl, x, T.C_Focus, dx, _, _, rfl, S.hd, T.cl_Focus, T.na_Focus_marks, fc_marks, by rw [bl2]; omega, fun r er r0 r1 => ?_⟩
          have hm1' : bs[0]? = some m1 := hm1
          have er0 : r = ((0 : Nat) : Int) := by rw [er]; show (0 : Int) % _ = 0; exact Int.zero_emod _
          refine ⟨_, _, .inr mkq, by rw [er0]; exact at_str hm1', x, T.C_Focus, dx, _, rfl, S.hd, T.cl_Focus, T.na_Focus_held, by simp [fcF], ?_⟩
          rw [fc_put]
          exact ⟨x, T.C_Focus, dx, _, _, rfl, (X1 _).hd, T.cl_Focus, T.na_Focus_held, fc_held, fin _ rfl⟩
        · refine ⟨x, T.C_Focus, dx, _, _, rfl, S.hd, T.cl_Focus, T.na_Focus_held, fc_held, rfl, ff, fun _ => ?_⟩
          refine ⟨x, T.C_Focus, dx, _, _, rfl, S.hd, T.cl_Focus, T.na_Focus_marks, fc_marks, ⟨mk, _, rfl, hmk.same S.1⟩, x, T.C_Focus, dx, _, _, rfl, S.hd, T.cl_Focus, T.na_Focus_held, fc_held, ?_⟩
          refine ⟨mk, .str m, .str m, bs.map PyData.str, k0, .str m, rfl, rfl, .tup mkq (strs_dp _), .str _, gd_lay hg, (hg m (List.mem_of_getElem? hk0)).sh, by rw [List.getElem?_map, hk0]; rfl, by rw [eqv_str]; simp, tix nd hk0, ?_⟩
          refine ⟨x, T.C_Focus, dx, _, _, rfl, S.hd, T.cl_Focus, T.na_Focus_marks, fc_marks, by rw [bl2]; omega, fun r er r0 r1 => ?_⟩
          have hm1' : bs[(k0 + 1) % bs.length]? = some m1 := hm1
          rw [bl2, mod_next] at er
          refine ⟨_, _, .inr mkq, by rw [er]; exact at_str hm1', x, T.C_Focus, dx, _, rfl, S.hd, T.cl_Focus, T.na_Focus_held, by simp [fcF], ?_⟩
          rw [fc_put]
          exact ⟨x, T.C_Focus, dx, _, _, rfl, (X1 _).hd, T.cl_Focus, T.na_Focus_held, fc_held, fin _ rfl⟩
      | false =>
        refine ⟨fun e => absurd e (by decide), fun _ => ?_⟩
        rcases hh with ⟨rfl, rfl⟩ | ⟨m, k0, rfl, rfl, hk0⟩
        · refine ⟨x, T.C_Focus, dx, _, _, rfl, S.hd, T.cl_Focus, T.na_Focus_held, fc_held, rfl, fun _ => ?_, tt⟩
          refine ⟨x, T.C_Focus, dx, _, _, rfl, S.hd, T.cl_Focus, T.na_Focus_marks, fc_marks, by rw [bl2]; omega, fun r er r0 r1 => ?_⟩
          have hm1' : bs[bs.length - 1]? = some m1 := hm1
          have er0 : r = ((bs.length - 1 : Nat) : Int) := by
            have := mod_prev (k := 0) hl
            rw [er, bl2]
            rw [show ((0 : Int) - 1) = (((0 : Nat) : Int) - 1) from rfl, this, Nat.mod_eq_of_lt (by omega), Nat.zero_add]
          refine ⟨_, _, .inr mkq, by rw [er0]; exact at_str hm1', x, T.C_Focus, dx, _, rfl, S.hd, T.cl_Focus, T.na_Focus_held, by simp [fcF], ?_⟩
          rw [fc_put]
          exact ⟨x, T.C_Focus, dx, _, _, rfl, (X1 _).hd, T.cl_Focus, T.na_Focus_held, fc_held, fin _ rfl⟩
        · refine ⟨x, T.C_Focus, dx, _, _, rfl, S.hd, T.cl_Focus, T.na_Focus_held, fc_held, rfl, ff, fun _ => ?_⟩
          refine ⟨x, T.C_Focus, dx, _, _, rfl, S.hd, T.cl_Focus, T.na_Focus_marks, fc_marks, ⟨mk, _, rfl, hmk.same S.1⟩, x, T.C_Focus, dx, _, _, rfl, S.hd, T.cl_Focus, T.na_Focus_held, fc_held, ?_⟩
          refine ⟨mk, .str m, .str m, bs.map PyData.str, k0, .str m, rfl, rfl, .tup mkq (strs_dp _), .str _, gd_lay hg, (hg m (List.mem_of_getElem? hk0)).sh, by rw [List.getElem?_map, hk0]; rfl, by rw [eqv_str]; simp, tix nd hk0, ?_⟩
          refine ⟨x, T.C_Focus, dx, _, _, rfl, S.hd, T.cl_Focus, T.na_Focus_marks, fc_marks, by rw [bl2]; omega, fun r er r0 r1 => ?_⟩
          have hm1' : bs[(k0 + bs.length - 1) % bs.length]? = some m1 := hm1
          rw [bl2, mod_prev hl] at er
          refine ⟨_, _, .inr mkq, by rw [er]; exact at_str hm1', x, T.C_Focus, dx, _, rfl, S.hd, T.cl_Focus, T.na_Focus_held, by simp [fcF], ?_⟩
          rw [fc_put]
          exact ⟨x, T.C_Focus, dx, _, _, rfl, (X1 _).hd, T.cl_Focus, T.na_Focus_held, fc_held, fin _ rfl⟩
/-! ### the law's own step -/
theorem lix {bs : List Str} {k : Nat} {m : Str} (nd : bs.Nodup) (hk : bs[k]? = some m) : ∀ (j : Nat) (z : V), j < k → (bs.map V.str)[j]? = some z → eqV z (.str m) = false := fun j z hj hz => by
  rw [List.getElem?_map] at hz
  obtain ⟨y, hy, rfl⟩ := Option.map_eq_some_iff.mp hz
  show (y == m) = false
  rw [beq_eq_false_iff_ne]
  intro e
  rw [e] at hy
  have := nodup_at nd hy hk
  omega
def spStepd (K : PySem.W.Frag) : Sp := fun vs H Q _ => ∃ (ml : Addr) (bs : List Str) (h : Option Str) (hk : Option Nat) (nx : Bool), vs = [.ref ml, oV h, .str (if nx then "next" else "back")] ∧ SqL K H ml (bs.map V.str) ∧ bs.Nodup ∧ HK bs h hk ∧ Q (oV (stp1 bs hk nx)) H
theorem ok_stepped (T : Top K mg w) {k : Nat} : FnOk P w K mg base CX0 (k + 1) T.a_stepped T.d_stepped ["_law_marks_here", "_law_at", "_law_way"] (spStepd K) := by
  refine T.F_stepped.ok sc_stepped (fun vs H Q E h => ?_) (fun cdv A outer s H vs Q E hr h => ?_)
  · obtain ⟨ml, bs, h, hk, nx, rfl, _⟩ := h
    rfl
  · obtain ⟨ml, bs, h, hk, nx, rfl, hml, nd, hh, q⟩ := h
    refine ⟨_, (pss_cons (xs_if (xt_cmp (op_eqK K hr.units) (pe_callB (cr_lenK K) (by rfl) T.m_len (by decide +kernel) (pa_cons (xv 0) pa_nil)) pe_int (nomark _))
      (pss_one (ps_ret pe_non))
      pss_nil)
      (pss_cons (xs_if (xt_cmp op_isN (xv 1) pe_non (nomark _))
      (pss_one (ps_ret (xe_if (xt_cmp (op_eqK K hr.units) (xv 2) pe_str (nomark _)) (pe_ix (ix_k K) (xv 0) pe_int (fun _ _ => rfl)) (pe_ix (ix_k K) (xv 0) (pe_un un_neg pe_int) (fun _ _ => rfl)))))
      pss_nil)
      (pss_cons (ps_set (i := 3) sc_stepped.nd rfl (.inl rfl) (pe_bmK K PySem.F.plainAttrs_list PySem.F.slot_list_index PySem.F.type_list_index (mt_indexK K) (xv 0) (pa_cons (xv 1) pa_nil)))
      (pss_cons (xs_if (xt_cmp (op_eqK K hr.units) (xv 2) pe_str (nomark _))
      (pss_one (ps_ret (xe_if (xt_cmp op_ltY (pe_op op_addY (xv 3) pe_int) (pe_callB (cr_lenK K) (by rfl) T.m_len (by decide +kernel) (pa_cons (xv 0) pa_nil)) (nomark _)) (pe_ix (ix_k K) (xv 0) (pe_op op_addY (xv 3) pe_int) (fun _ _ => rfl)) (pe_ix (ix_k K) (xv 0) pe_int (fun _ _ => rfl)))))
      pss_nil)
      (pss_one (ps_ret (xe_if (xt_cmp op_gtY (xv 3) pe_int (nomark _)) (pe_ix (ix_k K) (xv 0) (pe_op op_subY (xv 3) pe_int) (fun _ _ => rfl)) (pe_ix (ix_k K) (xv 0) (pe_un un_neg pe_int) (fun _ _ => rfl))))))))), ?_⟩
    have bl2 : (bs.map V.str).length = bs.length := List.length_map _
    refine ⟨_, .inl hml, fun e => ?_, fun e => ?_⟩
    · have e0 : bs = [] := by
        have := of_decide_eq_true e
        rw [List.length_map] at this
        exact List.length_eq_zero_iff.mp (by omega)
      have e1 : stp1 bs hk nx = none := by unfold stp1; rw [if_pos e0]
      rw [e1] at q
      exact q
    · have e0 : bs ≠ [] := fun e0 => by
        have := of_decide_eq_false e
        rw [e0] at this
        exact this rfl
      have hl : 0 < bs.length := List.length_pos_iff.mpr e0
      obtain ⟨m1, hm1, hs1⟩ := stp1_ne e0 hk nx
      rw [hs1] at q
      have la : ∀ {m}, bs[bs.length - 1]? = some m → atI (bs.map V.str) (-1) = some (.str m) := fun {m} hm => atI_end (by rw [List.getElem?_map, bl2, hm]; rfl)
      rcases hh with ⟨rfl, rfl⟩ | ⟨m, k0, rfl, rfl, hk0⟩
      · refine ⟨rfl, fun _ => ?_, tt⟩
        cases nx with
        | true =>
          refine ⟨fun _ => ?_, fun e => absurd e (by decide)⟩
          exact ⟨_, _, .inl hml, at_str (j := 0) hm1, q⟩
        | false =>
          refine ⟨fun e => absurd e (by decide), fun _ => ?_⟩
          exact ⟨1, rfl, _, _, .inl hml, la hm1, q⟩
      · have kl := (List.getElem?_eq_some_iff.mp hk0).1
        refine ⟨rfl, ff, fun _ => ⟨.inl ⟨rfl, _, hml⟩, ml, _, .str m, k0, .str m, rfl, rfl, hml, rfl, strs_flat _, by rw [List.getElem?_map, hk0]; rfl, by simp [eqV], lix nd hk0, ?_⟩⟩
        cases nx with
        | true =>
          refine ⟨fun _ => ?_, fun e => absurd e (by decide)⟩
          have hm1' : bs[(k0 + 1) % bs.length]? = some m1 := hm1
          refine ⟨_, .inl hml, fun e => ?_, fun e => ?_⟩
          · have := of_decide_eq_true e
            rw [Nat.mod_eq_of_lt (by omega)] at hm1'
            exact ⟨_, _, .inl hml, at_str (j := k0 + 1) hm1', q⟩
          · have := of_decide_eq_false e
            rw [show k0 + 1 = bs.length by omega, Nat.mod_self] at hm1'
            exact ⟨_, _, .inl hml, at_str (j := 0) hm1', q⟩
        | false =>
          refine ⟨fun e => absurd e (by decide), fun _ => ?_⟩
          have hm1' : bs[(k0 + bs.length - 1) % bs.length]? = some m1 := hm1
          refine ⟨fun e => ?_, fun e => ?_⟩
          · have := of_decide_eq_true e
            rw [show k0 + bs.length - 1 = k0 - 1 + bs.length by omega, Nat.add_mod_right, Nat.mod_eq_of_lt (by omega)] at hm1'
            refine ⟨_, _, .inl hml, ?_, q⟩
            rw [show ((k0 : Int) - 1) = ((k0 - 1 : Nat) : Int) by omega]
            exact at_str hm1'
          · have := of_decide_eq_false e
            rw [show k0 + bs.length - 1 = bs.length - 1 by omega, Nat.mod_eq_of_lt (by omega)] at hm1'
            exact ⟨1, rfl, _, _, .inl hml, la hm1', q⟩

end
end K22
set_option Elab.async false
set_option linter.all false
set_option maxRecDepth 100000
set_option maxHeartbeats 4000000
namespace K22
open PySem PySem.Spec PyProof.Rows L2 XL
section
variable {P : Program} {w : World} {K : PySem.W.Frag} {mg : Str → Option Value} {base : Heap}
/-! ### the law's own defs -/
theorem u190 {k : Nat} {A : Around} (r : Room k A) : A.units + 190 < cLine := by have := r.un; omega
def spRefused (C : Addr) : Sp := fun vs H Q _ => ∃ (G : Hp) (M : List (Addr × HO)) (x dx pg mk : Addr) (z m : Str) (v : V) (bs : List Str), vs = [.ref x, .str m] ∧ Sep G ((x, .ins C dx (fcF z pg mk v)) :: M) H ∧ TupF G mk (bs.map V.str) ∧ Gd m ∧ m ∉ bs ∧
  ∀ G' H', Same G G' → Sep G' ((x, .ins C dx (fcF z pg mk v)) :: M) H' → Q (.bl true) H'
theorem ok_refused (T : Top K mg w) (G_Focus_put : FnOk P w K mg base (L2.CX P w) 6 T.a_Focus_put T.d_Focus_put ["self", "mark"] (spAt (fun v H Q => Q v H) T.C_Focus T.C_NoNode)) (pf : PySem.XExc.PF P T.x_file) :
    FnOk P w K mg base CX0 8 T.a_refused T.d_refused ["_law_held", "_law_mark"] (spRefused T.C_Focus) := by
  refine T.F_refused.ok sc_refused (fun vs H Q E h => ?_) (fun cdv A outer s H vs Q E hr h => ?_)
  · obtain ⟨G, M, x, dx, pg, mk, z, m, v, bs, rfl, _⟩ := h
    rfl
  · obtain ⟨G, M, x, dx, pg, mk, z, m, v, bs, rfl, S, hmk, hm, hno, q⟩ := h
    refine ⟨_, (pss_cons (ps_try_as (i := 2) (Wout := fun _ _ _ _ => False) rfl rfl sc_refused.nd rfl rfl ⟨rfl, by decide, Or.inl T.g_NoNode⟩ takes0
      (fun W pn xe tk _ => (pss_one (ps_expr (pe_methT (xv 0) T.cl_Focus T.me_Focus_put G_Focus_put (hr.mono (by omega)) T.b_Focus_put (fun σ => passAt tk σ) (pa_cons (xv 1) pa_nil)))))
      (fun a oe cls d pn hz hf => (pss_one (ps_ret (xe_and (pe_callB (call_isX hz hf) (by rfl) T.m_isinstance (by decide +kernel) (pa_cons (xv 2) (pa_cons (pe_glob (v := .ref T.C_ScreenError) (by rfl) T.g_ScreenError rfl) pa_nil))) (xe_and (xe_not (pe_callB (call_isX hz hf) (by rfl) T.m_isinstance (by decide +kernel) (pa_cons (xv 2) (pa_cons (pe_glob (v := .ref T.C_BadRule) (by rfl) T.g_BadRule rfl) pa_nil)))) (xe_and (pe_callB (call_isK K) (by rfl) T.m_isinstance (by decide +kernel) (pa_cons (pe_xf T.xf_NoNode (T.x_NoNode P pf).noN hz hf (xv 2)) (pa_cons (pe_bltn (v := .ty "str") (by rfl) T.m_str (by decide +kernel) rfl) pa_nil))) (pe_one (pe_cmpR (op_eqK K hr.units) (pe_xf T.xf_NoNode (T.x_NoNode P pf).noN hz hf (xv 2)) (xv 1) (nomark _))))))))))
      (pss_one (ps_ret pe_bl))), ?_⟩
    refine ⟨x, dx, _, rfl, S.hd, rfl, G, M, x, dx, pg, mk, z, v, bs, some m, rfl, S, hmk, fun m' e => by cases e; exact hm, fun hh => ?_, fun m' e _ dd ndd => ?_⟩
    · rcases hh with e | ⟨m', h1, e⟩
      · cases e
      · cases e
        exact absurd h1 hno
    · cases e
      have S1 := S.newG (o := .xd [("mark", .str m)]) ndd
      have s1 := S.grow (o := .xd [("mark", .str m)]) ndd
      refine ⟨true, T.em_NoNode_NoNode, fun _ a na => ?_, tt⟩
      have hd1 : (upd G dd (.xd [("mark", .str m)])) dd = some (.xd [("mark", .str m)]) := upd_same
      refine ⟨T.C_NoNode, dd, _, true, rfl, rfl, S1.st hd1, T.xc_NoNode, .inl ⟨_, _, rfl, fun u r => r, T.ky_NoNode_ScreenError⟩, fun _ => ?_, tt⟩
      refine ⟨T.C_NoNode, dd, _, false, rfl, rfl, S1.st hd1, T.xc_NoNode, .inl ⟨_, _, rfl, fun u r => r, T.ki_NoNode_BadRule⟩, fun _ => ?_, tt⟩
      refine ⟨rfl, rfl, dd, _, _, rfl, S1.st hd1, lk_eq, _, _, _, _, true, rfl, .ty _, .base (.str _), kit_ty (by decide +kernel), fun _ => ?_, tt⟩
      refine ⟨rfl, rfl, dd, _, _, rfl, S1.st hd1, lk_eq, ?_⟩
      have z := q _ _ s1 S1
      rw [← decide_eq_true (rfl : m = m)] at z
      exact z
mutual
theorem tr_lay : ∀ t : Tr, (∀ p ∈ pre t, (PyData.str (mrk p)).canLay0 = true ∧ (PyData.str (lbl p)).canLay0 = true) → (toD t).canLay0 = true
  | .node m l ks, h => by
    have h0 := h (.node m l ks) (self_pre _)
    have h1 := trs_lay ks fun p hp => h p (by rw [pre_eq]; exact List.mem_cons_of_mem _ hp)
    simp only [mrk, lbl, PyData.canLay0] at h0
    simp only [toD, PyData.canLay0, PyData.canLayAll0, h0.1, h0.2, h1, Bool.and_self]
theorem trs_lay : ∀ ts : List Tr, (∀ p ∈ pres ts, (PyData.str (mrk p)).canLay0 = true ∧ (PyData.str (lbl p)).canLay0 = true) → PyData.canLayAll0 (toDs ts) = true
  | [], _ => by simp only [toDs, PyData.canLayAll0]
  | t :: r, h => by
    have h0 := tr_lay t fun p hp => h p (by simp only [pres]; exact List.mem_append_left _ hp)
    have h1 := trs_lay r fun p hp => h p (by simp only [pres]; exact List.mem_append_right _ hp)
    simp only [toDs, PyData.canLayAll0, h0, h1, Bool.and_self]
end
mutual
theorem tr_dep : ∀ t : Tr, (toD t).depth ≤ 2 * hgt t
  | .node m l ks => by
    have h1 := trs_dep ks
    simp only [toD, PyData.depth, PyData.depthAll, hgt]
    omega
theorem trs_dep : ∀ ts : List Tr, PyData.depthAll (toDs ts) ≤ 2 * hgts ts
  | [] => by simp only [toDs, PyData.depthAll]; omega
  | t :: r => by
    have h0 := tr_dep t
    have h1 := trs_dep r
    simp only [toDs, PyData.depthAll, hgts]
    omega
end
theorem tx_lay {a b : Nat} {z : Str} (h : Tx a b z) : (PyData.str z).canLay0 = true := (Fit.str (w := b) (fun c hc => Nat.lt_trans (h.ch c hc) (by decide)) h.hi).cl
theorem ok_lay {t : Tr} (ok : TrOk t) : (toD t).canLay0 = true := tr_lay t fun p hp => ⟨tx_lay (ok.tx p hp).1, tx_lay (ok.tx p hp).2⟩

theorem sw_take {z y : Str} : Txt.startswith z y = decide (z.cps.toList.take y.length = y.cps.toList) := by
  unfold Txt.startswith PySem.Builtin.Str.subAt
  rw [Bool.eq_iff_iff]
  simp only [Bool.and_eq_true, decide_eq_true_eq, Nat.zero_add, beq_iff_eq]
  have hl := len_tl z
  have hy := len_tl y
  constructor
  · rintro ⟨h1, h2⟩
    have := congrArg Array.toList h2
    rw [Array.toList_extract] at this
    simpa [List.extract] using this
  · intro h
    have h1 := congrArg List.length h
    rw [List.length_take] at h1
    refine ⟨by omega, ?_⟩
    apply Array.toList_inj.mp
    rw [Array.toList_extract]
    simpa [List.extract] using h
theorem isB_cut (z : Str) : decide (cutS z none (some 7) = ("button " : Str)) = isB z := by
  unfold isB
  rw [sw_take]
  have e : (cutS z none (some 7)).cps.toList = z.cps.toList.take 7 := by
    show ((z.cps.toList.drop (HT.sIx z.length 0 none)).take (HT.sIx z.length z.length (some ((7 : Nat) : Int)) - HT.sIx z.length 0 none)).toArray.toList = _
    rw [HT.sIx_nat, HT.sIx_none, Nat.sub_zero, List.drop_zero, List.toList_toArray]
    have := len_tl z
    by_cases h : 7 ≤ z.length
    · rw [Nat.min_eq_left h]
    · rw [Nat.min_eq_right (by omega), List.take_of_length_le (by omega), List.take_of_length_le (by omega)]
  have hb : ("button " : Str).length = 7 := by decide
  rw [hb, ← e, Bool.eq_iff_iff]
  simp only [decide_eq_true_eq]
  constructor
  · intro h; rw [h]
  · intro h
    have h2 : (cutS z none (some 7)).cps = ("button " : Str).cps := Array.toList_inj.mp h
    generalize cutS z none (some 7) = u at *
    generalize ("button " : Str) = y at *
    cases u; cases y
    simp at h2
    rw [h2]
def btnF (fs : List Fr3) : List Str := (fs.filter fun f => isB f.2.1).map (·.1)
theorem btnF_snoc (fs : List Fr3) (p : Fr3) : btnF (fs ++ [p]) = btnF fs ++ (if isB p.2.1 then [p.1] else []) := by
  unfold btnF
  rw [List.filter_append, List.map_append]
  cases h : isB p.2.1 <;> simp [List.filter, h]
theorem btnF_eq {t : Tr} {fs : List Fr3} (h : fl 0 t = fs) : btnF fs = btn (pre t) := by
  have e := fl_pre 0 t
  rw [h] at e
  unfold btnF btn
  have e1 : (fs.filter fun f => isB f.2.1).map (·.1) = ((fs.map fun x => (x.1, x.2.1)).filter fun q => isB q.2).map (·.1) := by
    rw [List.filter_map, List.map_map]
    rfl
  rw [e1, e, List.filter_map, List.map_map]
  rfl
theorem btnF_len (fs : List Fr3) : (btnF fs).length ≤ fs.length := by
  unfold btnF
  rw [List.length_map]
  exact List.length_filter_le _ _

end
end K22
set_option Elab.async false
set_option linter.all false
set_option maxRecDepth 100000
set_option maxHeartbeats 4000000
namespace K22
open PySem PySem.Spec PyProof.Rows L2 XL
section
variable {P : Program} {w : World} {K : PySem.W.Frag} {mg : Str → Option Value} {base : Heap}
/-! ### the focus on a new page -/
def fnd (new : List Str) (l : List Str) : Option Str := l.find? fun m => decide (m ∈ new)
def nrF (k : Nat) (old new : List Str) : Option Str := match fnd new (old.drop (k + 1)) with | some m => some m | none => fnd new (old.take k).reverse
def mvF (z : Str) (k : Nat) (old new : List Str) : Option Str :=
  if z = "first" then new[0]? else if z = "near" then nrF k old new else none
def trF (z : Str) (h : Option Str) (hk : Option Nat) (old new : List Str) : Option Str := h.bind fun m => if m ∈ new then some m else mvF z (hk.getD 0) old new
theorem fnd_at {new l : List Str} {i : Nat} {m : Str} (h0 : fnd new (l.take i) = none) (hi : l[i]? = some m) (hm : m ∈ new) : fnd new l = some m := by
  unfold fnd at *
  rw [(take_pre hi).1, List.find?_append, h0, List.find?_cons, decide_eq_true hm]
  rfl
theorem fnd_snoc {new l : List Str} {i : Nat} {m : Str} (h0 : fnd new (l.take i) = none) (hi : l[i]? = some m) (hm : m ∉ new) : fnd new (l.take (i + 1)) = none := by
  unfold fnd at *
  rw [take_snoc hi, List.find?_append, h0, List.find?_cons, decide_eq_false hm]
  rfl
theorem fnd_mem {new l : List Str} {m : Str} (h : fnd new l = some m) : m ∈ new := by
  have := List.find?_some h
  simpa using this
theorem mvF_mem {z : Str} {k : Nat} {old new : List Str} {m : Str} (h : mvF z k old new = some m) : m ∈ new := by
  unfold mvF at h
  split at h
  · exact List.mem_of_getElem? h
  · split at h
    · unfold nrF at h
      split at h
      · rename_i e
        obtain rfl := Option.some.inj h
        exact fnd_mem e
      · exact fnd_mem h
    · cases h
theorem trF_hk {z : Str} {h : Option Str} {hk : Option Nat} {old new : List Str} : ∃ hk', HK new (trF z h hk old new) hk' := by
  cases e : trF z h hk old new with
  | none => exact ⟨none, .inl ⟨rfl, rfl⟩⟩
  | some m =>
    refine HK.of ?_
    unfold trF at e
    cases h with
    | none => cases e
    | some m0 =>
      change (if m0 ∈ new then some m0 else mvF z (hk.getD 0) old new) = some m at e
      split at e
      · cases e; assumption
      · exact mvF_mem e
theorem cutV_from (xs : List V) (k : Nat) (h : k ≤ xs.length) : cutV xs (some (k : Int)) none = xs.drop k := by
  unfold cutV
  rw [HT.sIx_nat, HT.sIx_none, Nat.min_eq_left h]
  exact List.take_of_length_le (by rw [List.length_drop]; exact Nat.le_refl _)
theorem cutV_to (xs : List V) (k : Nat) (h : k ≤ xs.length) : cutV xs none (some (k : Int)) = xs.take k := by
  unfold cutV
  rw [HT.sIx_nat, HT.sIx_none, Nat.min_eq_left h, Nat.sub_zero, List.drop_zero]
def spMoved (K : PySem.W.Frag) : Sp := fun vs H Q _ => ∃ (G : Hp) (M : List (Addr × HO)) (z m : Str) (ro rn : Addr) (old new : List Str) (k : Nat), vs = [.str z, .str m, .ref ro, .ref rn] ∧ Sep G M H ∧ TupF G ro (old.map V.str) ∧ TupF G rn (new.map V.str) ∧ old[k]? = some m ∧ old.Nodup ∧ (∀ z ∈ old, Gd z) ∧ old.length ≤ 1000 ∧
  ∀ (G' H' : Hp), Same G G' → Sep G' M H' → Q (oV (mvF z k old new)) H'
theorem ok_moved_focus (T : Top K mg w) {k : Nat} : FnOk P w K mg base CX0 (k + 1) T.a_moved_focus T.d_moved_focus ["rule", "lost", "old", "new"] (spMoved K) := by
  refine T.F_moved_focus.ok sc_moved_focus (fun vs H Q E h => ?_) (fun cdv A outer s H vs Q E hr h => ?_)
  · obtain ⟨G, M, z, m, ro, rn, old, new, k, rfl, _⟩ := h
    rfl
  · obtain ⟨G, M, z, m, ro, rn, old, new, k0, rfl, S, ho, hn, hk, nd, hg, ol, q⟩ := h
    refine ⟨_, (pss_cons (xs_if (PW.pt (xw_and (xt_cmp (op_eqK K hr.units) (xv 0) pe_str (nomark _)) (pw_and1 (xt_truK K (xv 3)))))
      (pss_one (ps_ret (pe_ix (ix_k K) (xv 3) pe_int (fun _ _ => rfl))))
      pss_nil)
      (pss_cons (xs_if (xt_cmp (op_eqK K hr.units) (xv 0) pe_str (nomark _))
      (pss_cons (ps_set (i := 4) sc_moved_focus.nd rfl (.inl rfl) (pe_tm PySem.F.slot_tuple_index PySem.F.type_tuple_index (mt_tindexK K (u65 hr)) (xv 2) (pa_cons (xv 1) pa_nil)))
      (pss_cons (ps_for PassesOwn.never rfl (pi_tupK K (pe_slice sl_tup (xv 2) (po_some (pe_op op_addY (xv 4) pe_int)) po_none)) (pg_name (i := 5) sc_moved_focus.nd rfl (.inl rfl))
      (pss_one (xs_if (xt_cmp (in_seqK K) (xv 5) (xv 3) (by rfl))
      (pss_one (ps_ret (xv 5)))
      pss_nil)))
      (pss_one (ps_for PassesOwn.never rfl (pi_tupK K (pe_revTK K (pe_slice sl_tup (xv 2) po_none (po_some (xv 4))) (pe_str (pe_un un_neg pe_int) fun _ _ _ h => ⟨1, rfl, h⟩))) (pg_name (i := 5) sc_moved_focus.nd rfl (.inl rfl))
      (pss_one (xs_if (xt_cmp (in_seqK K) (xv 5) (xv 3) (by rfl))
      (pss_one (ps_ret (xv 5)))
      pss_nil))))))
      pss_nil)
      (pss_one (ps_ret pe_non)))), ?_⟩
    have rnq := (hn.same S.1).tu.sq (K := K)
    have roq := (ho.same S.1).tu.sq (K := K)
    have kl := (List.getElem?_eq_some_iff.mp hk).1
    have ol2 : (old.map V.str).length = old.length := List.length_map _
    have nt : (z = "first" → new = []) → ¬ z = "near" → Q .non H := fun h1 h2 => by
      have e : mvF z k0 old new = none := by
        unfold mvF
        by_cases hz : z = "first"
        · rw [if_pos hz, h1 hz]; rfl
        · rw [if_neg hz, if_neg h2]
      have z := q G H (Same.refl G) S
      rw [e] at z
      exact z
    have near : (z = "first" → new = []) → ∀ e : z = "near", _ := fun h1 e => e
    refine ⟨fun e1 => ⟨!(new.map V.str).isEmpty, .inr (.inl ⟨_, rnq, rfl⟩), fun e2 => ?_, fun e2 => ?_⟩, fun e1 => ⟨ff, fun _ => ?_⟩⟩
    · have hz : z = "first" := of_decide_eq_true e1
      cases hw : new with
      | nil => rw [hw] at e2; exact absurd e2 (by decide)
      | cons x r =>
        have e : mvF z k0 old new = some x := by unfold mvF; rw [if_pos hz, hw]; rfl
        have z := q G H (Same.refl G) S
        rw [e] at z
        exact ⟨_, _, .inr rnq, at_str (j := 0) (by rw [hw]; rfl), z⟩
    · have hz : z = "first" := of_decide_eq_true e1
      have hn0 : new = [] := by
        cases hw : new with
        | nil => rfl
        | cons x r => rw [hw] at e2; exact absurd e2 (by simp)
      refine ⟨fun e3 => absurd ((of_decide_eq_true e3).symm.trans hz) (by decide), fun e3 => nt (fun _ => hn0) (of_decide_eq_false e3)⟩
    · have hz : ¬ z = "first" := of_decide_eq_false e1
      refine ⟨fun e3 => ?_, fun e3 => nt (fun h => absurd h hz) (of_decide_eq_false e3)⟩
      have hz2 : z = "near" := of_decide_eq_true e3
      have em : mvF z k0 old new = (match fnd new (old.drop (k0 + 1)) with | some m => some m | none => fnd new (old.take k0).reverse) := by unfold mvF; rw [if_neg hz, if_pos hz2]; rfl
      refine ⟨⟨ro, _, rfl, ho.same S.1⟩, ro, .str m, .str m, old.map PyData.str, k0, .str m, rfl, rfl, .tup roq (strs_dp _), .str _, gd_lay hg, (hg m (List.mem_of_getElem? hk)).sh, by rw [List.getElem?_map, hk]; rfl, by rw [eqv_str]; simp, tix nd hk, ?_⟩
      have ec : cutV (old.map V.str) (some ((k0 : Int) + 1)) none = (old.drop (k0 + 1)).map V.str := by
        have := cutV_from (old.map V.str) (k0 + 1) (by omega)
        rw [Int.natCast_add] at this
        rw [List.map_drop]
        exact this
      refine ⟨_, rfl, ro, _, rfl, roq, fun hw => ?_, fun p np => ?_⟩
      · have h0 : HT.sIx (old.map V.str).length 0 (some (((k0 + 1 : Nat)) : Int)) = 0 := by
          have := hw.1
          rw [← Int.natCast_one, ← Int.natCast_add] at this
          exact this
        rw [HT.sIx_nat, Nat.min_eq_left (by omega)] at h0
        omega
      rw [ec]
      obtain ⟨G1, s1, S1, h1⟩ := Sep.mk (o := .tup ((old.drop (k0 + 1)).map V.str)) S np
      refine ⟨p, rfl, ⟨_, SqT.of (S1.st h1)⟩, for_tup (xs := (old.drop (k0 + 1)).map V.str) (fun i σ H' => ∃ (y5 : Option V), σ = [some (.str z), some (.str m), some (.ref ro), some (.ref rn), some (.int (k0 : Nat)), y5] ∧ fnd new ((old.drop (k0 + 1)).take i) = none ∧ Sep G1 M H') ⟨_, rfl, rfl, S1⟩ (fun i σ H' _ h => ?_) (fun i y σ H' hy h => ?_) (fun σ H' h => ?_)⟩
      · obtain ⟨_, _, _, S'⟩ := h
        exact SqT.of (S'.st h1)
      · obtain ⟨y5, rfl, f0, S'⟩ := h
        rw [List.getElem?_map] at hy
        obtain ⟨u, hu, rfl⟩ := Option.map_eq_some_iff.mp hy
        refine ⟨rn, _, rfl, .inr ((hn.same (s1.trans S'.1)).tu.sq (K := K)), rfl, strs_flat _, fun e => ?_, fun e => ?_⟩
        · have e2 : inV (.str u) (new.map V.str) = true := e
          rw [inV_str] at e2
          have := q G1 H' s1 S'
          rw [em, fnd_at f0 hu (of_decide_eq_true e2)] at this
          exact this
        · have e2 : inV (.str u) (new.map V.str) = false := e
          rw [inV_str] at e2
          exact ⟨_, rfl, fnd_snoc f0 hu (of_decide_eq_false e2), S'⟩
      · obtain ⟨y5, rfl, f0, S'⟩ := h
        rw [List.length_map, List.take_length] at f0
        have ec2 : cutV (old.map V.str) none (some (k0 : Int)) = (old.take k0).map V.str := by rw [cutV_to _ _ (by omega), List.map_take]
        have roq1 := (ho.same (s1.trans S'.1)).tu.sq (K := K)
        refine ⟨_, rfl, ro, _, rfl, roq1, fun hw => ?_, fun p2 np2 => ?_⟩
        · have := hw.2
          rw [HT.sIx_nat, Nat.min_eq_left (by omega)] at this
          omega
        rw [ec2]
        obtain ⟨G2, s2, S2, h2⟩ := Sep.mk (o := .tup ((old.take k0).map V.str)) S' np2
        refine ⟨p2, _, rfl, SqT.of (S2.st h2), fun p3 np3 => ?_⟩
        rw [← List.map_reverse]
        obtain ⟨G3, s3, S3, h3⟩ := Sep.mk (o := .tup (((old.take k0).reverse).map V.str)) S2 np3
        have s13 := s1.trans (s2.trans s3)
        refine ⟨p3, rfl, ⟨_, SqT.of (S3.st h3)⟩, for_tup (xs := ((old.take k0).reverse).map V.str) (fun i σ H' => ∃ (y5 : Option V), σ = [some (.str z), some (.str m), some (.ref ro), some (.ref rn), some (.int (k0 : Nat)), y5] ∧ fnd new (((old.take k0).reverse).take i) = none ∧ Sep G3 M H') ⟨_, rfl, rfl, S3⟩ (fun i σ H' _ h => ?_) (fun i y σ H' hy h => ?_) (fun σ H' h => ?_)⟩
        · obtain ⟨_, _, _, S'⟩ := h
          exact SqT.of (S'.st h3)
        · obtain ⟨y5, rfl, f1, S'⟩ := h
          rw [List.getElem?_map] at hy
          obtain ⟨u, hu, rfl⟩ := Option.map_eq_some_iff.mp hy
          refine ⟨rn, _, rfl, .inr ((hn.same (s13.trans S'.1)).tu.sq (K := K)), rfl, strs_flat _, fun e => ?_, fun e => ?_⟩
          · have e2 : inV (.str u) (new.map V.str) = true := e
            rw [inV_str] at e2
            have := q G3 H' s13 S'
            rw [em, f0, fnd_at f1 hu (of_decide_eq_true e2)] at this
            exact this
          · have e2 : inV (.str u) (new.map V.str) = false := e
            rw [inV_str] at e2
            exact ⟨_, rfl, fnd_snoc f1 hu (of_decide_eq_false e2), S'⟩
        · obtain ⟨y5, rfl, f1, S'⟩ := h
          rw [List.length_map, List.take_length] at f1
          have := q G3 H' s13 S'
          rw [em, f0, f1] at this
          exact this
def spTurn (K : PySem.W.Frag) (C CP : Addr) : Sp := fun vs H Q _ => ∃ (G : Hp) (M : List (Addr × HO)) (x dx pg mk pg' : Addr) (z : Str) (t' : Tr) (old : List Str) (h : Option Str) (hk : Option Nat), vs = [.ref x, .ref pg'] ∧ Sep G ((x, .ins C dx (fcF z pg mk (oV h))) :: M) H ∧ TupF G mk (old.map V.str) ∧ PgAt K CP G pg' t' ∧ TrOk t' ∧ HK old h hk ∧
  old.Nodup ∧ (∀ z ∈ old, Gd z) ∧ old.length ≤ 1000 ∧ ∀ (mk' : Addr) (G' H' : Hp), Same G G' → TupF G' mk' ((btn (pre t')).map V.str) → Sep G' ((x, .ins C dx (fcF z pg' mk' (oV (trF z h hk old (btn (pre t')))))) :: M) H' → Q (oV (trF z h hk old (btn (pre t')))) H'
theorem fc_putP {z : Str} {pg mk pg' : Addr} {v : V} : putF "kept_page" (.ref pg') (fcF z pg mk v) = fcF z pg' mk v := by unfold fcF; rw [putF_ne, putF_eq]
theorem fc_putM {z : Str} {pg mk mk' : Addr} {v : V} : putF "marks" (.ref mk') (fcF z pg mk v) = fcF z pg mk' v := by unfold fcF; rw [putF_ne, putF_ne, putF_eq]
theorem ok_Focus_turn (T : Top K mg w) (G_buttons : FnOk P w K mg base CX0 5 T.a_buttons T.d_buttons ["page"] (spBut K T.C_Page)) (G_moved_focus : FnOk P w K mg base CX0 3 T.a_moved_focus T.d_moved_focus ["rule", "lost", "old", "new"] (spMoved K)) :
    FnOk P w K mg base CX0 7 T.a_Focus_turn T.d_Focus_turn ["self", "page"] (spTurn K T.C_Focus T.C_Page) := by
  refine T.F_Focus_turn.ok sc_Focus_turn (fun vs H Q E h => ?_) (fun cdv A outer s H vs Q E hr h => ?_)
  · obtain ⟨G, M, x, dx, pg, mk, pg', z, t', old, h, hk, rfl, _⟩ := h
    rfl
  · obtain ⟨G, M, x, dx, pg, mk, pg', z, t', old, h, hk, rfl, S, hmk, hpg, ok, hh, nd, hg, ol, q⟩ := h
    refine ⟨_, (pss_cons (ps_set (i := 2) sc_Focus_turn.nd rfl (.inl rfl) (pe_fldK K (xv 0)))
      (pss_cons (ps_fld (xv 0) (xv 1) rfl)
      (pss_cons (ps_fld (xv 0) (pe_call G_buttons (hr.mono (by omega)) (by rfl) T.g_buttons T.F_buttons.kp T.b_buttons .nil pass0 (pa_cons (xv 1) pa_nil)) rfl)
      (pss_cons (xs_if (PW.pt (xw_and (xt_cmp op_notN (pe_fldK K (xv 0)) pe_non (nomark _)) (pw_and1 (xt_cmp (notin_seqK K) (pe_fldK K (xv 0)) (pe_fldK K (xv 0)) (by rfl)))))
      (pss_one (ps_fld (xv 0) (pe_call G_moved_focus (hr.mono (by omega)) (by rfl) T.g_moved_focus T.F_moved_focus.kp T.b_moved_focus .nil pass0 (pa_cons (pe_fldK K (xv 0)) (pa_cons (pe_fldK K (xv 0)) (pa_cons (xv 2) (pa_cons (pe_fldK K (xv 0)) pa_nil))))) rfl))
      pss_nil)
      (pss_one (ps_ret (pe_fldK K (xv 0)))))))), ?_⟩
    refine ⟨x, T.C_Focus, dx, _, _, rfl, S.hd, T.cl_Focus, T.na_Focus_marks, fc_marks, ?_⟩
    refine ⟨x, T.C_Focus, dx, _, rfl, S.hd, T.cl_Focus, T.na_Focus_kept_page, by simp [fcF], ?_⟩
    rw [fc_putP]
    have S1 := S.set (o' := .ins T.C_Focus dx (fcF z pg' mk (oV h)))
    refine ⟨G, _, pg', t', rfl, S1, hpg, ok, fun mk' G2 H2 s2 hmk' S2 => ?_⟩
    refine ⟨x, T.C_Focus, dx, _, rfl, S2.hd, T.cl_Focus, T.na_Focus_marks, by simp [fcF], ?_⟩
    rw [fc_putM]
    have S3 := S2.set (o' := .ins T.C_Focus dx (fcF z pg' mk' (oV h)))
    have hmk3 := hmk'.same S3.1
    have qq := q mk' G2
    cases h with
    | none =>
      refine ⟨x, T.C_Focus, dx, _, _, rfl, S3.hd, T.cl_Focus, T.na_Focus_held, fc_held, rfl, ff, fun _ => ⟨ff, fun _ => ?_⟩⟩
      exact ⟨x, T.C_Focus, dx, _, _, rfl, S3.hd, T.cl_Focus, T.na_Focus_held, fc_held, qq _ s2 hmk' S3⟩
    | some m =>
      obtain ⟨k0, rfl, hk0⟩ : ∃ k0, hk = some k0 ∧ old[k0]? = some m := by
        rcases hh with ⟨e, _⟩ | ⟨m', k, e, e2, e3⟩
        · cases e
        · cases e; exact ⟨k, e2, e3⟩
      refine ⟨x, T.C_Focus, dx, _, _, rfl, S3.hd, T.cl_Focus, T.na_Focus_held, fc_held, rfl, fun _ => ?_, tt⟩
      refine ⟨x, T.C_Focus, dx, _, _, rfl, S3.hd, T.cl_Focus, T.na_Focus_held, fc_held, x, T.C_Focus, dx, _, _, rfl, S3.hd, T.cl_Focus, T.na_Focus_marks, fc_marks, mk', _, rfl, .inr hmk3.tu.sq, rfl, strs_flat _, fun e => ?_, fun e => ?_⟩
      · have e2 : (!inV (.str m) ((btn (pre t')).map V.str)) = true := e
        rw [inV_str] at e2
        have hm : m ∉ btn (pre t') := by simpa using e2
        have et : trF z (some m) (some k0) old (btn (pre t')) = mvF z k0 old (btn (pre t')) := by
          show (if m ∈ btn (pre t') then _ else _) = _
          rw [if_neg hm]
          rfl
        refine ⟨x, T.C_Focus, dx, _, _, rfl, S3.hd, T.cl_Focus, T.na_Focus_rule, fc_rule, x, T.C_Focus, dx, _, _, rfl, S3.hd, T.cl_Focus, T.na_Focus_held, fc_held, x, T.C_Focus, dx, _, _, rfl, S3.hd, T.cl_Focus, T.na_Focus_marks, fc_marks, ?_⟩
        refine ⟨G2, _, z, m, mk, mk', old, _, k0, rfl, S3, hmk.same s2, hmk', hk0, nd, hg, ol, fun G4 H4 s4 S4 => ?_⟩
        refine ⟨x, T.C_Focus, dx, _, rfl, S4.hd, T.cl_Focus, T.na_Focus_held, by simp [fcF], ?_⟩
        rw [fc_put, ← et]
        have S5 := S4.set (o' := .ins T.C_Focus dx (fcF z pg' mk' (oV (trF z (some m) (some k0) old (btn (pre t'))))))
        exact ⟨x, T.C_Focus, dx, _, _, rfl, S5.hd, T.cl_Focus, T.na_Focus_held, fc_held, q mk' G4 _ (s2.trans s4) (hmk'.same s4) S5⟩
      · have e2 : (!inV (.str m) ((btn (pre t')).map V.str)) = false := e
        rw [inV_str] at e2
        have hm : m ∈ btn (pre t') := by simpa using e2
        have et : trF z (some m) (some k0) old (btn (pre t')) = some m := by
          show (if m ∈ btn (pre t') then _ else _) = _
          rw [if_pos hm]
        rw [et] at qq
        exact ⟨x, T.C_Focus, dx, _, _, rfl, S3.hd, T.cl_Focus, T.na_Focus_held, fc_held, qq _ s2 hmk' S3⟩

end
end K22
set_option Elab.async false
set_option linter.all false
set_option maxRecDepth 100000
set_option maxHeartbeats 4000000
namespace K22
open PySem PySem.Spec PyProof.Rows L2 XL
section
variable {P : Program} {w : World} {K : PySem.W.Frag} {mg : Str → Option Value} {base : Heap}
/-! ### flat lists drawn -/
def isS : V → Str
  | .str z => z
  | _ => ""
theorem perm_strs {ys : List V} {zs : List Str} (h : ys.Perm (zs.map V.str)) : ∃ zs' : List Str, ys = zs'.map V.str ∧ zs'.Perm zs := by
  refine ⟨ys.map isS, ?_, ?_⟩
  · rw [List.map_map]
    conv => lhs; rw [← List.map_id ys]
    refine List.map_congr_left fun y hy => ?_
    obtain ⟨z, _, rfl⟩ := List.mem_map.mp (h.mem_iff.mp hy)
    rfl
  · have := h.map isS
    rw [List.map_map] at this
    have e : zs.map (isS ∘ V.str) = zs := by
      conv => rhs; rw [← List.map_id zs]
      rfl
    rw [e] at this
    exact this
structure FlG (fs : List Fr3) : Prop where
  ok : FlOk fs
  nd : (fs.map (·.1)).Nodup
  tz : ∀ z ∈ fs.map (·.1), Tx 1 59 z
  tl : ∀ f ∈ fs, Tx 1 20 f.2.1 ∧ f.2.2 ≤ 4
  ln : fs.length ≤ 400
def FlD (G : Hp) (D : Addr) (fs : List Fr3) : Prop := (∃ us, G D = some (.lst us) ∧ Paired (FlAt G) us fs) ∧ FlG fs
theorem FlD.same {G G' : Hp} {D : Addr} {fs : List Fr3} (e : Same G G') (h : FlD G D fs) : FlD G' D fs := by
  obtain ⟨⟨us, h1, h2⟩, h3⟩ := h
  exact ⟨⟨us, e _ _ h1, prd_imp (fun _ _ => FlAt.same e) h2⟩, h3⟩
theorem FlG.tr {fs : List Fr3} {t : Tr} (h : FlG fs) (e : fl 0 t = fs) : TrOk t := trok_of e rfl h.nd (by rw [List.length_map]; exact h.ln) h.tz (n := 5) (fun f hf => ⟨(h.tl f hf).1, by have := (h.tl f hf).2; omega⟩) (by decide)
theorem FlOk.pos {fs : List Fr3} (h : FlOk fs) : 0 < fs.length := by
  obtain ⟨x, r, rfl, _⟩ := h
  simp
structure Pool (G : Hp) (pl : Addr) (zs : List Str) : Prop where
  at_ : G pl = some (.lst (zs.map V.str))
  nd : zs.Nodup
  tz : ∀ z ∈ zs, Tx 1 59 z
  l0 : 0 < zs.length
  l1 : zs.length ≤ 400
theorem Pool.same {G G' : Hp} {pl : Addr} {zs : List Str} (e : Same G G') (h : Pool G pl zs) : Pool G' pl zs := ⟨e _ _ h.at_, h.nd, h.tz, h.l0, h.l1⟩
def spFresh : Sp := fun vs H Q _ => ∃ (G : Hp) (M : List (Addr × HO)) (b : Addr) (o : HO) (pl : Addr) (zs : List Str), vs = [.ref b, .ref pl] ∧ Sep G ((b, o) :: M) H ∧ Bag G o ∧ Pool G pl zs ∧
  ∀ (D : Addr) (fs : List Fr3) (o' : HO) (G' H' : Hp), Same G G' → FlD G' D fs → Bag G' o' → Sep G' ((b, o') :: M) H' → Q (.ref D) H'
theorem ok_fresh (T : Top K mg w) (G_pick : FnOk P w K mg base CX0 5 T.a_pick T.d_pick ["_law_bag_here", "_law_many"] spPick) (G_mingled : FnOk P w K mg base CX0 5 T.a_mingled T.d_mingled ["_law_bag_here", "_law_things"] (spMingled K)) (G_flat : FnOk P w K mg base CX0 6 T.a_flat T.d_flat ["_law_bag_here", "_law_marks_here", "_law_deepest"] spFlat) :
    FnOk P w K mg base CX0 8 T.a_fresh T.d_fresh ["_law_bag_here", "_law_pool"] spFresh := by
  refine T.F_fresh.ok sc_fresh (fun vs H Q E h => ?_) (fun cdv A outer s H vs Q E hr h => ?_)
  · obtain ⟨G, M, b, o, pl, zs, rfl, _⟩ := h
    rfl
  · obtain ⟨G, M, b, o, pl, zs, rfl, S, B, hp, q⟩ := h
    refine ⟨_, (pss_one (ps_ret (pe_call G_flat (hr.mono (by omega)) (by rfl) T.g_flat T.F_flat.kp T.b_flat .nil pass0 (pa_cons (xv 0) (pa_cons (pe_slice (sl_listK K) (pe_call G_mingled (hr.mono (by omega)) (by rfl) T.g_mingled T.F_mingled.kp T.b_mingled .nil pass0 (pa_cons (xv 0) (pa_cons (xv 1) pa_nil))) po_none (po_some (pe_op op_addY pe_int (pe_call G_pick (hr.mono (by omega)) (by rfl) T.g_pick T.F_pick.kp T.b_pick .nil pass0 (pa_cons (xv 0) (pa_cons (pe_callB (cr_lenK K) (by rfl) T.m_len (by decide +kernel) (pa_cons (xv 1) pa_nil)) pa_nil)))))) (pa_cons pe_int pa_nil)))))), ?_⟩
    have l1 := hp.l1
    have zl : (zs.map V.str).length = zs.length := List.length_map _
    refine ⟨G, _, b, o, pl, _, rfl, S, B, SqL.of hp.at_, by rw [zl]; omega, fun p ys o1 G1 H1 s1 h1 pm B1 S1 => ?_⟩
    obtain ⟨zs', rfl, pm'⟩ := perm_strs pm
    have hp1 := hp.same s1
    have zl' : (zs'.map V.str).length = zs'.length := List.length_map _
    have el := pm'.length_eq
    have l0 := hp.l0
    refine ⟨_, .inl (SqL.of (S1.st hp1.at_)), G1, _, b, o1, _, rfl, S1, B1, by rw [zl]; omega, by rw [zl]; omega, fun r o2 H2 r0 r1 B2 S2 => ?_⟩
    obtain ⟨j, rfl⟩ := Int.eq_ofNat_of_zero_le r0
    have ej : (1 : Int) + (j : Int) = ((1 + j : Nat) : Int) := by omega
    refine ⟨_, rfl, p, _, rfl, SqL.of (S2.st h1), fun p3 np3 => ?_⟩
    rw [ej, cutV_to _ _ (by omega), ← List.map_take]
    obtain ⟨G3, s3, S3, h3⟩ := Sep.mk (o := .lst ((zs'.take (1 + j)).map V.str)) S2 np3
    have tl : (zs'.take (1 + j)).length = 1 + j := by rw [List.length_take]; omega
    refine ⟨G3, _, b, o2, p3, zs'.take (1 + j), 4, rfl, S3, B2.same s3, h3, by omega, by omega, by decide, by decide, fun D us fs o4 G4 H4 s4 hD hus fok hmk hfx B4 S4 => ?_⟩
    refine q D fs o4 G4 H4 (s1.trans (s3.trans s4)) ⟨⟨us, hD, hus⟩, ⟨fok, ?_, ?_, hfx, ?_⟩⟩ B4 S4
    · rw [hmk]
      exact (pm'.nodup_iff.mpr hp.nd).sublist (List.take_sublist _ _)
    · rw [hmk]
      exact fun z hz => hp.tz z (pm'.mem_iff.mp (List.mem_of_mem_take hz))
    · have := congrArg List.length hmk
      rw [List.length_map] at this
      omega
def spWorn : Sp := fun vs H Q _ => ∃ (G : Hp) (M : List (Addr × HO)) (b : Addr) (o : HO) (D : Addr) (fs : List Fr3) (h : Option Str), vs = [.ref b, .ref D, oV h] ∧ Sep G ((b, o) :: M) H ∧ Bag G o ∧ FlD G D fs ∧
  ∀ (D' : Addr) (fs' : List Fr3) (o' : HO) (G' H' : Hp), Same G G' → FlD G' D' fs' → Bag G' o' → Sep G' ((b, o') :: M) H' → Q (.ref D') H'
def WornJ (G4 : Hp) (M : List (Addr × HO)) (b D L : Addr) (h : Option Str) (x0 : Fr3) (fr : List Fr3) (i : Nat) (σ : L2.St) (H' : Hp) : Prop :=
  ∃ (y4 y5 y6 y7 y8 : Option V) (o' : HO) (us' : List V) (fs' : List Fr3) (f : Fr3) (u : V) (G' : Hp), σ = [some (.ref b), some (.ref D), some (oV h), some (.ref L), y4, y5, y6, y7, y8] ∧ Same G4 G' ∧ Bag G' o' ∧
      Paired (FlAt G') (us' ++ [u]) (fs' ++ [f]) ∧ FlOk (fs' ++ [f]) ∧ ((fs' ++ [f]).map (·.1)).Sublist ((x0 :: fr.take i).map (·.1)) ∧ (∀ x ∈ fs' ++ [f], Tx 1 20 x.2.1 ∧ x.2.2 ≤ 4) ∧ us'.length ≤ i ∧ Sep G' ((b, o') :: (L, .lst (us' ++ [u])) :: M) H'
theorem ok_worn (T : Top K mg w) (G_pick : FnOk P w K mg base CX0 5 T.a_pick T.d_pick ["_law_bag_here", "_law_many"] spPick) (G_pressed : FnOk P w K mg base CX0 6 T.a_pressed T.d_pressed ["_law_bag_here"] spLabel) : FnOk P w K mg base CX0 8 T.a_worn T.d_worn ["_law_bag_here", "_law_flat_here", "_law_lost"] spWorn := by
  refine T.F_worn.ok sc_worn (fun vs H Q E h => ?_) (fun cdv A outer s H vs Q E hr h => ?_)
  · obtain ⟨G, M, b, o, D, fs, h, rfl, _⟩ := h
    rfl
  · obtain ⟨G, M, b, o, D, fs, h, rfl, S, B, ⟨⟨us, hD, hus⟩, fg⟩, q⟩ := h
    refine ⟨_, (pss_cons (ps_set (i := 3) sc_worn.nd rfl (.inl rfl) (pe_slice (sl_listK K) (xv 1) po_none (po_some pe_int)))
      (pss_cons (ps_for PassesOwn.never rfl (pi_listK K (pe_slice (sl_listK K) (xv 1) (po_some pe_int) po_none)) (pg_tupK K 3 (pgs_cons (pg_name (i := 4) sc_worn.nd rfl (.inl rfl)) (pgs_cons (pg_name (i := 5) sc_worn.nd rfl (.inl rfl)) (pgs_cons (pg_name (i := 6) sc_worn.nd rfl (.inl rfl)) pgs_nil))))
      (pss_cons (ps_set (i := 7) sc_worn.nd rfl (.inl rfl) (pe_call G_pick (hr.mono (by omega)) (by rfl) T.g_pick T.F_pick.kp T.b_pick .nil pass0 (pa_cons (xv 0) (pa_cons pe_int pa_nil))))
      (pss_one (xs_if (PW.pt (xw_and (xt_cmp op_gtY (xv 7) pe_int (nomark _)) (pw_and1 (xt_cmp (op_neK K hr.units) (xv 4) (xv 2) (nomark _)))))
      (pss_cons (ps_set (i := 8) sc_worn.nd rfl (.inl rfl) (pe_op op_addY (pe_ix (ix_k K) (pe_ix (ix_k K) (xv 3) (pe_un un_neg pe_int) (fun _ _ => rfl)) pe_int (fun _ _ => rfl)) pe_int))
      (pss_one (ps_expr (pe_bmK K PySem.F.plainAttrs_list PySem.F.slot_list_append PySem.F.type_list_append mt_append (xv 3) (pa_cons (pe_tup (pa_cons (xv 4) (pa_cons (xe_if (xt_cmp (op_eqK K hr.units) (xv 7) pe_int (nomark _)) (pe_call G_pressed (hr.mono (by omega)) (by rfl) T.g_pressed T.F_pressed.kp T.b_pressed .nil pass0 (pa_cons (xv 0) pa_nil)) (xv 5)) (pa_cons (xe_if (xt_cmp op_ltY (xv 6) (xv 8) (nomark _)) (xv 6) (xv 8)) pa_nil)))) pa_nil)))))
      pss_nil))))
      (pss_one (ps_ret (xv 3))))), ?_⟩
    obtain ⟨x0, fr, rfl, d0, lv⟩ := id fg.ok
    have fl4 := fg.ln
    cases hus with
    | cons hx0 hr0 =>
    rename_i u0 ur
    refine ⟨1, rfl, D, _, rfl, SqL.of (S.st hD), fun L nL => ?_⟩
    have ec1 : cutV (u0 :: ur) none (some 1) = [u0] := cutV_to (u0 :: ur) 1 (by simp)
    rw [ec1]
    have S1 := (S.new (o := .lst [u0]) nL).sw
    refine ⟨1, rfl, D, _, rfl, SqL.of (S1.st hD), fun p4 np4 => ?_⟩
    rw [cut_from1]
    obtain ⟨G4, s4, S4, h4⟩ := Sep.mk (o := .lst ur) S1 np4
    have url := prd_len hr0
    refine ⟨p4, rfl, ⟨_, SqL.of (S4.st h4)⟩, for_list (xs := ur) (fun i σ H' => WornJ G4 M b D L h x0 fr i σ H')
      ⟨_, _, _, _, _, o, [], [], x0, u0, G4, rfl, Same.refl _, B.same s4, .cons (hx0.same s4) .nil, ⟨_, [], rfl, d0, trivial⟩, List.Sublist.refl _, fun x hx => ?_, Nat.zero_le _, S4⟩ (fun i σ H' _ h => ?_) (fun i u σ H' hu hh => ?_) (fun σ H' hh => ?_)⟩
    · have : x = x0 := by simpa using hx
      rw [this]
      exact fg.tl x0 (by simp)
    · obtain ⟨_, _, _, _, _, _, _, _, _, _, G', _, s', _, _, _, _, _, _, S'⟩ := h
      exact SqL.of (S'.st (s' _ _ h4))
    · obtain ⟨y4, y5, y6, y7, y8, o5, us', fs', f, uf, G5, rfl, s5, B5, hus', fok, hsub, hfx, ul, S5⟩ := hh
      obtain ⟨x, hx, ax, rfl, hax⟩ := prd_get hr0 hu
      have hax := s4 _ _ hax
      have il := (List.getElem?_eq_some_iff.mp hu).1
      rw [List.length_cons] at fl4
      have xm : x ∈ x0 :: fr := List.mem_cons_of_mem _ (List.mem_of_getElem? hx)
      have xl := fg.tl x xm
      have xd : 1 ≤ x.2.2 := lv_pos lv x (List.mem_of_getElem? hx)
      have tk := take_snoc hx
      have keep : ((fs' ++ [f]).map (·.1)).Sublist ((x0 :: fr.take (i + 1)).map (·.1)) := by
        rw [tk]
        refine hsub.trans ?_
        rw [← List.cons_append, List.map_append]
        exact List.sublist_append_left _ _
      refine ⟨ax, _, rfl, SqT.of (S5.st (s5 _ _ hax)), rfl, _, _, rfl, _, _, rfl, _, _, rfl, rfl, ?_⟩
      refine ⟨G5, _, b, o5, 6, rfl, S5, B5, by decide, by decide, fun r6 o6 H6 r60 r61 B6 S6 => ?_⟩
      obtain ⟨_, f', ef, hus2, hf⟩ := prd_unsnoc hus'
      obtain ⟨rfl, ef2⟩ := List.append_inj' ef rfl
      obtain rfl : f = f' := by simpa using ef2
      obtain ⟨af, rfl, haf⟩ := hf
      have no : ∀ {y8' : Option V}, WornJ G4 M b D L h x0 fr (i + 1) [some (V.ref b), some (.ref D), some (oV h), some (.ref L), some (.str x.1), some (.str x.2.1), some (.int (x.2.2 : Nat)), some (.int r6), y8'] H6 := fun {y8'} =>
        ⟨_, _, _, _, y8', o6, us', fs', f, .ref af, G5, rfl, s5, B6, hus', fok, keep, hfx, Nat.le_succ_of_le ul, S6⟩
      have fin : ∀ (lb : Str) (dd : Nat) (o7 : HO) (G8 H8 : Hp) (p : Addr) (y8' : Option V), Tx 1 20 lb → Same G5 G8 → Bag G8 o7 → G8 p = some (.tup [.str x.1, .str lb, .int (dd : Nat)]) → 1 ≤ dd → dd ≤ 4 → dd ≤ f.2.2 + 1 → Sep G8 ((b, o7) :: (L, .lst (us' ++ [.ref af] ++ [.ref p])) :: M) H8 →
          WornJ G4 M b D L h x0 fr (i + 1) [some (V.ref b), some (.ref D), some (oV h), some (.ref L), some (.str x.1), some (.str x.2.1), some (.int (x.2.2 : Nat)), some (.int r6), y8'] H8 := fun lb dd o7 G8 H8 p y8' hlb s8 B8 h8 d1 d4 df S8 =>
        ⟨_, _, _, _, y8', o7, us' ++ [.ref af], fs' ++ [f], (x.1, lb, dd), .ref p, G8, rfl, s5.trans s8, B8, prd_app (prd_imp (fun _ _ => FlAt.same s8) hus') (.cons ⟨p, rfl, h8⟩ .nil), flok_snoc fok d1 df, by
          have := hsub.append (List.Sublist.refl [x.1])
          rw [tk]
          simpa [List.map_append] using this, fun y hy => by
          rcases List.mem_append.mp hy with k | k
          · exact hfx y k
          · rw [List.mem_singleton.mp k]
            exact ⟨hlb, d4⟩, by rw [List.length_append, List.length_singleton]; omega, S8⟩
      have fd := (hfx f (by simp)).2
      have body : r6 > 0 → _ := fun h => h
      have hlen : (us' ++ [V.ref af]).length ≤ 400 := by rw [List.length_append, List.length_singleton]; omega
      refine ⟨fun e1 => ?_, fun e1 => ⟨ff, fun _ => no⟩⟩
      cases h with
      | none =>
        refine ⟨rfl, fun _ => ?_, fun e => absurd e (by simp [oV])⟩
        refine ⟨1, rfl, _, _, .inl (SqL.of S6.sw.hd), atI_last _ _, _, _, .inr (SqT.of (S6.st haf)), atI_nat (j := 2) rfl, ?_⟩
        have ej : ((f.2.2 : Nat) : Int) + 1 = ((f.2.2 + 1 : Nat) : Int) := by omega
        refine ⟨.inl ⟨rfl, _, SqL.of S6.sw.hd⟩, fun e => ?_, fun e => ?_⟩
        · refine ⟨G5, _, b, o6, rfl, S6, B6, fun z7 o7 G7 H7 t7 s7 B7 S7 => ⟨fun e => ⟨XL.sz, fun p np => ?_⟩, fun e => ⟨XL.sz, fun p np => ?_⟩⟩⟩
          · obtain ⟨G8, s8, S8, h8⟩ := Sep.mk (o := .tup [.str x.1, .str z7, .int (x.2.2 : Nat)]) S7 np
            have := of_decide_eq_true e
            exact ⟨L, _, _, rfl, rfl, S8.sw.hd, smallL (by omega), fin z7 x.2.2 o7 G8 _ p _ t7 (s7.trans s8) (B7.same s8) h8 xd xl.2 (by omega) S8.sw.set.sw⟩
          · rw [ej] at *
            obtain ⟨G8, s8, S8, h8⟩ := Sep.mk (o := .tup [.str x.1, .str z7, .int ((f.2.2 + 1 : Nat) : Int)]) S7 np
            have := of_decide_eq_false e
            exact ⟨L, _, _, rfl, rfl, S8.sw.hd, smallL (by omega), fin z7 (f.2.2 + 1) o7 G8 _ p _ t7 (s7.trans s8) (B7.same s8) h8 (by omega) (by omega) (Nat.le_refl _) S8.sw.set.sw⟩
        · refine ⟨fun e => ⟨XL.sz, fun p np => ?_⟩, fun e => ⟨XL.sz, fun p np => ?_⟩⟩
          · obtain ⟨G8, s8, S8, h8⟩ := Sep.mk (o := .tup [.str x.1, .str x.2.1, .int (x.2.2 : Nat)]) S6 np
            have := of_decide_eq_true e
            exact ⟨L, _, _, rfl, rfl, S8.sw.hd, smallL (by omega), fin x.2.1 x.2.2 o6 G8 _ p _ xl.1 s8 (B6.same s8) h8 xd xl.2 (by omega) S8.sw.set.sw⟩
          · rw [ej] at *
            obtain ⟨G8, s8, S8, h8⟩ := Sep.mk (o := .tup [.str x.1, .str x.2.1, .int ((f.2.2 + 1 : Nat) : Int)]) S6 np
            have := of_decide_eq_false e
            exact ⟨L, _, _, rfl, rfl, S8.sw.hd, smallL (by omega), fin x.2.1 (f.2.2 + 1) o6 G8 _ p _ xl.1 s8 (B6.same s8) h8 (by omega) (by omega) (Nat.le_refl _) S8.sw.set.sw⟩
      | some m =>
        refine ⟨fun _ => ?_, fun _ => no⟩
        refine ⟨1, rfl, _, _, .inl (SqL.of S6.sw.hd), atI_last _ _, _, _, .inr (SqT.of (S6.st haf)), atI_nat (j := 2) rfl, ?_⟩
        have ej : ((f.2.2 : Nat) : Int) + 1 = ((f.2.2 + 1 : Nat) : Int) := by omega
        refine ⟨.inl ⟨rfl, _, SqL.of S6.sw.hd⟩, fun e => ?_, fun e => ?_⟩
        · refine ⟨G5, _, b, o6, rfl, S6, B6, fun z7 o7 G7 H7 t7 s7 B7 S7 => ⟨fun e => ⟨XL.sz, fun p np => ?_⟩, fun e => ⟨XL.sz, fun p np => ?_⟩⟩⟩
          · obtain ⟨G8, s8, S8, h8⟩ := Sep.mk (o := .tup [.str x.1, .str z7, .int (x.2.2 : Nat)]) S7 np
            have := of_decide_eq_true e
            exact ⟨L, _, _, rfl, rfl, S8.sw.hd, smallL (by omega), fin z7 x.2.2 o7 G8 _ p _ t7 (s7.trans s8) (B7.same s8) h8 xd xl.2 (by omega) S8.sw.set.sw⟩
          · rw [ej] at *
            obtain ⟨G8, s8, S8, h8⟩ := Sep.mk (o := .tup [.str x.1, .str z7, .int ((f.2.2 + 1 : Nat) : Int)]) S7 np
            have := of_decide_eq_false e
            exact ⟨L, _, _, rfl, rfl, S8.sw.hd, smallL (by omega), fin z7 (f.2.2 + 1) o7 G8 _ p _ t7 (s7.trans s8) (B7.same s8) h8 (by omega) (by omega) (Nat.le_refl _) S8.sw.set.sw⟩
        · refine ⟨fun e => ⟨XL.sz, fun p np => ?_⟩, fun e => ⟨XL.sz, fun p np => ?_⟩⟩
          · obtain ⟨G8, s8, S8, h8⟩ := Sep.mk (o := .tup [.str x.1, .str x.2.1, .int (x.2.2 : Nat)]) S6 np
            have := of_decide_eq_true e
            exact ⟨L, _, _, rfl, rfl, S8.sw.hd, smallL (by omega), fin x.2.1 x.2.2 o6 G8 _ p _ xl.1 s8 (B6.same s8) h8 xd xl.2 (by omega) S8.sw.set.sw⟩
          · rw [ej] at *
            obtain ⟨G8, s8, S8, h8⟩ := Sep.mk (o := .tup [.str x.1, .str x.2.1, .int ((f.2.2 + 1 : Nat) : Int)]) S6 np
            have := of_decide_eq_false e
            exact ⟨L, _, _, rfl, rfl, S8.sw.hd, smallL (by omega), fin x.2.1 (f.2.2 + 1) o6 G8 _ p _ xl.1 s8 (B6.same s8) h8 (by omega) (by omega) (Nat.le_refl _) S8.sw.set.sw⟩
    · obtain ⟨y4, y5, y6, y7, y8, o5, us', fs', f, uf, G5, rfl, s5, B5, hus', fok, hsub, hfx, ul, S5⟩ := hh
      have S6 := S5.sw
      rw [url, List.take_length] at hsub
      have ln := hsub.length_le
      rw [List.length_map, List.length_map] at ln
      exact q L _ o5 _ _ (s4.trans (s5.trans S6.frzS)) ⟨⟨_, upd_same, prd_imp (fun _ _ => FlAt.same S6.frzS) hus'⟩, ⟨fok, hsub.nodup fg.nd, fun z hz => fg.tz z (hsub.subset hz), hfx, by omega⟩⟩ (B5.same S6.frzS) S6.frz

end
end K22
set_option Elab.async false
set_option linter.all false
set_option maxRecDepth 100000
set_option maxHeartbeats 4000000
namespace K22
open PySem PySem.Spec PyProof.Rows L2 XL
section
variable {P : Program} {w : World} {K : PySem.W.Frag} {mg : Str → Option Value} {base : Heap}
/-! ### buttons listed; the law's own turn -/
def spListed : Sp := fun vs H Q _ => ∃ (G : Hp) (M : List (Addr × HO)) (D : Addr) (fs : List Fr3), vs = [.ref D] ∧ Sep G M H ∧ FlD G D fs ∧ ∀ (L : Addr) (G' H' : Hp), Same G G' → G' L = some (.lst ((btnF fs).map V.str)) → Sep G' M H' → Q (.ref L) H'
theorem ok_listed (T : Top K mg w) {k : Nat} : FnOk P w K mg base CX0 (k + 1) T.a_listed T.d_listed ["_law_flat_here"] spListed := by
  refine T.F_listed.ok sc_listed (fun vs H Q E h => ?_) (fun cdv A outer s H vs Q E hr h => ?_)
  · obtain ⟨G, M, D, fs, rfl, _⟩ := h
    rfl
  · obtain ⟨G, M, D, fs, rfl, S, ⟨⟨us, hD, hus⟩, fg⟩, q⟩ := h
    refine ⟨_, (pss_one (ps_ret (pe_lc (own := [("_law_row", 1)]) (by rfl) sc_listed.nd (pi_listK K (xv 0)) (blkOk_by (N := ["_law_flat_here", "_law_row"]) (sc := defScope s_listed) (by decide +kernel)) (fun _ _ _ _ _ => (pg_name (i := 1) sc_listed.nd rfl (.inl rfl))) (fun _ _ _ _ _ => (pts_one (xt_cmp (op_eqK K hr.units) (pe_slice sl_str (pe_ix (ix_k K) (xv 1) pe_int (fun _ _ => rfl)) po_none (po_some pe_int)) pe_str (nomark _)))) (fun _ _ _ _ _ => (pe_ix (ix_k K) (xv 1) pe_int (fun _ _ => rfl)))))), ?_⟩
    have ul := prd_len hus
    have ln := fg.ln
    refine ⟨D, rfl, ⟨us, SqL.of (S.st hD)⟩, fun L nL => lc_list (xs := us) (fun i H' => Sep G ((L, .lst ((btnF (fs.take i)).map V.str)) :: M) H') (S.new nL) (fun i H' _ S' => SqL.of (S'.st hD)) (fun i y H' hy S' => ?_) (fun H6 S6 => ?_)⟩
    · obtain ⟨f, hf, a, rfl, ha⟩ := prd_get hus hy
      have il := (List.getElem?_eq_some_iff.mp hy).1
      have fm := fg.tl f (List.mem_of_getElem? hf)
      refine ⟨rfl, _, _, .inr (SqT.of (S'.st ha)), atI_nat (j := 1) rfl, 7, rfl, f.2.1, rfl, small (by have := fm.1.hi; omega), ?_⟩
      have e := btnF_snoc (fs.take i) f
      rw [← take_snoc hf] at e
      refine tst (fun eb => ?_) (fun eb => ?_)
      · rw [isB_cut] at eb
        rw [if_pos eb] at e
        refine ⟨_, _, .inr (SqT.of (S'.st ha)), atI_nat (j := 0) rfl, _, S'.hd, smallL ?_, ?_⟩
        · have := btnF_len (fs.take i)
          rw [List.length_map]
          rw [List.length_take] at this
          omega
        rw [e, List.map_append]
        exact S'.set
      · rw [isB_cut] at eb
        rw [if_neg (by rw [eb]; decide), List.append_nil] at e
        rw [e]
        exact S'
    rw [ul, List.take_length] at S6
    exact q L _ _ S6.frzS upd_same S6.frz
/-- the marks of xs that are in ys -/
def fin2 (xs ys : List Str) : List Str := xs.filter fun m => decide (m ∈ ys)
theorem fin2_mem {xs ys : List Str} {m : Str} : m ∈ fin2 xs ys ↔ m ∈ xs ∧ m ∈ ys := by unfold fin2; rw [List.mem_filter]; simp
theorem fin2_nil {xs ys : List Str} (h : ∀ m ∈ xs, m ∉ ys) : fin2 xs ys = [] := by
  unfold fin2
  rw [List.filter_eq_nil_iff]
  intro m hm
  simpa using h m hm
theorem fin2_snoc (xs ys : List Str) (m : Str) : fin2 (xs ++ [m]) ys = fin2 xs ys ++ (if m ∈ ys then [m] else []) := by
  unfold fin2
  rw [List.filter_append]
  by_cases h : m ∈ ys <;> simp [List.filter, h]
theorem fin2_len (xs ys : List Str) : (fin2 xs ys).length ≤ xs.length := List.length_filter_le _ _
theorem fnd_none {new l : List Str} (h : fnd new l = none) : ∀ m ∈ l, m ∉ new := fun m hm => by
  have := List.find?_eq_none.mp h m hm
  simpa using this
/-- the found one: what stands ahead of it is not in new -/
theorem fnd_split {new l : List Str} {m : Str} (h : fnd new l = some m) : ∃ j, l[j]? = some m ∧ ∀ x ∈ l.take j, x ∉ new := by
  unfold fnd at h
  obtain ⟨h1, as, bs, rfl, h2⟩ := List.find?_eq_some_iff_append.mp h
  refine ⟨as.length, ?_, fun x hx => ?_⟩
  · rw [List.getElem?_append_right (Nat.le_refl _), Nat.sub_self]; rfl
  · rw [List.take_append_of_le_length (Nat.le_refl _), List.take_length] at hx
    simpa using h2 x hx
/-- the told place of the focus, for near -/
theorem near_ok {old new : List Str} {k : Nat} {m l : Str} (nd : old.Nodup) (hk : old[k]? = some l) (hl : l ∉ new) (e : nrF k old new = some m) :
    ∃ j, old[j]? = some m ∧ m ∈ new ∧ (k < j → ∀ x ∈ (old.drop (k + 1)).take (j - (k + 1)), x ∉ new) ∧ (¬ k < j → ∀ x ∈ old.drop (j + 1), x ∉ new) := by
  unfold nrF at e
  split at e
  · rename_i m' hm
    obtain rfl := Option.some.inj e
    obtain ⟨j, hj, hb⟩ := fnd_split hm
    rw [List.getElem?_drop] at hj
    exact ⟨k + 1 + j, hj, fnd_mem hm, fun _ x hx => hb x (by rw [show k + 1 + j - (k + 1) = j by omega] at hx; exact hx), fun h => by omega⟩
  · rename_i hn
    have nn := fnd_none hn
    have hm := fnd_mem e
    obtain ⟨i, hi, hb⟩ := fnd_split e
    have kl := (List.getElem?_eq_some_iff.mp hk).1
    have il := (List.getElem?_eq_some_iff.mp hi).1
    rw [List.length_reverse, List.length_take] at il
    have i2 : i < k := by omega
    have hi2 : old[k - 1 - i]? = some m := by
      rw [List.getElem?_reverse (by rw [List.length_take]; omega), List.length_take, Nat.min_eq_left (by omega), List.getElem?_take_of_lt (by omega)] at hi
      exact hi
    refine ⟨k - 1 - i, hi2, hm, fun h => by omega, fun _ x hx => ?_⟩
    obtain ⟨q, hq⟩ := List.getElem?_of_mem hx
    rw [List.getElem?_drop] at hq
    by_cases h1 : k - 1 - i + 1 + q < k
    · refine hb x (List.mem_of_getElem? (i := k - 1 - (k - 1 - i + 1 + q)) ?_)
      rw [List.getElem?_take_of_lt (by omega), List.getElem?_reverse (by rw [List.length_take]; omega), List.length_take, Nat.min_eq_left (by omega), List.getElem?_take_of_lt (by omega)]
      rw [show k - 1 - (k - 1 - (k - 1 - i + 1 + q)) = k - 1 - i + 1 + q by omega]
      exact hq
    · by_cases h2 : k - 1 - i + 1 + q = k
      · rw [h2, hk] at hq
        rw [← Option.some.inj hq]
        exact hl
      · refine nn x (List.mem_of_getElem? (i := k - 1 - i + 1 + q - (k + 1)) ?_)
        rw [List.getElem?_drop, show k + 1 + (k - 1 - i + 1 + q - (k + 1)) = k - 1 - i + 1 + q by omega]
        exact hq

end
end K22
set_option Elab.async false
set_option linter.all false
set_option maxRecDepth 100000
set_option maxHeartbeats 4000000
namespace K22
open PySem PySem.Spec PyProof.Rows L2 XL
section
variable {P : Program} {w : World} {K : PySem.W.Frag} {mg : Str → Option Value} {base : Heap}
def spTurned (K : PySem.W.Frag) : Sp := fun vs H Q _ => ∃ (G : Hp) (M : List (Addr × HO)) (z : Str) (lo ln : Addr) (old new : List Str) (h : Option Str) (hk : Option Nat), vs = [.str z, oV h, .ref lo, .ref ln, oV (trF z h hk old new)] ∧ Sep G M H ∧ G lo = some (.lst (old.map V.str)) ∧ G ln = some (.lst (new.map V.str)) ∧ HK old h hk ∧ old.Nodup ∧ old.length ≤ 1000 ∧ z ∈ rules ∧
  ∀ (G' H' : Hp), Same G G' → Sep G' M H' → Q (.bl true) H'
theorem str_ne {x y : Str} {b : Bool} (h : (x == y) = b) : decide (x = y) = b := by
  rw [← h, Bool.eq_iff_iff]
  simp
theorem ok_turned (T : Top K mg w) {k : Nat} : FnOk P w K mg base CX0 (k + 1) T.a_turned T.d_turned ["_law_word", "_law_lost", "_law_old", "_law_new", "_law_told"] (spTurned K) := by
  refine T.F_turned.ok sc_turned (fun vs H Q E h => ?_) (fun cdv A outer s H vs Q E hr h => ?_)
  · obtain ⟨G, M, z, lo, ln, old, new, h, hk, rfl, _⟩ := h
    rfl
  · obtain ⟨G, M, z, lo, ln, old, new, h, hk, rfl, S, hlo, hln, hh, nd, ol, hz, q⟩ := h
    refine ⟨_, (pss_cons (xs_if (PW.pt (xw_or (xt_cmp op_isN (xv 1) pe_non (nomark _)) (pw_or1 (PW.pt (xw_and (xt_cmp (op_eqK K hr.units) (xv 0) pe_str (nomark _)) (pw_and1 (xt_cmp (notin_seqK K) (xv 1) (xv 3) (by rfl))))))))
      (pss_one (ps_ret (pe_cmpR op_isN (xv 4) pe_non (nomark _))))
      pss_nil)
      (pss_cons (xs_if (xt_cmp (in_seqK K) (xv 1) (xv 3) (by rfl))
      (pss_one (ps_ret (pe_cmpR (op_eqK K hr.units) (xv 4) (xv 1) (nomark _))))
      pss_nil)
      (pss_cons (xs_if (xt_cmp (op_eqK K hr.units) (xv 0) pe_str (nomark _))
      (pss_one (ps_ret (xe_if (xt_truK K (xv 3)) (pe_cmpR (op_eqK K hr.units) (xv 4) (pe_ix (ix_k K) (xv 3) pe_int (fun _ _ => rfl)) (nomark _)) (pe_cmpR op_isN (xv 4) pe_non (nomark _)))))
      pss_nil)
      (pss_cons (ps_set (i := 5) sc_turned.nd rfl (.inr rfl) (pe_lc (own := [("_law_mark", 7)]) (by rfl) sc_turned.nd (pi_listK K (xv 2)) (blkOk_by (N := ["_law_word", "_law_lost", "_law_old", "_law_new", "_law_told", "_law_left", "_law_behind", "_law_mark"]) (sc := defScope s_turned) (by decide +kernel)) (fun _ _ _ _ _ => (pg_name (i := 7) sc_turned.nd rfl (.inl rfl))) (fun _ _ _ _ _ => (pts_one (xt_cmp (in_seqK K) (xv 7) (xv 3) (by rfl)))) (fun _ _ _ _ _ => (xv 7))))
      (pss_cons (xs_if (pt_not (xt_truK K (xv 5)))
      (pss_one (ps_ret (pe_cmpR op_isN (xv 4) pe_non (nomark _))))
      pss_nil)
      (pss_cons (xs_if (xt_cmp (notin_seqK K) (xv 4) (xv 5) (by rfl))
      (pss_one (ps_ret pe_bl))
      pss_nil)
      (pss_cons (ps_set (i := 6) sc_turned.nd rfl (.inl rfl) (pe_slice (sl_listK K) (xv 2) (po_some (pe_op op_addY (pe_bmK K PySem.F.plainAttrs_list PySem.F.slot_list_index PySem.F.type_list_index (mt_indexK K) (xv 2) (pa_cons (xv 4) pa_nil)) pe_int)) po_none))
      (xss_cut (xs_if (xt_cmp op_gtY (pe_bmK K PySem.F.plainAttrs_list PySem.F.slot_list_index PySem.F.type_list_index (mt_indexK K) (xv 2) (pa_cons (xv 4) pa_nil)) (pe_bmK K PySem.F.plainAttrs_list PySem.F.slot_list_index PySem.F.type_list_index (mt_indexK K) (xv 2) (pa_cons (xv 1) pa_nil)) (nomark _))
      (pss_one (ps_set (i := 6) sc_turned.nd rfl (.inl rfl) (pe_slice (sl_listK K) (xv 2) (po_some (pe_op op_addY (pe_bmK K PySem.F.plainAttrs_list PySem.F.slot_list_index PySem.F.type_list_index (mt_indexK K) (xv 2) (pa_cons (xv 1) pa_nil)) pe_int)) (po_some (pe_bmK K PySem.F.plainAttrs_list PySem.F.slot_list_index PySem.F.type_list_index (mt_indexK K) (xv 2) (pa_cons (xv 4) pa_nil))))))
      pss_nil)
      (pss_one (ps_ret (pe_cmpR (op_eqK K hr.units) (pe_callB (cr_lenK K) (by rfl) T.m_len (by decide +kernel) (pa_cons (pe_lc (own := [("_law_mark", 7)]) (by rfl) sc_turned.nd (pi_listK K (xv 6)) (blkOk_by (N := ["_law_word", "_law_lost", "_law_old", "_law_new", "_law_told", "_law_left", "_law_behind", "_law_mark"]) (sc := defScope s_turned) (by decide +kernel)) (fun _ _ _ _ _ => (pg_name (i := 7) sc_turned.nd rfl (.inl rfl))) (fun _ _ _ _ _ => (pts_one (xt_cmp (in_seqK K) (xv 7) (xv 5) (by rfl)))) (fun _ _ _ _ _ => (xv 7))) pa_nil)) pe_int (nomark _)))))))))))), ?_⟩
    have q0 := q G H (Same.refl G) S
    have yes : ∀ {x y : V}, x = y → Q (.bl (decide (x = y))) H := fun e => by rw [decide_eq_true e]; exact q0
    have yesS : ∀ {x y : Str}, x = y → Q (.bl (decide (x = y))) H := fun e => by rw [decide_eq_true e]; exact q0
    rcases hh with ⟨rfl, rfl⟩ | ⟨m, k0, rfl, rfl, hk0⟩
    · exact ⟨rfl, fun _ => ⟨fun _ => ⟨rfl, yes rfl⟩, tt⟩, fun e => absurd e (by simp [oV])⟩
    by_cases hm : m ∈ new
    · have et : trF z (some m) (some k0) old new = some m := by
        show (if m ∈ new then _ else _) = _
        rw [if_pos hm]
      rw [et]
      have iv : inV (.str m) (new.map V.str) = true := by rw [inV_str]; exact decide_eq_true hm
      have i1 : (if false = true then !inV (V.str m) (new.map V.str) else inV (V.str m) (new.map V.str)) = true := by simp [iv]
      have i2 : (if true = true then !inV (V.str m) (new.map V.str) else inV (V.str m) (new.map V.str)) = false := by simp [iv]
      refine ⟨rfl, fun e => absurd e (by simp [oV]), fun _ => ⟨fun _ => ⟨ln, _, rfl, .inl (SqL.of (S.st hln)), rfl, strs_flat _, fun e => ?_, fun _ => ?_⟩, fun _ => ⟨ff, fun _ => ?_⟩⟩⟩
      · exact absurd (i2.symm.trans e) (by decide)
      · exact ⟨ln, _, rfl, .inl (SqL.of (S.st hln)), rfl, strs_flat _, fun _ => yesS rfl, fun e => absurd (i1.symm.trans e) (by decide)⟩
      · exact ⟨ln, _, rfl, .inl (SqL.of (S.st hln)), rfl, strs_flat _, fun _ => yesS rfl, fun e => absurd (i1.symm.trans e) (by decide)⟩
    · have et : trF z (some m) (some k0) old new = mvF z k0 old new := by
        show (if m ∈ new then _ else _) = _
        rw [if_neg hm]
        rfl
      rw [et]
      have iv : inV (.str m) (new.map V.str) = false := by rw [inV_str]; exact decide_eq_false hm
      have i1 : (if false = true then !inV (V.str m) (new.map V.str) else inV (V.str m) (new.map V.str)) = false := by simp [iv]
      have i2 : (if true = true then !inV (V.str m) (new.map V.str) else inV (V.str m) (new.map V.str)) = true := by simp [iv]
      refine ⟨rfl, fun e => absurd e (by simp [oV]), fun _ => ⟨fun e1 => ⟨ln, _, rfl, .inl (SqL.of (S.st hln)), rfl, strs_flat _, fun _ => ?_, fun e => ?_⟩, fun e1 => ⟨ff, fun _ => ?_⟩⟩⟩
      · have hz0 : z = "none" := of_decide_eq_true e1
        have : mvF z k0 old new = none := by
          unfold mvF
          rw [hz0, if_neg (by decide), if_neg (by decide)]
        rw [this]
        exact ⟨rfl, yes rfl⟩
      · exact absurd (i2.symm.trans e) (by decide)
      have hz0 : ¬ z = "none" := of_decide_eq_false e1
      refine ⟨ln, _, rfl, .inl (SqL.of (S.st hln)), rfl, strs_flat _, fun e => absurd (i1.symm.trans e) (by decide), fun _ => ⟨fun e2 => ?_, fun e2 => ?_⟩⟩
      · have hz1 : z = "first" := of_decide_eq_true e2
        have em : mvF z k0 old new = new[0]? := by unfold mvF; rw [if_pos hz1]
        rw [em]
        refine ⟨!(new.map V.str).isEmpty, .inl ⟨_, SqL.of (S.st hln), rfl⟩, fun e3 => ?_, fun e3 => ?_⟩
        · cases hw : new with
          | nil => rw [hw] at e3; exact absurd e3 (by decide)
          | cons x r =>
            refine ⟨_, _, .inl (SqL.of (S.st hln)), at_str (j := 0) (m := x) (by rw [hw]; rfl), ?_⟩
            exact yesS rfl
        · cases hw : new with
          | nil => exact ⟨rfl, yes rfl⟩
          | cons x r => rw [hw] at e3; exact absurd e3 (by simp)
      · have hz2 : ¬ z = "first" := of_decide_eq_false e2
        have hz3 : z = "near" := by
          simp only [rules, List.mem_cons, List.not_mem_nil, or_false] at hz
          rcases hz with h | h | h
          · exact absurd h hz0
          · exact absurd h hz2
          · exact h
        have em : mvF z k0 old new = nrF k0 old new := by unfold mvF; rw [if_neg hz2, if_pos hz3]
        rw [em]
        have ol2 : (old.map V.str).length = old.length := List.length_map _
        have kl := (List.getElem?_eq_some_iff.mp hk0).1
        refine ⟨lo, rfl, ⟨_, SqL.of (S.st hlo)⟩, fun L nL => lc_list (xs := old.map V.str) (fun i H' => Sep G ((L, .lst ((fin2 (old.take i) new).map V.str)) :: M) H') (S.new nL) (fun i H' _ S' => SqL.of (S'.st hlo)) (fun i y H' hy S' => ?_) (fun H2 S2 => ?_)⟩
        · rw [List.getElem?_map] at hy
          obtain ⟨u, hu, rfl⟩ := Option.map_eq_some_iff.mp hy
          have il := (List.getElem?_eq_some_iff.mp hu).1
          have e := fin2_snoc (old.take i) new u
          rw [← take_snoc hu] at e
          have i3 : (if false = true then !inV (V.str u) (new.map V.str) else inV (V.str u) (new.map V.str)) = decide (u ∈ new) := by rw [if_neg (by decide), inV_str]
          refine ⟨rfl, ln, _, rfl, .inl (SqL.of (S'.st hln)), rfl, strs_flat _, tst (fun eb => ?_) (fun eb => ?_)⟩
          · rw [if_pos (of_decide_eq_true (i3.symm.trans eb))] at e
            refine ⟨_, S'.hd, smallL ?_, ?_⟩
            · have := fin2_len (old.take i) new
              rw [List.length_map]
              rw [List.length_take] at this
              omega
            rw [e, List.map_append]
            exact S'.set
          · rw [if_neg (of_decide_eq_false (i3.symm.trans eb)), List.append_nil] at e
            rw [e]
            exact S'
        rw [ol2, List.take_length] at S2
        obtain ⟨G3, s3, S3, h3⟩ := Sep.keep S2
        have q3 := q G3 H2 s3 S3
        have H3eq : H2 = H2 := rfl
        refine ⟨!((fin2 old new).map V.str).isEmpty, .inl ⟨_, SqL.of (S3.st h3), rfl⟩, fun e3 => ?_, fun e3 => ?_⟩
        · have e4 : fin2 old new = [] := by
            cases hf : fin2 old new with
            | nil => rfl
            | cons x r => rw [hf] at e3; exact absurd e3 (by simp)
          cases en : nrF k0 old new with
          | none => exact ⟨rfl, by rw [decide_eq_true (show oV none = V.non from rfl)]; exact q3⟩
          | some m' =>
            obtain ⟨j, hj, hmn, _⟩ := near_ok nd hk0 hm en
            have : m' ∈ fin2 old new := fin2_mem.mpr ⟨List.mem_of_getElem? hj, hmn⟩
            rw [e4] at this
            cases this
        · have e4 : fin2 old new ≠ [] := fun hf => by rw [hf] at e3; exact absurd e3 (by decide)
          cases en : nrF k0 old new with
          | none =>
            unfold nrF at en
            cases hf : fnd new (old.drop (k0 + 1)) with
            | some x => rw [hf] at en; cases en
            | none =>
              rw [hf] at en
              have n1 := fnd_none hf
              have n2 := fnd_none en
              refine absurd (fin2_nil fun x hx => ?_) e4
              rw [(take_pre hk0).1] at hx
              rcases List.mem_append.mp hx with h | h
              · exact n2 x (List.mem_reverse.mpr h)
              · rcases List.mem_cons.mp h with rfl | h
                · exact hm
                · exact n1 x h
          | some m' =>
            obtain ⟨j, hj, hmn, b1, b2⟩ := near_ok nd hk0 hm en
            have jl := (List.getElem?_eq_some_iff.mp hj).1
            have hml : m' ∈ fin2 old new := fin2_mem.mpr ⟨List.mem_of_getElem? hj, hmn⟩
            have hlo3 := s3 _ _ hlo
            have lq := SqL.of (K := K) (S3.st hlo3)
            refine ⟨L, _, rfl, .inl (SqL.of (S3.st h3)), rfl, strs_flat _, fun e => ?_, fun _ => ?_⟩
            · have e5 : (!inV (.str m') ((fin2 old new).map V.str)) = true := e
              rw [inV_str, decide_eq_true hml] at e5
              cases e5
            refine ⟨.inl ⟨rfl, _, lq⟩, lo, _, .str m', j, .str m', rfl, rfl, lq, rfl, strs_flat _, by rw [List.getElem?_map, hj]; rfl, by simp [eqV], lix nd hj, _, rfl, lo, _, rfl, lq, fun p4 np4 => ?_⟩
            have ec : cutV (old.map V.str) (some ((j : Int) + 1)) none = (old.drop (j + 1)).map V.str := by
              have := cutV_from (old.map V.str) (j + 1) (by omega)
              rw [Int.natCast_add] at this
              rw [List.map_drop]
              exact this
            rw [ec]
            obtain ⟨G4, s4, S4, h4⟩ := Sep.mk (o := .lst ((old.drop (j + 1)).map V.str)) S3 np4
            have lq4 := SqL.of (K := K) (S4.st (s4 _ _ hlo3))
            refine ⟨fun σ H' => ∃ (bl : Addr) (beh : List Str) (G' : Hp), σ = [some (.str z), some (oV (some m)), some (.ref lo), some (.ref ln), some (oV (some m')), some (.ref L), some (.ref bl), none] ∧ Same G4 G' ∧ G' bl = some (.lst (beh.map V.str)) ∧ (∀ x ∈ beh, x ∉ new) ∧ Sep G' M H', ?_, fun σ H' hj => ?_⟩
            · refine ⟨.inl ⟨rfl, _, lq4⟩, lo, _, .str m', j, .str m', rfl, rfl, lq4, rfl, strs_flat _, by rw [List.getElem?_map, hj]; rfl, by simp [eqV], lix nd hj, .inl ⟨rfl, _, lq4⟩, lo, _, .str m, k0, .str m, rfl, rfl, lq4, rfl, strs_flat _, by rw [List.getElem?_map, hk0]; rfl, by simp [eqV], lix nd hk0, fun e => ?_, fun e => ?_⟩
              · have e := of_decide_eq_true e
                have e : k0 < j := by omega
                refine ⟨.inl ⟨rfl, _, lq4⟩, lo, _, .str m, k0, .str m, rfl, rfl, lq4, rfl, strs_flat _, by rw [List.getElem?_map, hk0]; rfl, by simp [eqV], lix nd hk0, _, rfl, .inl ⟨rfl, _, lq4⟩, lo, _, .str m', j, .str m', rfl, rfl, lq4, rfl, strs_flat _, by rw [List.getElem?_map, hj]; rfl, by simp [eqV], lix nd hj, _, rfl, lo, _, rfl, lq4, fun p5 np5 => ?_⟩
                have ec2 : cutV (old.map V.str) (some ((k0 : Int) + 1)) (some (j : Int)) = ((old.drop (k0 + 1)).take (j - (k0 + 1))).map V.str := by
                  unfold cutV
                  rw [show ((k0 : Int) + 1) = ((k0 + 1 : Nat) : Int) by omega, HT.sIx_nat, HT.sIx_nat, Nat.min_eq_left (by omega), Nat.min_eq_left (by omega), List.map_take, List.map_drop]
                rw [ec2]
                obtain ⟨G5, s5, S5, h5⟩ := Sep.mk (o := .lst (((old.drop (k0 + 1)).take (j - (k0 + 1))).map V.str)) S4 np5
                exact ⟨p5, _, G5, rfl, s5, h5, b1 e, S5⟩
              · have e := of_decide_eq_false e
                exact ⟨p4, _, G4, rfl, Same.refl _, h4, b2 (by omega), S4⟩
            · obtain ⟨bl, beh, G5, rfl, s5, h5, hb, S5⟩ := hj
              have s35 := s4.trans s5
              refine ⟨bl, rfl, ⟨_, SqL.of (S5.st h5)⟩, fun L2 nL2 => lc_list (xs := beh.map V.str) (fun i H' => Sep G5 ((L2, .lst []) :: M) H') (S5.new nL2) (fun i H' _ S' => SqL.of (S'.st h5)) (fun i y H' hy S' => ?_) (fun H6 S6 => ?_)⟩
              · rw [List.getElem?_map] at hy
                obtain ⟨u, hu, rfl⟩ := Option.map_eq_some_iff.mp hy
                have nu := hb u (List.mem_of_getElem? hu)
                have i3 : (if false = true then !inV (V.str u) ((fin2 old new).map V.str) else inV (V.str u) ((fin2 old new).map V.str)) = false := by
                  rw [if_neg (by decide), inV_str]
                  exact decide_eq_false fun hx => nu (fin2_mem.mp hx).2
                refine ⟨rfl, L, _, rfl, .inl (SqL.of (S'.st (s35 _ _ h3))), rfl, strs_flat _, tst (fun eb => absurd (i3.symm.trans eb) (by decide)) (fun eb => S')⟩
              · refine ⟨[], .inl (SqL.of S6.hd), ?_⟩
                exact q G5 _ (s3.trans s35) S6.drop

end
end K22
set_option Elab.async false
set_option linter.all false
set_option maxRecDepth 100000
set_option maxHeartbeats 4000000
namespace K22
open PySem PySem.Spec PyProof.Rows L2 XL
section
variable {P : Program} {w : World} {K : PySem.W.Frag} {mg : Str → Option Value} {base : Heap}
/-! ### the objects that go along the pages -/
structure En where
  (W f dx pg tm D : Addr) (z : Str) (row : Int) (t : Tr) (fs : List Fr3) (h : Option Str) (hk : Option Nat)
def En.bs (e : En) : List Str := btn (pre e.t)
def En.st (e : En) (h : Option Str) (hk : Option Nat) : En := ⟨e.W, e.f, e.dx, e.pg, e.tm, e.D, e.z, e.row, e.t, e.fs, h, hk⟩
def cls2 (C W f dx pg tm D : Addr) (z : Str) (row : Int) (v u : V) : List (Addr × HO) := [(W, .lst [.str z, .ref f, .ref D, v, .int row]), (f, .ins C dx (fcF z pg tm u))]
def En.cells (C : Addr) (e : En) : List (Addr × HO) := cls2 C e.W e.f e.dx e.pg e.tm e.D e.z e.row (oV e.h) (oV e.h)
structure EnOk (K : PySem.W.Frag) (CP : Addr) (G : Hp) (e : En) : Prop where
  tm : TupF G e.tm (e.bs.map V.str)
  pg : PgAt K CP G e.pg e.t
  ok : TrOk e.t
  fd : FlD G e.D e.fs
  ef : fl 0 e.t = e.fs
  hk : HK e.bs e.h e.hk
  zr : e.z ∈ rules
theorem EnOk.same {K : PySem.W.Frag} {CP : Addr} {G G' : Hp} {e : En} (s : Same G G') (h : EnOk K CP G e) : EnOk K CP G' e := ⟨h.tm.same s, h.pg.same s, h.ok, h.fd.same s, h.ef, h.hk, h.zr⟩
theorem EnOk.st {K : PySem.W.Frag} {CP : Addr} {G : Hp} {e : En} {h : Option Str} {hk : Option Nat} (k : HK e.bs h hk) (h' : EnOk K CP G e) : EnOk K CP G (e.st h hk) := ⟨h'.tm, h'.pg, h'.ok, h'.fd, h'.ef, k, h'.zr⟩
theorem EnOk.gd {K : PySem.W.Frag} {CP : Addr} {G : Hp} {e : En} (h : EnOk K CP G e) : ∀ z ∈ e.bs, Gd z := fun z hz => by
  obtain ⟨p, hp, rfl⟩ := List.mem_map.mp (btn_sub hz)
  exact (h.ok.tx p hp).1.gd (by decide)
theorem EnOk.nd {K : PySem.W.Frag} {CP : Addr} {G : Hp} {e : En} (h : EnOk K CP G e) : e.bs.Nodup := btn_nd h.ok.nd
theorem EnOk.bl {K : PySem.W.Frag} {CP : Addr} {G : Hp} {e : En} (h : EnOk K CP G e) : e.bs.length ≤ 400 := Nat.le_trans (btn_len _) h.ok.ln
def spDeeds (K : PySem.W.Frag) (C CP : Addr) : Sp := fun vs H Q _ => ∃ (G : Hp) (M : List (Addr × HO)) (b : Addr) (o : HO) (e : En) (pl : Addr) (zs : List Str), vs = [.ref b, .ref e.W, .ref pl] ∧ Sep G ((b, o) :: (e.cells C ++ M)) H ∧ Bag G o ∧ EnOk K CP G e ∧ Pool G pl zs ∧
  ∀ (h' : Option Str) (hk' : Option Nat) (o' : HO) (G' H' : Hp), Same G G' → HK e.bs h' hk' → Bag G' o' → Sep G' ((b, o') :: ((e.st h' hk').cells C ++ M)) H' → Q (.bl true) H'
theorem ok_deeds (T : Top K mg w) (G_pick : FnOk P w K mg base CX0 3 T.a_pick T.d_pick ["_law_bag_here", "_law_many"] spPick) (G_listed : FnOk P w K mg base CX0 3 T.a_listed T.d_listed ["_law_flat_here"] spListed) (G_stepped : FnOk P w K mg base CX0 3 T.a_stepped T.d_stepped ["_law_marks_here", "_law_at", "_law_way"] (spStepd K)) (G_Focus_step : FnOk P w K mg base CX0 3 T.a_Focus_step T.d_Focus_step ["self", "way"] (spStep T.C_Focus))
    (G_choice : FnOk P w K mg base CX0 4 T.a_choice T.d_choice ["_law_bag_here", "_law_things"] (spChoice K)) (G_Focus_put : FnOk P w K mg base (L2.CX P w) 6 T.a_Focus_put T.d_Focus_put ["self", "mark"] (spAt (fun v H Q => Q v H) T.C_Focus T.C_NoNode))
    (G_refused : FnOk P w K mg base CX0 8 T.a_refused T.d_refused ["_law_held", "_law_mark"] (spRefused T.C_Focus)) (G_Focus_at : FnOk P w K mg base CX0 3 T.a_Focus_at T.d_Focus_at ["self"] (getSp T.C_Focus "held")) :
    FnOk P w K mg base CX0 10 T.a_deeds T.d_deeds ["_law_bag_here", "_law_one", "_law_pool"] (spDeeds K T.C_Focus T.C_Page) := by
  refine T.F_deeds.ok sc_deeds (fun vs H Q E h => ?_) (fun cdv A outer s H vs Q E hr h => ?_)
  · obtain ⟨G, M, b, o, e, pl, zs, rfl, _⟩ := h
    rfl
  · obtain ⟨G, M, b, o, e, pl, zs, rfl, S, B, eo, hpl, q⟩ := h
    refine ⟨_, (pss_cons (ps_set (i := 3) sc_deeds.nd rfl (.inl rfl) (pe_ix (ix_k K) (xv 1) pe_int (fun _ _ => rfl)))
      (pss_cons (ps_set (i := 4) sc_deeds.nd rfl (.inl rfl) (pe_call G_listed (hr.mono (by omega)) (by rfl) T.g_listed T.F_listed.kp T.b_listed .nil pass0 (pa_cons (pe_ix (ix_k K) (xv 1) pe_int (fun _ _ => rfl)) pa_nil)))
      (pss_cons (ps_for PassesOwn.never rfl (pi_range1 (by rfl) T.m_range (pa_cons (pe_call G_pick (hr.mono (by omega)) (by rfl) T.g_pick T.F_pick.kp T.b_pick .nil pass0 (pa_cons (xv 0) (pa_cons pe_int pa_nil))) pa_nil)) (pg_name (i := 5) sc_deeds.nd rfl (.inl rfl))
      (pss_cons (ps_set (i := 6) sc_deeds.nd rfl (.inl rfl) (pe_call G_pick (hr.mono (by omega)) (by rfl) T.g_pick T.F_pick.kp T.b_pick .nil pass0 (pa_cons (xv 0) (pa_cons pe_int pa_nil))))
      (pss_cons (ps_set (i := 7) sc_deeds.nd rfl (.inl rfl) (pe_ix (ix_k K) (xv 1) pe_int (fun _ _ => rfl)))
      (xss_cut (xs_if (xt_cmp (op_eqK K hr.units) (xv 6) pe_int (nomark _))
      (pss_cons (ps_set (i := 8) sc_deeds.nd rfl (.inl rfl) (pe_call G_choice (hr.mono (by omega)) (by rfl) T.g_choice T.F_choice.kp T.b_choice .nil pass0 (pa_cons (xv 0) (pa_cons (xv 2) pa_nil))))
      (pss_one (xs_if (PW.pt (xw_and (xt_cmp (notin_seqK K) (xv 8) (xv 4) (by rfl)) (pw_and1 (pt_not (xt_truK K (pe_call G_refused (hr.mono (by omega)) (by rfl) T.g_refused T.F_refused.kp T.b_refused .nil pass0 (pa_cons (xv 3) (pa_cons (xv 8) pa_nil))))))))
      (pss_one (ps_ret pe_bl))
      pss_nil)))
      (pss_one (xs_if (xt_cmp op_ltY (xv 6) pe_int (nomark _))
      (pss_cons (ps_set (i := 9) sc_deeds.nd rfl (.inl rfl) (pe_ix (ix_k K) (pe_lst (pa_cons pe_str (pa_cons pe_str pa_nil))) (xv 6) (fun _ _ => rfl)))
      (pss_cons (ps_asg (pe_call G_stepped (hr.mono (by omega)) (by rfl) T.g_stepped T.F_stepped.kp T.b_stepped .nil pass0 (pa_cons (xv 4) (pa_cons (pe_ix (ix_k K) (xv 1) pe_int (fun _ _ => rfl)) (pa_cons (xv 9) pa_nil)))) (pg_sub (xv 1) pe_int set_list))
      (pss_one (ps_set (i := 7) sc_deeds.nd rfl (.inl rfl) (pe_meth (xv 3) T.cl_Focus T.me_Focus_step G_Focus_step (hr.mono (by omega)) T.b_Focus_step .nil pass0 (pa_cons (xv 9) pa_nil))))))
      (pss_one (xs_if (PW.pt (xw_and (xt_cmp op_ltY (xv 6) pe_int (nomark _)) (pw_and1 (xt_truK K (xv 4)))))
      (pss_cons (ps_asg (pe_call G_choice (hr.mono (by omega)) (by rfl) T.g_choice T.F_choice.kp T.b_choice .nil pass0 (pa_cons (xv 0) (pa_cons (xv 4) pa_nil))) (pg_sub (xv 1) pe_int set_list))
      (pss_one (ps_set (i := 7) sc_deeds.nd rfl (.inl rfl) (pe_meth (xv 3) T.cl_Focus T.me_Focus_put G_Focus_put (hr.mono (by omega)) T.b_Focus_put .nil passL (pa_cons (pe_ix (ix_k K) (xv 1) pe_int (fun _ _ => rfl)) pa_nil)))))
      (pss_cons (ps_asg pe_non (pg_sub (xv 1) pe_int set_list))
      (pss_one (ps_set (i := 7) sc_deeds.nd rfl (.inl rfl) (pe_meth (xv 3) T.cl_Focus T.me_Focus_put G_Focus_put (hr.mono (by omega)) T.b_Focus_put .nil passL (pa_cons pe_non pa_nil))))))))))
      (pss_one (xs_if (PW.pt (xw_or (xt_cmp (op_neK K hr.units) (xv 7) (pe_ix (ix_k K) (xv 1) pe_int (fun _ _ => rfl)) (nomark _)) (pw_or1 (xt_cmp (op_neK K hr.units) (pe_prop (xv 3) T.cl_Focus T.pr_Focus_at G_Focus_at (hr.mono (by omega)) T.b_Focus_at .nil pass0 rfl) (pe_ix (ix_k K) (xv 1) pe_int (fun _ _ => rfl)) (nomark _)))))
      (pss_one (ps_ret pe_bl))
      pss_nil))))))
      (pss_one (ps_ret pe_bl))))), ?_⟩
    have bl := eo.bl
    have bt : btnF e.fs = e.bs := btnF_eq eo.ef
    refine ⟨_, _, .inl (SqL.of S.sw.hd), atI_nat (j := 1) rfl, _, _, .inl (SqL.of S.sw.hd), atI_nat (j := 2) rfl, G, _, e.D, e.fs, rfl, S, eo.fd, fun ml G1 H1 s1 hml S1 => ?_⟩
    rw [bt] at hml
    have eo1 := eo.same s1
    have hpl1 := hpl.same s1
    refine ⟨G1, _, b, o, 4, rfl, S1, B.same s1, by decide, by decide, fun r2 o2 H2 r20 r21 B2 S2 => ⟨_, rfl, by omega, by omega, for_range (lo := 0) (n := r2.toNat) (fun i σ H' => ∃ (y5 y6 y7 y8 y9 : Option V) (h : Option Str) (hk : Option Nat) (o' : HO) (G' : Hp), σ = [some (.ref b), some (.ref e.W), some (.ref pl), some (.ref e.f), some (.ref ml), y5, y6, y7, y8, y9] ∧
      Same G1 G' ∧ Bag G' o' ∧ HK e.bs h hk ∧ Sep G' ((b, o') :: ((e.st h hk).cells T.C_Focus ++ M)) H') ⟨_, _, _, _, _, e.h, e.hk, o2, G1, rfl, Same.refl _, B2, eo.hk, S2⟩ (fun i σ H' hi h => ?_) (fun σ H' h => ?_)⟩⟩
    · obtain ⟨y5, y6, y7, y8, y9, h, hk, o', G', rfl, s', B', hh, S'⟩ := h
      have eo' := eo1.same s'
      have hml' := s' _ _ hml
      refine ⟨G', _, b, o', 7, rfl, S', B', by decide, by decide, fun r3 o3 H3 r30 r31 B3 S3 => ?_⟩
      refine ⟨_, _, .inl (SqL.of S3.sw.hd), atI_nat (j := 3) rfl, ?_⟩
      refine ⟨fun σ H' => ∃ (y8 y9 : Option V) (h' : Option Str) (hk' : Option Nat) (o' : HO) (G'' : Hp), σ = [some (.ref b), some (.ref e.W), some (.ref pl), some (.ref e.f), some (.ref ml), some (.int (0 + (i : Nat))), some (.int r3), some (oV h'), y8, y9] ∧
        Same G' G'' ∧ Bag G'' o' ∧ HK e.bs h' hk' ∧ Sep G'' ((b, o') :: ((e.st h' hk').cells T.C_Focus ++ M)) H', ?_, fun σ H4 hj => ?_⟩
      · -- f first
        have pf : ∀ {G H : Hp} {o : HO} {v u : V}, Sep G ((b, o) :: (cls2 T.C_Focus e.W e.f e.dx e.pg e.tm e.D e.z e.row v u ++ M)) H → Sep G ((e.f, .ins T.C_Focus e.dx (fcF e.z e.pg e.tm u)) :: (e.W, .lst [.str e.z, .ref e.f, .ref e.D, v, .int e.row]) :: (b, o) :: M) H := fun S => S.perm (List.Perm.trans (List.perm_append_comm_assoc [_] [_] _) (List.perm_append_comm_assoc [_, _] [_] _))
        have pb : ∀ {G H : Hp} {o : HO} {v u : V}, Sep G ((e.f, .ins T.C_Focus e.dx (fcF e.z e.pg e.tm u)) :: (e.W, .lst [.str e.z, .ref e.f, .ref e.D, v, .int e.row]) :: (b, o) :: M) H → Sep G ((b, o) :: (cls2 T.C_Focus e.W e.f e.dx e.pg e.tm e.D e.z e.row v u ++ M)) H := fun S => S.perm (List.Perm.trans (List.perm_append_comm_assoc [_, _] [_] _) (List.Perm.cons _ (List.Perm.swap _ _ _)))
        refine ⟨fun e6 => ?_, fun e6 => ⟨fun e2 => ?_, fun e2 => ⟨fun e5 => ⟨!(e.bs.map V.str).isEmpty, .inl ⟨_, SqL.of (S3.st hml'), rfl⟩, fun e7 => ?_, fun e7 => ?f1⟩, fun e5 => ⟨ff, fun _ => ?f2⟩⟩⟩⟩
        · have hp' := hpl1.same s'
          have zl : (zs.map V.str).length = zs.length := List.length_map _
          have l0 := hp'.l0; have l1 := hp'.l1
          refine ⟨G', _, b, o3, pl, _, rfl, S3, B3, SqL.of hp'.at_, by omega, by omega, fun v o4 H4 hv B4 S4 => ?_⟩
          obtain ⟨m, hm, rfl⟩ := List.mem_map.mp hv
          refine ⟨ml, _, rfl, .inl (SqL.of (S4.st hml')), rfl, strs_flat _, fun en => ?_, fun en => ⟨ff, fun _ => ⟨_, _, h, hk, o4, G', rfl, Same.refl _, B4, hh, S4⟩⟩⟩
          have e2 : (!inV (.str m) (e.bs.map V.str)) = true := en
          rw [inV_str] at e2
          refine ⟨G', _, e.f, e.dx, e.pg, e.tm, e.z, m, _, e.bs, rfl, pf S4, eo'.tm, (hp'.tz m hm).gd (by decide), by simpa using e2, fun G5 H5 s5 S5 => ⟨ff, fun _ => ?_⟩⟩
          exact ⟨_, _, h, hk, o4, G5, rfl, s5, B4.same s5, hh, pb S5⟩
        · have e2 := of_decide_eq_true e2
          refine ⟨sz, fun p np => ?_⟩
          obtain ⟨G4, s4, S4, h4⟩ := Sep.mk (o := .lst [.str "next", .str "back"]) S3 np
          obtain ⟨nx, hnx⟩ : ∃ nx : Bool, atI [.str "next", V.str "back"] r3 = some (.str (if nx then "next" else "back")) := by
            have : r3 = 0 ∨ r3 = 1 := by omega
            rcases this with rfl | rfl
            · exact ⟨true, rfl⟩
            · exact ⟨false, rfl⟩
          have eo4 := eo'.same s4
          obtain ⟨hk', hh'⟩ := HK.step (bs := e.bs) (hk := hk) (nx := nx)
          refine ⟨_, _, .inl (SqL.of (S4.st h4)), hnx, _, _, .inl (SqL.of S4.sw.hd), atI_nat (j := 3) rfl, ml, e.bs, h, hk, nx, rfl, SqL.of (S4.st (s4 _ _ hml')), eo.nd, hh, ?_⟩
          refine ⟨e.W, _, 3, 3, rfl, rfl, S4.sw.hd, rfl, ?_⟩
          have S5 := pf (S4.sw.set (o' := .lst [.str e.z, .ref e.f, .ref e.D, oV (stp1 e.bs hk nx), .int e.row])).sw
          refine ⟨e.f, e.dx, _, rfl, S5.hd, rfl, G4, _, e.f, e.dx, e.pg, e.tm, e.z, e.bs, h, hk, nx, rfl, S5, eo4.tm, eo.gd, eo.nd, by omega, hh, fun H6 S6 => ?_⟩
          exact ⟨_, _, _, hk', o3, G4, rfl, s4, B3.same s4, hh', pb S6⟩
        · refine ⟨G', _, b, o3, ml, _, rfl, S3, B3, SqL.of hml', ?_, by rw [List.length_map]; omega, fun v o4 H4 hv B4 S4 => ?_⟩
          · cases hb : e.bs.map V.str with
            | nil => rw [hb] at e7; exact absurd e7 (by decide)
            | cons x r => rw [List.length_cons]; omega
          obtain ⟨m, hm, rfl⟩ := List.mem_map.mp hv
          obtain ⟨hk', hh'⟩ := HK.of hm
          refine ⟨e.W, _, 3, 3, rfl, rfl, S4.sw.hd, rfl, ?_⟩
          have S5 := pf (S4.sw.set (o' := .lst [.str e.z, .ref e.f, .ref e.D, oV (some m), .int e.row])).sw
          refine ⟨e.f, e.dx, _, rfl, S5.hd, rfl, _, _, .inl (SqL.of S5.sw.hd), atI_nat (j := 3) rfl, G', _, e.f, e.dx, e.pg, e.tm, e.z, _, e.bs, some m, rfl, S5, eo'.tm, fun m' e => by cases e; exact eo.gd _ hm, fun _ H6 S6 => ?_, fun m' e hno => absurd hm (by cases e; exact hno)⟩
          exact ⟨_, _, some m, hk', o4, G', rfl, Same.refl _, B4, hh', pb S6⟩
        case f1 | f2 =>
          refine ⟨e.W, _, 3, 3, rfl, rfl, S3.sw.hd, rfl, ?_⟩
          have S5 := pf (S3.sw.set (o' := .lst [.str e.z, .ref e.f, .ref e.D, oV none, .int e.row])).sw
          refine ⟨e.f, e.dx, _, rfl, S5.hd, rfl, G', _, e.f, e.dx, e.pg, e.tm, e.z, _, e.bs, none, rfl, S5, eo'.tm, (fun m' e => nomatch e), fun _ H6 S6 => ?_, (fun m' e => nomatch e)⟩
          exact ⟨_, _, none, none, o3, G', rfl, Same.refl _, B3, .inl ⟨rfl, rfl⟩, pb S6⟩
      · obtain ⟨y8, y9, h', hk', o4, G4, rfl, s4, B4, hh', S4⟩ := hj
        have hW := S4.sw.hd
        have hf : H4 e.f = some (.ins T.C_Focus e.dx (fcF e.z e.pg e.tm (oV h'))) := S4.drop.sw.hd
        have fin : ∃ (y5 y6 y7 y8' y9' : Option V) (h : Option Str) (hk : Option Nat) (o' : HO) (G' : Hp), [some (V.ref b), some (.ref e.W), some (.ref pl), some (.ref e.f), some (.ref ml), some (.int (0 + (i : Nat))), some (.int r3), some (oV h'), y8, y9] = [some (.ref b), some (.ref e.W), some (.ref pl), some (.ref e.f), some (.ref ml), y5, y6, y7, y8', y9'] ∧
          Same G1 G' ∧ Bag G' o' ∧ HK e.bs h hk ∧ Sep G' ((b, o') :: ((e.st h hk).cells T.C_Focus ++ M)) H4 := ⟨_, _, _, _, _, h', hk', o4, G4, rfl, s'.trans s4, B4, hh', S4⟩
        refine ⟨_, _, .inl (SqL.of hW), atI_nat (j := 3) rfl, ?_⟩
        cases h' with
        | none =>
          refine ⟨rfl, fun en => absurd en (by simp [En.st]), fun _ => ?_⟩
          refine ⟨e.f, e.dx, _, rfl, hf, e.f, e.dx, _, _, rfl, hf, fc_held, _, _, .inl (SqL.of hW), atI_nat (j := 3) rfl, rfl, fun en => absurd en (by simp [En.st]), fun _ => fin⟩
        | some m =>
          refine ⟨fun en => absurd en (by simp), fun _ => ?_⟩
          refine ⟨e.f, e.dx, _, rfl, hf, e.f, e.dx, _, _, rfl, hf, fc_held, _, _, .inl (SqL.of hW), atI_nat (j := 3) rfl, fun en => absurd en (by simp), fun _ => fin⟩
    · obtain ⟨y5, y6, y7, y8, y9, h, hk, o', G', rfl, s', B', hh, S'⟩ := h
      exact q h hk o' G' H' (s1.trans s') hh B' S'

end
end K22
set_option Elab.async false
set_option linter.all false
set_option maxRecDepth 100000
set_option maxHeartbeats 4000000
namespace K22
open PySem PySem.Spec PyProof.Rows L2 XL
section
variable {P : Program} {w : World} {K : PySem.W.Frag} {mg : Str → Option Value} {base : Heap}
/-! ### the flat list tells the tree -/
def Low (d : Nat) (r : List Fr3) : Prop := ∀ x s, r = x :: s → x.2.2 < d
theorem fls_low (d : Nat) (ts : List Tr) {r : List Fr3} (h : Low d r) : Low (d + 1) (fls d ts ++ r) := by
  intro x s e
  cases ts with
  | nil => simp only [fls, List.nil_append] at e; have := h x s e; omega
  | cons t ts =>
    simp only [fls, fl_eq, List.cons_append, List.append_assoc] at e
    have := (List.cons.inj e).1
    rw [← this]
    show d < d + 1
    omega
mutual
theorem fl_inj' (d : Nat) : ∀ (t t' : Tr) (r r' : List Fr3), fl d t ++ r = fl d t' ++ r' → Low (d + 1) r → Low (d + 1) r' → t = t' ∧ r = r'
  | .node m l ks, .node m' l' ks', r, r', e, h, h' => by
    simp only [fl, List.cons_append] at e
    obtain ⟨e1, e2⟩ := List.cons.inj e
    obtain ⟨h1, h2⟩ := fls_inj' (d + 1) ks ks' r r' e2 h h'
    have e3 := (Prod.mk.inj e1).1
    have e4 := (Prod.mk.inj (Prod.mk.inj e1).2).1
    exact ⟨by rw [e3, e4, h1], h2⟩
theorem fls_inj' (d : Nat) : ∀ (ts ts' : List Tr) (r r' : List Fr3), fls d ts ++ r = fls d ts' ++ r' → Low d r → Low d r' → ts = ts' ∧ r = r'
  | [], [], r, r', e, _, _ => ⟨rfl, by simpa [fls] using e⟩
  | [], t' :: ts', r, r', e, h, _ => by
    simp only [fls, fl_eq, List.nil_append, List.cons_append, List.append_assoc] at e
    exact absurd (h _ _ e) (Nat.lt_irrefl d)
  | t :: ts, [], r, r', e, _, h' => by
    simp only [fls, fl_eq, List.nil_append, List.cons_append, List.append_assoc] at e
    exact absurd (h' _ _ e.symm) (Nat.lt_irrefl d)
  | t :: ts, t' :: ts', r, r', e, h, h' => by
    simp only [fls, List.append_assoc] at e
    obtain ⟨h1, h2⟩ := fl_inj' d t t' _ _ e (fls_low d ts h) (fls_low d ts' h')
    obtain ⟨h3, h4⟩ := fls_inj' d ts ts' r r' h2 h h'
    exact ⟨by rw [h1, h3], h4⟩
end
theorem fl_inj {t t' : Tr} (h : fl 0 t = fl 0 t') : t = t' := (fl_inj' 0 t t' [] [] (by rw [List.append_nil, List.append_nil]; exact h) (fun _ _ e => nomatch e) (fun _ _ e => nomatch e)).1

def En.go (e : En) (pg tm D : Addr) (t : Tr) (fs : List Fr3) (h : Option Str) (hk : Option Nat) : En := ⟨e.W, e.f, e.dx, pg, tm, D, e.z, e.row, t, fs, h, hk⟩
def spGone (K : PySem.W.Frag) (C CP : Addr) : Sp := fun vs H Q _ => ∃ (G : Hp) (M : List (Addr × HO)) (e : En) (D pg : Addr) (t : Tr) (fs : List Fr3), vs = [.ref e.W, .ref D, .ref pg] ∧ Sep G (e.cells C ++ M) H ∧ EnOk K CP G e ∧ FlD G D fs ∧ fl 0 t = fs ∧ PgAt K CP G pg t ∧
  ∀ (tm : Addr) (h : Option Str) (hk : Option Nat) (G' H' : Hp), Same G G' → EnOk K CP G' (e.go pg tm D t fs h hk) → Sep G' ((e.go pg tm D t fs h hk).cells C ++ M) H' → Q (.bl true) H'
theorem ok_gone (T : Top K mg w) (G_Focus_turn : FnOk P w K mg base CX0 7 T.a_Focus_turn T.d_Focus_turn ["self", "page"] (spTurn K T.C_Focus T.C_Page)) (G_turned : FnOk P w K mg base CX0 3 T.a_turned T.d_turned ["_law_word", "_law_lost", "_law_old", "_law_new", "_law_told"] (spTurned K)) (G_listed : FnOk P w K mg base CX0 3 T.a_listed T.d_listed ["_law_flat_here"] spListed)
    (G_grown : FnOk P w K mg base CX0 1 T.a_grown T.d_grown ["_law_flat_here"] (spGrown K)) (G_buttons : FnOk P w K mg base CX0 5 T.a_buttons T.d_buttons ["page"] (spBut K T.C_Page))
    (G_Page_top : FnOk P w K mg base CX0 3 T.a_Page_top T.d_Page_top ["self"] (spTop K T.C_Page)) (G_Focus_page : FnOk P w K mg base CX0 3 T.a_Focus_page T.d_Focus_page ["self"] (getSp T.C_Focus "kept_page")) (G_Focus_at : FnOk P w K mg base CX0 3 T.a_Focus_at T.d_Focus_at ["self"] (getSp T.C_Focus "held")) :
    FnOk P w K mg base CX0 10 T.a_gone T.d_gone ["_law_one", "_law_after", "_law_page"] (spGone K T.C_Focus T.C_Page) := by
  refine T.F_gone.ok sc_gone (fun vs H Q E h => ?_) (fun cdv A outer s H vs Q E hr h => ?_)
  · obtain ⟨G, M, e, D, pg, t, fs, rfl, _⟩ := h
    rfl
  · obtain ⟨G, M, e, D, pg, t, fs, rfl, S, eo, hD, ef, hpg, q⟩ := h
    refine ⟨_, (pss_cons (ps_set (i := 3) sc_gone.nd rfl (.inl rfl) (pe_meth (pe_ix (ix_k K) (xv 0) pe_int (fun _ _ => rfl)) T.cl_Focus T.me_Focus_turn G_Focus_turn (hr.mono (by omega)) T.b_Focus_turn .nil pass0 (pa_cons (xv 2) pa_nil)))
      (xss_cut (xs_if (PW.pt (xw_and (xt_cmp op_notN (xv 3) pe_non (nomark _)) (pw_and1 (pt_not (xt_truK K (pe_callB (call_isK K) (by rfl) T.m_isinstance (by decide +kernel) (pa_cons (xv 3) (pa_cons (pe_bltn (v := .ty "str") (by rfl) T.m_str (by decide +kernel) rfl) pa_nil))))))))
      (pss_one (ps_ret pe_bl))
      pss_nil)
      (pss_cons (xs_if (pt_not (xt_truK K (pe_call G_turned (hr.mono (by omega)) (by rfl) T.g_turned T.F_turned.kp T.b_turned .nil pass0 (pa_cons (pe_ix (ix_k K) (xv 0) pe_int (fun _ _ => rfl)) (pa_cons (pe_ix (ix_k K) (xv 0) pe_int (fun _ _ => rfl)) (pa_cons (pe_call G_listed (hr.mono (by omega)) (by rfl) T.g_listed T.F_listed.kp T.b_listed .nil pass0 (pa_cons (pe_ix (ix_k K) (xv 0) pe_int (fun _ _ => rfl)) pa_nil)) (pa_cons (pe_call G_listed (hr.mono (by omega)) (by rfl) T.g_listed T.F_listed.kp T.b_listed .nil pass0 (pa_cons (xv 1) pa_nil)) (pa_cons (xv 3) pa_nil))))))))
      (pss_one (ps_ret pe_bl))
      pss_nil)
      (pss_cons (ps_asg (xv 1) (pg_sub (xv 0) pe_int set_list))
      (pss_cons (ps_asg (xv 3) (pg_sub (xv 0) pe_int set_list))
      (pss_cons (ps_set (i := 4) sc_gone.nd rfl (.inl rfl) (pe_prop (pe_ix (ix_k K) (xv 0) pe_int (fun _ _ => rfl)) T.cl_Focus T.pr_Focus_page G_Focus_page (hr.mono (by omega)) T.b_Focus_page .nil pass0 rfl))
      (pss_cons (xs_if (xt_cmp (op_neK K hr.units) (pe_fldK K (pe_ix (ix_k K) (xv 0) pe_int (fun _ _ => rfl))) (pe_ix (ix_k K) (xv 0) pe_int (fun _ _ => rfl)) (nomark _))
      (pss_one (ps_ret pe_bl))
      pss_nil)
      (pss_one (ps_ret (xe_and (pe_cmpR (op_eqK K hr.units) (pe_prop (pe_ix (ix_k K) (xv 0) pe_int (fun _ _ => rfl)) T.cl_Focus T.pr_Focus_at G_Focus_at (hr.mono (by omega)) T.b_Focus_at .nil pass0 rfl) (xv 3) (nomark _)) (xe_and (pe_cmpR (op_eqL K (u190 hr)) (pe_prop (xv 4) T.cl_Page T.pr_Page_top G_Page_top (hr.mono (by omega)) T.b_Page_top .nil pass0 rfl) (pe_call G_grown (hr.mono (by omega)) (by rfl) T.g_grown T.F_grown.kp T.b_grown .nil pass0 (pa_cons (xv 1) pa_nil)) (nomark _)) (pe_one (pe_cmpR (op_eqK K hr.units) (pe_callTy (call_listK K) (by rfl) T.m_list (by decide +kernel) (pa_cons (pe_call G_buttons (hr.mono (by omega)) (by rfl) T.g_buttons T.F_buttons.kp T.b_buttons .nil pass0 (pa_cons (xv 4) pa_nil)) pa_nil)) (pe_call G_listed (hr.mono (by omega)) (by rfl) T.g_listed T.F_listed.kp T.b_listed .nil pass0 (pa_cons (xv 1) pa_nil)) (nomark _)))))))))))))), ?_⟩
    have ok : TrOk t := hD.2.tr ef
    have bt : btnF fs = btn (pre t) := btnF_eq ef
    have bt0 : btnF e.fs = e.bs := btnF_eq eo.ef
    have S1 : Sep G ((e.f, .ins T.C_Focus e.dx (fcF e.z e.pg e.tm (oV e.h))) :: (e.W, .lst [.str e.z, .ref e.f, .ref e.D, oV e.h, .int e.row]) :: M) H := S.sw
    have bl := eo.bl
    refine ⟨_, _, .inl (SqL.of S.hd), atI_nat (j := 1) rfl, e.f, e.dx, _, rfl, S1.hd, rfl, G, _, e.f, e.dx, e.pg, e.tm, pg, e.z, t, e.bs, e.h, e.hk, rfl, S1, eo.tm, hpg, ok, eo.hk, eo.nd, eo.gd, by omega, fun tm G2 H2 s2 htm S2 => ?_⟩
    generalize et : trF e.z e.h e.hk e.bs (btn (pre t)) = h2 at *
    have eo2 := eo.same s2
    have hD2 := hD.same s2
    have S3 := S2.sw
    have rest : _ := et
    -- not None and no text: no
    refine ⟨fun σ H' => σ = [some (.ref e.W), some (.ref D), some (.ref pg), some (oV h2), none] ∧ H' = H2, ?_, fun σ H' hj => ?_⟩
    · cases h2 with
      | none => exact ⟨rfl, fun en => absurd en (by simp [oV]), fun _ => ⟨ff, fun _ => ⟨rfl, rfl⟩⟩⟩
      | some m => exact ⟨rfl, fun _ => ⟨_, _, _, _, true, rfl, .ty _, .base (.str m), kit_ty (by decide +kernel), ff, fun _ => ⟨rfl, rfl⟩⟩, fun en => absurd en (by simp [oV])⟩
    obtain ⟨rfl, rfl⟩ := hj
    refine ⟨_, _, .inl (SqL.of S3.hd), atI_nat (j := 0) rfl, _, _, .inl (SqL.of S3.hd), atI_nat (j := 3) rfl, _, _, .inl (SqL.of S3.hd), atI_nat (j := 2) rfl, G2, _, e.D, e.fs, rfl, S3, eo2.fd, fun lo G4 H4 s4 hlo S4 => ?_⟩
    rw [bt0] at hlo
    refine ⟨G4, _, D, fs, rfl, S4, hD2.same s4, fun ln G5 H5 s5 hln S5 => ?_⟩
    rw [bt] at hln
    refine ⟨G5, _, e.z, lo, ln, e.bs, btn (pre t), e.h, e.hk, by rw [et]; rfl, S5, s5 _ _ hlo, hln, eo.hk, eo.nd, by omega, eo.zr, fun G6 H6 s6 S6 => ⟨ff, fun _ => ?_⟩⟩
    refine ⟨e.W, _, 2, 2, rfl, rfl, S6.hd, rfl, ?_⟩
    have S7 := S6.set (o' := .lst [.str e.z, .ref e.f, .ref D, oV e.h, .int e.row])
    refine ⟨e.W, _, 3, 3, rfl, rfl, S7.hd, rfl, ?_⟩
    have S8 := S7.set (o' := .lst [.str e.z, .ref e.f, .ref D, oV h2, .int e.row])
    have s26 := s4.trans (s5.trans s6)
    refine ⟨_, _, .inl (SqL.of S8.hd), atI_nat (j := 1) rfl, e.f, e.dx, _, rfl, S8.sw.hd, e.f, e.dx, _, _, rfl, S8.sw.hd, fc_page, ?_⟩
    refine ⟨_, _, .inl (SqL.of S8.hd), atI_nat (j := 1) rfl, e.f, T.C_Focus, e.dx, _, _, rfl, S8.sw.hd, T.cl_Focus, T.na_Focus_rule, fc_rule, _, _, .inl (SqL.of S8.hd), atI_nat (j := 0) rfl, fun en => ?_, fun _ => ?_⟩
    · have e2 : (!decide (e.z = e.z)) = true := en
      simp at e2
    have hpg6 := hpg.same (s2.trans s26)
    obtain ⟨dxp, Np, Ap, Op, vp, usp, ka, kn, hp1, hp2, _⟩ := id hpg6.ex
    have lay := ok_lay ok
    have hg60 := ok.hg
    have hD6 := hD2.same s26
    obtain ⟨⟨us, hDl, hus⟩, fg⟩ := id hD6
    have fin : (∀ (G' H' : Hp), Same G6 G' → Sep G' ((e.W, .lst [.str e.z, .ref e.f, .ref D, oV h2, .int e.row]) :: (e.f, .ins T.C_Focus e.dx (fcF e.z pg tm (oV h2))) :: M) H' → Q (.bl true) H') := fun G' H' s' S' => by
      obtain ⟨hk', hh'⟩ := trF_hk (z := e.z) (h := e.h) (hk := e.hk) (old := e.bs) (new := btn (pre t))
      rw [et] at hh'
      exact q tm h2 hk' G' H' (s2.trans (s26.trans s')) ⟨htm.same (s26.trans s'), hpg6.same s', ok, hD6.same s', ef, hh', eo.zr⟩ S'
    have tail : ∀ (R : Bool → Prop), True := fun _ => trivial
    cases h2 with
    | none =>
      refine ⟨_, _, .inl (SqL.of S8.hd), atI_nat (j := 1) rfl, e.f, e.dx, _, rfl, S8.sw.hd, e.f, e.dx, _, _, rfl, S8.sw.hd, fc_held, rfl, fun _ => ?_, fun en => absurd en (by simp)⟩
      refine ⟨pg, _, _, rfl, S8.st hp1, G6, pg, t, rfl, S8.1, hpg6, fun v2 hv2 => ?_⟩
      refine ⟨G6, _, D, us, fs, rfl, S8, hDl, hus, fg.ok, by have := fg.ln; omega, fun v t2 G9 H9 s9 hv et2 S9 => ?_⟩
      obtain rfl : t = t2 := fl_inj (ef.trans et2.symm)
      refine ⟨toD t, toD t, dp_same (s9.trans S9.1) hv2, dp_same S9.1 hv, lay, lay, by have := tr_dep t; omega, fun _ => ?_, fun en => ?_⟩
      · refine ⟨G9, _, pg, t, rfl, S9, hpg6.same s9, ok, fun bm G10 H10 s10 hbm S10 => ?_⟩
        refine ⟨bm, _, rfl, .inr (hbm.same S10.1).tu.sq, fun l11 nl11 => ?_⟩
        obtain ⟨G11, s11, S11, h11⟩ := Sep.mk (o := .lst ((btn (pre t)).map V.str)) S10 nl11
        refine ⟨G11, _, D, fs, rfl, S11, hD6.same (s9.trans (s10.trans s11)), fun ln2 G12 H12 s12 hln2 S12 => ?_⟩
        rw [bt] at hln2
        have gdb : ∀ z ∈ btn (pre t), (∀ c ∈ z.cps.toList, c < 128) ∧ z.length ≤ 59 := fun z hz => by
          obtain ⟨p, hp, rfl⟩ := List.mem_map.mp (btn_sub hz)
          exact ⟨(ok.tx p hp).1.ch, (ok.tx p hp).1.hi⟩
        obtain ⟨nf, fit⟩ := strs_fit gdb
        refine ⟨.list ((btn (pre t)).map PyData.str), .list ((btn (pre t)).map PyData.str), .lst (SqL.of (S12.st (s12 _ _ h11))) (strs_dp _), .lst (SqL.of (S12.st hln2)) (strs_dp _), fit.shaped (by decide), fit.shaped (by decide), ?_⟩
        rw [fit.self]
        exact fin G12 _ (s9.trans (s10.trans (s11.trans s12))) S12
      · rw [SeqAt.eqv_refl _ lay] at en
        exact nomatch en
    | some m =>
      refine ⟨_, _, .inl (SqL.of S8.hd), atI_nat (j := 1) rfl, e.f, e.dx, _, rfl, S8.sw.hd, e.f, e.dx, _, _, rfl, S8.sw.hd, fc_held, fun _ => ?_, fun en => absurd en (by simp)⟩
      refine ⟨pg, _, _, rfl, S8.st hp1, G6, pg, t, rfl, S8.1, hpg6, fun v2 hv2 => ?_⟩
      refine ⟨G6, _, D, us, fs, rfl, S8, hDl, hus, fg.ok, by have := fg.ln; omega, fun v t2 G9 H9 s9 hv et2 S9 => ?_⟩
      obtain rfl : t = t2 := fl_inj (ef.trans et2.symm)
      refine ⟨toD t, toD t, dp_same (s9.trans S9.1) hv2, dp_same S9.1 hv, lay, lay, by have := tr_dep t; omega, fun _ => ?_, fun en => ?_⟩
      · refine ⟨G9, _, pg, t, rfl, S9, hpg6.same s9, ok, fun bm G10 H10 s10 hbm S10 => ?_⟩
        refine ⟨bm, _, rfl, .inr (hbm.same S10.1).tu.sq, fun l11 nl11 => ?_⟩
        obtain ⟨G11, s11, S11, h11⟩ := Sep.mk (o := .lst ((btn (pre t)).map V.str)) S10 nl11
        refine ⟨G11, _, D, fs, rfl, S11, hD6.same (s9.trans (s10.trans s11)), fun ln2 G12 H12 s12 hln2 S12 => ?_⟩
        rw [bt] at hln2
        have gdb : ∀ z ∈ btn (pre t), (∀ c ∈ z.cps.toList, c < 128) ∧ z.length ≤ 59 := fun z hz => by
          obtain ⟨p, hp, rfl⟩ := List.mem_map.mp (btn_sub hz)
          exact ⟨(ok.tx p hp).1.ch, (ok.tx p hp).1.hi⟩
        obtain ⟨nf, fit⟩ := strs_fit gdb
        refine ⟨.list ((btn (pre t)).map PyData.str), .list ((btn (pre t)).map PyData.str), .lst (SqL.of (S12.st (s12 _ _ h11))) (strs_dp _), .lst (SqL.of (S12.st hln2)) (strs_dp _), fit.shaped (by decide), fit.shaped (by decide), ?_⟩
        rw [fit.self]
        exact fin G12 _ (s9.trans (s10.trans (s11.trans s12))) S12
      · rw [SeqAt.eqv_refl _ lay] at en
        exact nomatch en
def spNext : Sp := fun vs H Q _ => ∃ (G : Hp) (M : List (Addr × HO)) (b : Addr) (o : HO) (D pl : Addr) (fs : List Fr3) (zs : List Str) (h : Option Str), vs = [.ref b, .ref D, .ref pl, oV h] ∧ Sep G ((b, o) :: M) H ∧ Bag G o ∧ FlD G D fs ∧ Pool G pl zs ∧
  ∀ (D' : Addr) (fs' : List Fr3) (o' : HO) (G' H' : Hp), Same G G' → FlD G' D' fs' → Bag G' o' → Sep G' ((b, o') :: M) H' → Q (.ref D') H'
theorem ok_next (T : Top K mg w) (G_pick : FnOk P w K mg base CX0 5 T.a_pick T.d_pick ["_law_bag_here", "_law_many"] spPick) (G_fresh : FnOk P w K mg base CX0 8 T.a_fresh T.d_fresh ["_law_bag_here", "_law_pool"] spFresh) (G_worn : FnOk P w K mg base CX0 8 T.a_worn T.d_worn ["_law_bag_here", "_law_flat_here", "_law_lost"] spWorn) :
    FnOk P w K mg base CX0 10 T.a_next T.d_next ["_law_bag_here", "_law_flat_here", "_law_pool", "_law_lost"] spNext := by
  refine T.F_next.ok sc_next (fun vs H Q E h => ?_) (fun cdv A outer s H vs Q E hr h => ?_)
  · obtain ⟨G, M, b, o, D, pl, fs, zs, h, rfl, _⟩ := h
    rfl
  · obtain ⟨G, M, b, o, D, pl, fs, zs, h, rfl, S, B, hD, hp, q⟩ := h
    refine ⟨_, (pss_cons (xs_if (xt_cmp (op_eqK K hr.units) (pe_call G_pick (hr.mono (by omega)) (by rfl) T.g_pick T.F_pick.kp T.b_pick .nil pass0 (pa_cons (xv 0) (pa_cons pe_int pa_nil))) pe_int (nomark _))
      (pss_one (ps_ret (pe_call G_fresh (hr.mono (by omega)) (by rfl) T.g_fresh T.F_fresh.kp T.b_fresh .nil pass0 (pa_cons (xv 0) (pa_cons (xv 2) pa_nil)))))
      pss_nil)
      (pss_one (ps_ret (pe_call G_worn (hr.mono (by omega)) (by rfl) T.g_worn T.F_worn.kp T.b_worn .nil pass0 (pa_cons (xv 0) (pa_cons (xv 1) (pa_cons (xe_if (xt_cmp (op_eqK K hr.units) (pe_call G_pick (hr.mono (by omega)) (by rfl) T.g_pick T.F_pick.kp T.b_pick .nil pass0 (pa_cons (xv 0) (pa_cons pe_int pa_nil))) pe_int (nomark _)) (xv 3) pe_non) pa_nil))))))), ?_⟩
    refine ⟨G, _, b, o, 3, rfl, S, B, by decide, by decide, fun r o1 H1 r0 r1 B1 S1 => ⟨fun e => ?_, fun e => ?_⟩⟩
    · exact ⟨G, _, b, o1, pl, zs, rfl, S1, B1, hp, q⟩
    · refine ⟨G, _, b, o1, 2, rfl, S1, B1, by decide, by decide, fun r2 o2 H2 r20 r21 B2 S2 => ⟨fun e => ?_, fun e => ?_⟩⟩
      · exact ⟨G, _, b, o2, D, fs, h, rfl, S2, B2, hD, q⟩
      · exact ⟨G, _, b, o2, D, fs, none, rfl, S2, B2, hD, q⟩

end
end K22
set_option Elab.async false
set_option linter.all false
set_option maxRecDepth 100000
set_option maxHeartbeats 4000000
namespace K22
open PySem PySem.Spec PyProof.Rows L2 XL
section
variable {P : Program} {w : World} {K : PySem.W.Frag} {mg : Str → Option Value} {base : Heap}
def spLaw (K : PySem.W.Frag) : Sp := fun vs H Q _ => ∃ (a : Addr) (ns : List Int), vs = [.ref a] ∧ SqL K H a (ns.map V.int) ∧ ns.length ≤ 63 ∧ ∀ H', Q (.bl true) H'
def FlR (G : Hp) (v : V) (fs : List Fr3) : Prop := ∃ D, v = .ref D ∧ FlD G D fs
def PgR (K : PySem.W.Frag) (CP : Addr) (G : Hp) (v : V) (fs : List Fr3) : Prop := ∃ p t, v = .ref p ∧ PgAt K CP G p t ∧ fl 0 t = fs
theorem FlR.same {G G' : Hp} (s : Same G G') {v : V} {fs : List Fr3} (h : FlR G v fs) : FlR G' v fs := let ⟨D, e, h⟩ := h; ⟨D, e, h.same s⟩
theorem PgR.same {CP : Addr} {G G' : Hp} (s : Same G G') {v : V} {fs : List Fr3} (h : PgR K CP G v fs) : PgR K CP G' v fs := let ⟨p, t, e, h, k⟩ := h; ⟨p, t, e, h.same s, k⟩
theorem map_set_same {α β : Type} {f : α → β} {x y : α} (hf : f y = f x) : ∀ {l : List α} {i : Nat}, l[i]? = some x → (l.set i y).map f = l.map f
  | [], _, h => by simp at h
  | a :: l, 0, h => by
    simp at h
    subst h
    simp [hf]
  | a :: l, i + 1, h => by
    rw [List.getElem?_cons_succ] at h
    simp only [List.set_cons_succ, List.map_cons, map_set_same hf h]
structure Sys (K : PySem.W.Frag) (C CP b : Addr) (Ws : List Addr) (M : List (Addr × HO)) (es : List En) (o : HO) (G H : Hp) : Prop where
  ok : ∀ e ∈ es, EnOk K CP G e ∧ (e.row = 0 ∨ e.row = 1)
  ws : es.map (·.W) = Ws
  bg : Bag G o
  sp : Sep G ((b, o) :: (es.flatMap (En.cells C) ++ M)) H
theorem Sys.get {C CP b : Addr} {Ws : List Addr} {M : List (Addr × HO)} {es : List En} {o : HO} {G H : Hp} (s : Sys K C CP b Ws M es o G H) {v : V} (hv : v ∈ Ws.map V.ref) : ∃ (i : Nat) (e : En), es[i]? = some e ∧ v = .ref e.W := by
  obtain ⟨W, hW, rfl⟩ := List.mem_map.mp hv
  rw [← s.ws] at hW
  obtain ⟨e, he, rfl⟩ := List.mem_map.mp hW
  obtain ⟨i, hi⟩ := List.getElem?_of_mem he
  exact ⟨i, e, hi, rfl⟩
theorem Sys.front {C CP b : Addr} {Ws : List Addr} {M : List (Addr × HO)} {es : List En} {o : HO} {G H : Hp} (s : Sys K C CP b Ws M es o G H) {i : Nat} {e : En} (hi : es[i]? = some e) : Sep G ((b, o) :: (e.cells C ++ ((es.eraseIdx i).flatMap (En.cells C) ++ M))) H := by
  refine s.sp.perm (List.Perm.cons _ ?_)
  rw [← List.append_assoc]
  exact List.Perm.append_right M ((perm_erase hi).symm.flatMap_right _)
theorem Sys.back {C CP b : Addr} {Ws : List Addr} {M : List (Addr × HO)} {es : List En} {o o' : HO} {G G' H H' : Hp} (s : Sys K C CP b Ws M es o G H) {i : Nat} {e e' : En} (hi : es[i]? = some e) (hw : e'.W = e.W) (hr : e'.row = e.row) (sm : Same G G') (ok : EnOk K CP G' e') (B : Bag G' o')
    (S : Sep G' ((b, o') :: (e'.cells C ++ ((es.eraseIdx i).flatMap (En.cells C) ++ M))) H') : Sys K C CP b Ws M (es.set i e') o' G' H' := by
  have il := (List.getElem?_eq_some_iff.mp hi).1
  refine ⟨fun x hx => ?_, by rw [← s.ws]; exact map_set_same hw hi, B, ?_⟩
  · rcases List.mem_or_eq_of_mem_set hx with h | rfl
    · exact ⟨(s.ok x h).1.same sm, (s.ok x h).2⟩
    · exact ⟨ok, by rw [hr]; exact (s.ok e (List.mem_of_getElem? hi)).2⟩
  · refine S.perm (List.Perm.cons _ ?_)
    rw [← List.append_assoc]
    refine List.Perm.append_right M ?_
    have h1 : (es.set i e')[i]? = some e' := by rw [List.getElem?_set_self il]
    have h2 := (perm_erase h1).flatMap_right (En.cells C)
    rw [List.eraseIdx_set_eq] at h2
    exact h2
theorem Sys.grow {C CP b : Addr} {Ws : List Addr} {M M' : List (Addr × HO)} {es : List En} {o o' : HO} {G G' H H' : Hp} (s : Sys K C CP b Ws M es o G H) (sm : Same G G') (B : Bag G' o') (S : Sep G' ((b, o') :: (es.flatMap (En.cells C) ++ M')) H') : Sys K C CP b Ws M' es o' G' H' := ⟨fun x hx => ⟨(s.ok x hx).1.same sm, (s.ok x hx).2⟩, s.ws, B, S⟩
structure TwoP (K : PySem.W.Frag) (CP : Addr) (G : Hp) (Fl Pg D0 D1 p0 p1 : Addr) (fs0 fs1 : List Fr3) (t0 t1 : Tr) : Prop where
  f : G Fl = some (.lst [.ref D0, .ref D1])
  p : G Pg = some (.lst [.ref p0, .ref p1])
  d0 : FlD G D0 fs0
  d1 : FlD G D1 fs1
  g0 : PgAt K CP G p0 t0
  g1 : PgAt K CP G p1 t1
  e0 : fl 0 t0 = fs0
  e1 : fl 0 t1 = fs1
theorem TwoP.same {CP : Addr} {G G' : Hp} {Fl Pg D0 D1 p0 p1 : Addr} {fs0 fs1 : List Fr3} {t0 t1 : Tr} (s : Same G G') (h : TwoP K CP G Fl Pg D0 D1 p0 p1 fs0 fs1 t0 t1) : TwoP K CP G' Fl Pg D0 D1 p0 p1 fs0 fs1 t0 t1 :=
  ⟨s _ _ h.f, s _ _ h.p, h.d0.same s, h.d1.same s, h.g0.same s, h.g1.same s, h.e0, h.e1⟩
theorem TwoP.at {CP : Addr} {G : Hp} {Fl Pg D0 D1 p0 p1 : Addr} {fs0 fs1 : List Fr3} {t0 t1 : Tr} (h : TwoP K CP G Fl Pg D0 D1 p0 p1 fs0 fs1 t0 t1) {r : Int} (hr : r = 0 ∨ r = 1) : ∃ (D p : Addr) (fs : List Fr3) (t : Tr), atI [V.ref D0, .ref D1] r = some (.ref D) ∧ atI [V.ref p0, .ref p1] r = some (.ref p) ∧ FlD G D fs ∧ PgAt K CP G p t ∧ fl 0 t = fs := by
  rcases hr with rfl | rfl
  · exact ⟨D0, p0, fs0, t0, rfl, rfl, h.d0, h.g0, h.e0⟩
  · exact ⟨D1, p1, fs1, t1, rfl, rfl, h.d1, h.g1, h.e1⟩
theorem ok_law (T : Top K mg w) (G_bag : FnOk P w K mg base CX0 1 T.a_bag T.d_bag ["_law_script"] (spBag K)) (G_pick : FnOk P w K mg base CX0 3 T.a_pick T.d_pick ["_law_bag_here", "_law_many"] spPick) (G_marks : FnOk P w K mg base CX0 4 T.a_marks T.d_marks ["_law_bag_here", "_law_count"] spMarks) (G_fresh : FnOk P w K mg base CX0 8 T.a_fresh T.d_fresh ["_law_bag_here", "_law_pool"] spFresh)
    (G_grown : FnOk P w K mg base CX0 1 T.a_grown T.d_grown ["_law_flat_here"] (spGrown K)) (G_Page_init : FnOk P w K mg base CX0 2 T.a_Page_init T.d_Page_init ["self", "root"] (spPage K T.C_Page))
    (G_Focus_init : FnOk P w K mg base (L2.CX P w) 7 T.a_Focus_init T.d_Focus_init ["self", "page", "rule"] (spFoc K T.C_Focus T.C_Page T.C_BadRule)) (G_deeds : FnOk P w K mg base CX0 10 T.a_deeds T.d_deeds ["_law_bag_here", "_law_one", "_law_pool"] (spDeeds K T.C_Focus T.C_Page)) (G_next : FnOk P w K mg base CX0 10 T.a_next T.d_next ["_law_bag_here", "_law_flat_here", "_law_pool", "_law_lost"] spNext)
    (G_mingled : FnOk P w K mg base CX0 5 T.a_mingled T.d_mingled ["_law_bag_here", "_law_things"] (spMingled K)) (G_gone : FnOk P w K mg base CX0 10 T.a_gone T.d_gone ["_law_one", "_law_after", "_law_page"] (spGone K T.C_Focus T.C_Page)) : FnOk P w K mg base CX0 20 T.a_law T.d_law ["_law_script"] (spLaw K) := by
  refine T.F_law.ok sc_law (fun vs H Q E h => ?_) (fun cdv A outer s H vs Q E hr h => ?_)
  · obtain ⟨a, ns, rfl, _⟩ := h
    rfl
  · obtain ⟨a, ns, rfl, ha, hl, q⟩ := h
    refine ⟨_, (pss_cons (ps_set (i := 1) sc_law.nd rfl (.inr rfl) (pe_call G_bag (hr.mono (by omega)) (by rfl) T.g_bag T.F_bag.kp T.b_bag .nil pass0 (pa_cons (xv 0) pa_nil)))
      (xss_cut (ps_set (i := 2) sc_law.nd rfl (.inr rfl) (pe_call G_marks (hr.mono (by omega)) (by rfl) T.g_marks T.F_marks.kp T.b_marks .nil pass0 (pa_cons (xv 1) (pa_cons (xe_if (xt_cmp (op_eqK K hr.units) (pe_call G_pick (hr.mono (by omega)) (by rfl) T.g_pick T.F_pick.kp T.b_pick .nil pass0 (pa_cons (xv 1) (pa_cons pe_int pa_nil))) pe_int (nomark _)) pe_int pe_int) pa_nil))))
      (pss_cons (ps_set (i := 3) sc_law.nd rfl (.inl rfl) (pe_lst (pa_cons (pe_call G_fresh (hr.mono (by omega)) (by rfl) T.g_fresh T.F_fresh.kp T.b_fresh .nil pass0 (pa_cons (xv 1) (pa_cons (xv 2) pa_nil))) (pa_cons (pe_call G_fresh (hr.mono (by omega)) (by rfl) T.g_fresh T.F_fresh.kp T.b_fresh .nil pass0 (pa_cons (xv 1) (pa_cons (xv 2) pa_nil))) pa_nil))))
      (pss_cons (ps_setLc (i := 4) (own := [("_law_flat_here", 11)]) (by rfl) sc_law.nd rfl rfl (sw_true rfl rfl rfl (by decide +kernel)) (pi_listK K (xv 3)) (blkOk_by (N := ["_law_script", "_law_bag_here", "_law_pool", "_law_flats", "_law_pages", "_law_group", "_law_word", "_law_row", "_law_turn", "_law_one", "_law_lost", "_law_flat_here"]) (sc := defScope s_law) (by decide +kernel)) (fun _ _ _ _ _ => (pg_name (i := 11) sc_law.nd rfl (.inl rfl))) (fun _ _ _ _ _ => pts_nil) (fun _ _ _ _ _ => (pe_make T.mk_Page G_Page_init (hr.mono (by omega)) (by rfl) T.g_Page T.b_Page_init .nil pass0 (pa_cons (pe_call G_grown (hr.mono (by omega)) (by rfl) T.g_grown T.F_grown.kp T.b_grown .nil pass0 (pa_cons (xv 11) pa_nil)) pa_nil))))
      (pss_cons (ps_set (i := 5) sc_law.nd rfl (.inl rfl) (pe_lst pa_nil))
      (pss_cons (ps_for PassesOwn.never rfl (pi_listK K (pe_lst (pa_cons pe_str (pa_cons pe_str (pa_cons pe_str (pa_cons (pe_ix (ix_k K) (pe_lst (pa_cons pe_str (pa_cons pe_str (pa_cons pe_str pa_nil)))) (pe_call G_pick (hr.mono (by omega)) (by rfl) T.g_pick T.F_pick.kp T.b_pick .nil pass0 (pa_cons (xv 1) (pa_cons pe_int pa_nil))) (fun _ _ => rfl)) pa_nil)))))) (pg_name (i := 6) sc_law.nd rfl (.inl rfl))
      (xss_cut (ps_set (i := 7) sc_law.nd rfl (.inl rfl) (xe_if (xt_cmp (op_eqK K hr.units) (pe_callB (cr_lenK K) (by rfl) T.m_len (by decide +kernel) (pa_cons (xv 5) pa_nil)) pe_int (nomark _)) pe_int pe_int))
      (pss_one (ps_expr (pe_bmK K PySem.F.plainAttrs_list PySem.F.slot_list_append PySem.F.type_list_append mt_append (xv 5) (pa_cons (pe_lst (pa_cons (xv 6) (pa_cons (pe_makeN T.mk_Focus G_Focus_init (hr.mono (by omega)) (by rfl) T.g_Focus T.kb_Focus_init passL (pa_cons (pe_ix (ix_k K) (xv 4) (xv 7) (fun _ _ => rfl)) pa_nil) (pk_cons (xv 6) pk_nil)) (pa_cons (pe_ix (ix_k K) (xv 3) (xv 7) (fun _ _ => rfl)) (pa_cons pe_non (pa_cons (xv 7) pa_nil)))))) pa_nil))))))
      (pss_cons (ps_for PassesOwn.never rfl (pi_range1 (by rfl) T.m_range (pa_cons (pe_op op_addY pe_int (pe_call G_pick (hr.mono (by omega)) (by rfl) T.g_pick T.F_pick.kp T.b_pick .nil pass0 (pa_cons (xv 1) (pa_cons pe_int pa_nil)))) pa_nil)) (pg_name (i := 8) sc_law.nd rfl (.inl rfl))
      (pss_cons (ps_for PassesOwn.never rfl (pi_listK K (xv 5)) (pg_name (i := 9) sc_law.nd rfl (.inl rfl))
      (pss_one (xs_if (pt_not (xt_truK K (pe_call G_deeds (hr.mono (by omega)) (by rfl) T.g_deeds T.F_deeds.kp T.b_deeds .nil pass0 (pa_cons (xv 1) (pa_cons (xv 9) (pa_cons (xv 2) pa_nil))))))
      (pss_one (ps_ret pe_bl))
      pss_nil)))
      (pss_cons (ps_set (i := 10) sc_law.nd rfl (.inl rfl) (pe_ix (ix_k K) (pe_ix (ix_k K) (xv 5) (pe_call G_pick (hr.mono (by omega)) (by rfl) T.g_pick T.F_pick.kp T.b_pick .nil pass0 (pa_cons (xv 1) (pa_cons pe_int pa_nil))) (fun _ _ => rfl)) pe_int (fun _ _ => rfl)))
      (pss_cons (ps_set (i := 3) sc_law.nd rfl (.inl rfl) (pe_lst (pa_cons (pe_call G_next (hr.mono (by omega)) (by rfl) T.g_next T.F_next.kp T.b_next .nil pass0 (pa_cons (xv 1) (pa_cons (pe_ix (ix_k K) (xv 3) pe_int (fun _ _ => rfl)) (pa_cons (xv 2) (pa_cons (xv 10) pa_nil))))) (pa_cons (pe_call G_next (hr.mono (by omega)) (by rfl) T.g_next T.F_next.kp T.b_next .nil pass0 (pa_cons (xv 1) (pa_cons (pe_ix (ix_k K) (xv 3) pe_int (fun _ _ => rfl)) (pa_cons (xv 2) (pa_cons (pe_ix (ix_k K) (pe_ix (ix_k K) (xv 5) pe_int (fun _ _ => rfl)) pe_int (fun _ _ => rfl)) pa_nil))))) pa_nil))))
      (pss_cons (ps_setLc (i := 4) (own := [("_law_flat_here", 11)]) (by rfl) sc_law.nd rfl rfl (sw_true rfl rfl rfl (by decide +kernel)) (pi_listK K (xv 3)) (blkOk_by (N := ["_law_script", "_law_bag_here", "_law_pool", "_law_flats", "_law_pages", "_law_group", "_law_word", "_law_row", "_law_turn", "_law_one", "_law_lost", "_law_flat_here"]) (sc := defScope s_law) (by decide +kernel)) (fun _ _ _ _ _ => (pg_name (i := 11) sc_law.nd rfl (.inl rfl))) (fun _ _ _ _ _ => pts_nil) (fun _ _ _ _ _ => (pe_make T.mk_Page G_Page_init (hr.mono (by omega)) (by rfl) T.g_Page T.b_Page_init .nil pass0 (pa_cons (pe_call G_grown (hr.mono (by omega)) (by rfl) T.g_grown T.F_grown.kp T.b_grown .nil pass0 (pa_cons (xv 11) pa_nil)) pa_nil))))
      (pss_one (ps_for PassesOwn.never rfl (pi_listK K (pe_call G_mingled (hr.mono (by omega)) (by rfl) T.g_mingled T.F_mingled.kp T.b_mingled .nil pass0 (pa_cons (xv 1) (pa_cons (xv 5) pa_nil)))) (pg_name (i := 9) sc_law.nd rfl (.inl rfl))
      (pss_one (xs_if (pt_not (xt_truK K (pe_call G_gone (hr.mono (by omega)) (by rfl) T.g_gone T.F_gone.kp T.b_gone .nil pass0 (pa_cons (xv 9) (pa_cons (pe_ix (ix_k K) (xv 3) (pe_ix (ix_k K) (xv 9) pe_int (fun _ _ => rfl)) (fun _ _ => rfl)) (pa_cons (pe_ix (ix_k K) (xv 4) (pe_ix (ix_k K) (xv 9) pe_int (fun _ _ => rfl)) (fun _ _ => rfl)) pa_nil))))))
      (pss_one (ps_ret pe_bl))
      pss_nil)))))))))
      (pss_one (ps_ret (pe_cmpR (op_eqK K hr.units) (pe_callB (cr_lenK K) (by rfl) T.m_len (by decide +kernel) (pa_cons (pe_lc (own := [("_law_one", 9)]) (by rfl) sc_law.nd (pi_listK K (xv 5)) (blkOk_by (N := ["_law_script", "_law_bag_here", "_law_pool", "_law_flats", "_law_pages", "_law_group", "_law_word", "_law_row", "_law_turn", "_law_one", "_law_lost", "_law_flat_here"]) (sc := defScope s_law) (by decide +kernel)) (fun _ _ _ _ _ => (pg_name (i := 9) sc_law.nd rfl (.inl rfl))) (fun _ _ _ _ _ => (pts_one (pt_not (xt_truK K (pe_call G_deeds (hr.mono (by omega)) (by rfl) T.g_deeds T.F_deeds.kp T.b_deeds .nil pass0 (pa_cons (xv 1) (pa_cons (xv 9) (pa_cons (xv 2) pa_nil)))))))) (fun _ _ _ _ _ => (xv 9))) pa_nil)) pe_int (nomark _))))))))))), ?_⟩
    refine ⟨H, [], a, ns, rfl, sep0, ha, hl, fun b o1 G1 H1 _ B1 S1 => ?_⟩
    refine ⟨fun σ H' => ∃ (pl : Addr) (zs : List Str) (o' : HO) (G' : Hp), σ = [some (.ref a), some (.ref b), some (.ref pl), none, none, none, none, none, none, none, none, none] ∧ Pool G' pl zs ∧ Bag G' o' ∧ Sep G' [(b, o')] H', ?_, fun σ H' hj => ?_⟩
    · refine ⟨G1, _, b, o1, 8, rfl, S1, B1, by decide, by decide, fun r2 o2 H2 r20 r21 B2 S2 => ⟨fun e => ?_, fun e => ?_⟩⟩
      · refine ⟨G1, _, b, o2, 40, rfl, S2, B2, by decide, fun D zs o3 G3 H3 s3 hD zl nd tz B3 S3 => ?_⟩
        exact ⟨D, zs, o3, G3, rfl, ⟨hD, nd, tz, by omega, by omega⟩, B3, S3⟩
      · refine ⟨G1, _, b, o2, 10, rfl, S2, B2, by decide, fun D zs o3 G3 H3 s3 hD zl nd tz B3 S3 => ?_⟩
        exact ⟨D, zs, o3, G3, rfl, ⟨hD, nd, tz, by omega, by omega⟩, B3, S3⟩
    obtain ⟨pl, zs, o2, G2, rfl, hp, B2, S2⟩ := hj
    refine ⟨G2, _, b, o2, pl, zs, rfl, S2, B2, hp, fun D0 fs0 o3 G3 H3 s3 hD0 B3 S3 => ?_⟩
    refine ⟨G3, _, b, o3, pl, zs, rfl, S3, B3, hp.same s3, fun D1 fs1 o4 G4 H4 s4 hD1 B4 S4 => ⟨sz, fun Fl nFl => ?_⟩⟩
    obtain ⟨G5, s5, S5, hFl⟩ := Sep.mk (o := .lst [.ref D0, .ref D1]) S4 nFl
    have fps : Paired (FlR G5) [V.ref D0, .ref D1] [fs0, fs1] := .cons ⟨D0, rfl, hD0.same (s4.trans s5)⟩ (.cons ⟨D1, rfl, hD1.same s5⟩ .nil)
    have hp5 := hp.same (s3.trans (s4.trans s5))
    have B5 := B4.same s5
    refine ⟨Fl, rfl, ⟨_, SqL.of (S5.st hFl)⟩, fun L nL => lc_at (xs := [V.ref D0, .ref D1]) (fun i H' => ∃ (ws : List V) (G' : Hp), Same G5 G' ∧ Paired (PgR K T.C_Page G') ws ([fs0, fs1].take i) ∧ ws.length = i ∧ Sep G' ((L, .lst ws) :: [(b, o4)]) H') ⟨[], G5, Same.refl _, .nil, rfl, S5.new nL⟩ (fun i H' h => ?_) (fun _ => rfl) (fun i y H' hy h => ?_) (fun H' h => ?_)⟩
    · obtain ⟨ws, G', s', _, _, S'⟩ := h
      exact SqL.of (S'.st (s' _ _ hFl))
    · obtain ⟨ws, G', s', hws, wl, S'⟩ := h
      obtain ⟨fs, hfs, D, rfl, hD⟩ := prd_get fps hy
      have il := (List.getElem?_eq_some_iff.mp hy).1
      have hD' := hD.same s'
      obtain ⟨⟨us, hDl, hus⟩, fg⟩ := id hD'
      refine ⟨G', _, D, us, fs, rfl, S', hDl, hus, fg.ok, by have := fg.ln; omega, fun v t G6 H6 s6 hv et S6 => fun p dp np ndp ne => ?_⟩
      have ok := hD'.2.tr et
      refine ⟨G6, _, p, dp, v, t, rfl, S6.new2 np ndp ne, hv, ok.nd, ok.ln, fun G7 H7 s7 hp7 S7 => ⟨rfl, ws, S7.drop.hd, smallL (by simp at il; omega), ws ++ [.ref p], G7, s'.trans (s6.trans s7), ?_, by rw [List.length_append, wl]; rfl, S7.drop.set⟩⟩
      rw [take_snoc hfs]
      exact prd_app (prd_imp (fun _ _ => PgR.same (s6.trans s7)) hws) (.cons ⟨p, t, rfl, hp7, et⟩ .nil)
    obtain ⟨ws, Ga0, sGax, hws, wl, SGax⟩ := h
    have hws : Paired (PgR K T.C_Page Ga0) ws [fs0, fs1] := hws
    obtain ⟨Ga, sGay, SGa, hPg⟩ := Sep.keep SGax
    have sGa := sGax.trans sGay
    obtain ⟨p0, p1, t0, t1, rfl, hp0, e0, hp1, e1⟩ : ∃ (p0 p1 : Addr) (t0 t1 : Tr), ws = [.ref p0, .ref p1] ∧ PgAt K T.C_Page Ga0 p0 t0 ∧ fl 0 t0 = fs0 ∧ PgAt K T.C_Page Ga0 p1 t1 ∧ fl 0 t1 = fs1 := by
      cases hws with
      | cons h1 r1 =>
        cases r1 with
        | cons h2 r2 =>
          cases r2
          obtain ⟨p0, t0, rfl, a1, a2⟩ := h1
          obtain ⟨p1, t1, rfl, a3, a4⟩ := h2
          exact ⟨p0, p1, t0, t1, rfl, a1, a2, a3, a4⟩
    have two : TwoP K T.C_Page Ga Fl L D0 D1 p0 p1 fs0 fs1 t0 t1 := ⟨sGa _ _ hFl, hPg, (hD0.same (s4.trans s5)).same sGa, (hD1.same s5).same sGa, hp0.same sGay, hp1.same sGay, e0, e1⟩
    have hpA := hp5.same sGa
    have BA := B5.same sGa
    refine ⟨sz, fun Gr nGr => ?_⟩
    have Sb := SGa.new (o := .lst []) nGr
    refine ⟨sz, fun p6 np6 => ?_⟩
    obtain ⟨Gb, sb, Sb, h6⟩ := Sep.mk (o := .lst [.str "none", .str "first", .str "near"]) Sb np6
    refine ⟨Gb, _, b, o4, 3, rfl, Sb.sw, BA.same sb, by decide, by decide, fun r7 o7 H7 r70 r71 B7 S7 => ?_⟩
    obtain ⟨z3, hz3, hz3r⟩ : ∃ z3, atI [.str "none", .str "first", V.str "near"] r7 = some (.str z3) ∧ z3 ∈ rules := by
      have : r7 = 0 ∨ r7 = 1 ∨ r7 = 2 := by omega
      rcases this with rfl | rfl | rfl
      · exact ⟨"none", rfl, by simp [rules]⟩
      · exact ⟨"first", rfl, by simp [rules]⟩
      · exact ⟨"near", rfl, by simp [rules]⟩
    refine ⟨_, _, .inl (SqL.of (S7.st h6)), hz3, sz, fun p8 np8 => ?_⟩
    obtain ⟨Gc, sc, Sc, h8⟩ := Sep.mk (o := .lst [.str "none", .str "first", .str "near", .str z3]) S7 np8
    have sbc := sb.trans sc
    have twoC := two.same sbc
    have wz : ∀ v ∈ [V.str "none", .str "first", .str "near", .str z3], ∃ z, v = .str z ∧ z ∈ rules ∧ Gd z := by
      intro v hv
      have gz : ∀ z ∈ rules, Gd z := fun z hz => by
        simp only [rules, List.mem_cons, List.not_mem_nil, or_false] at hz
        rcases hz with e | e | e <;> rw [e] <;> exact ⟨by decide, by decide⟩
      simp only [List.mem_cons, List.not_mem_nil, or_false] at hv
      rcases hv with rfl | rfl | rfl | rfl
      · exact ⟨_, rfl, by simp [rules], gz _ (by simp [rules])⟩
      · exact ⟨_, rfl, by simp [rules], gz _ (by simp [rules])⟩
      · exact ⟨_, rfl, by simp [rules], gz _ (by simp [rules])⟩
      · exact ⟨_, rfl, hz3r, gz _ hz3r⟩
    refine ⟨p8, rfl, ⟨_, SqL.of (Sc.st h8)⟩, for_list (xs := [V.str "none", .str "first", .str "near", .str z3]) (fun i σ H' => ∃ (y6 y7 : Option V) (es : List En) (o' : HO) (G' : Hp), σ = [some (.ref a), some (.ref b), some (.ref pl), some (.ref Fl), some (.ref L), some (.ref Gr), y6, y7, none, none, none, none] ∧ Same Gc G' ∧ es.length = i ∧
      Sys K T.C_Focus T.C_Page b (es.map (·.W)) [(Gr, .lst (es.map fun (e : En) => V.ref e.W))] es o' G' H') ⟨_, _, [], o7, Gc, rfl, Same.refl _, rfl, ⟨fun e he => (nomatch he), rfl, B7.same sc, Sc⟩⟩ (fun i σ H' _ h => ?_) (fun i v σ H' hv h => ?_) (fun σ H' h => ?_)⟩
    · obtain ⟨_, _, _, _, G', _, s', _, sy⟩ := h
      exact SqL.of (sy.sp.st (s' _ _ h8))
    · obtain ⟨y6, y7, es, o', G', rfl, s', el, sy⟩ := h
      obtain ⟨z, rfl, zr, zg⟩ := wz v (List.mem_of_getElem? hv)
      have il := (List.getElem?_eq_some_iff.mp hv).1
      have il : i < 4 := il
      have hGr : H' Gr = some (.lst (es.map fun (e : En) => V.ref e.W)) := sy.sp.at (by simp)
      refine ⟨fun σ H2 => ∃ r : Int, σ = [some (.ref a), some (.ref b), some (.ref pl), some (.ref Fl), some (.ref L), some (.ref Gr), some (.str z), some (.int r), none, none, none, none] ∧ H2 = H' ∧ (r = 0 ∨ r = 1), ?_, fun σ2 H2 hj => ?_⟩
      · exact ⟨_, .inl (SqL.of hGr), fun _ => ⟨1, rfl, rfl, .inr rfl⟩, fun _ => ⟨0, rfl, rfl, .inl rfl⟩⟩
      · obtain ⟨r, rfl, rfl, hr01⟩ := hj
        have two' := twoC.same s'
        obtain ⟨D, p, fs, t, hD, hpp, fD, hpg, et⟩ := two'.at hr01
        have ok := fD.2.tr et
        refine ⟨.inl ⟨rfl, _, SqL.of hGr⟩, _, _, .inl (SqL.of (sy.sp.st two'.p)), hpp, rfl, rfl, fun x dx nx ndx ne => ?_⟩
        refine ⟨G', _, x, dx, p, z, t, rfl, sy.sp.new2 nx ndx ne, hpg, ok, zg, fun _ tm G8 H8 s8 htm S8 => ⟨rfl, ?_⟩, fun hno => absurd zr hno⟩
        refine ⟨_, _, .inl (SqL.of (S8.st (s8 _ _ two'.f))), hD, sz, fun W nW => ?_⟩
        have S9 := S8.sw.drop.new (o := .lst [.str z, .ref x, .ref D, .non, .int r]) nW
        have hGr9 := S9.at (show (Gr, HO.lst (es.map fun (e : En) => V.ref e.W)) ∈ _ by simp)
        have perm1 : ∀ (X Y Z : List (Addr × HO)) (g : Addr × HO), (X ++ (Y ++ (Z ++ [g]))).Perm (g :: (Y ++ (Z ++ X))) := fun X Y Z g => by
          have h1 : (X ++ (Y ++ (Z ++ [g]))).Perm ((Y ++ (Z ++ [g])) ++ X) := List.perm_append_comm
          refine h1.trans ?_
          have h2 : ((Y ++ (Z ++ [g])) ++ X) = (Y ++ Z) ++ g :: X := by simp
          rw [h2]
          refine List.perm_middle.trans ?_
          rw [List.append_assoc]
        have S10 := S9.perm (perm1 [(W, .lst [.str z, .ref x, .ref D, .non, .int r]), (x, .ins T.C_Focus dx (fcF z p tm .non))] [(b, o')] (es.flatMap (En.cells T.C_Focus)) (Gr, .lst (es.map fun (e : En) => V.ref e.W)))
        have bt : btnF fs = btn (pre t) := btnF_eq et
        refine ⟨Gr, _, _, rfl, rfl, hGr9, smallL (by rw [List.length_map]; omega), ?_⟩
        have S11 := S10.set (o' := .lst ((es ++ [(⟨W, x, dx, p, tm, D, z, r, t, fs, none, none⟩ : En)]).map fun (e : En) => V.ref e.W))
        have S12 : Sep G8 ((b, o') :: ((es ++ [(⟨W, x, dx, p, tm, D, z, r, t, fs, none, none⟩ : En)]).flatMap (En.cells T.C_Focus) ++ [(Gr, .lst ((es ++ [(⟨W, x, dx, p, tm, D, z, r, t, fs, none, none⟩ : En)]).map fun (e : En) => V.ref e.W))])) _ := S11.perm (by
          rw [List.flatMap_append]
          exact (List.perm_append_comm (l₁ := [_])).trans (by simp [En.cells, cls2, oV]))
        refine ⟨_, _, es ++ [⟨W, x, dx, p, tm, D, z, r, t, fs, none, none⟩], o', G8, rfl, s'.trans s8, by rw [List.length_append, el]; rfl, ⟨fun e he => ?_, rfl, sy.bg.same s8, ?_⟩⟩
        · rcases List.mem_append.mp he with k | k
          · exact ⟨(sy.ok e k).1.same s8, (sy.ok e k).2⟩
          · rw [List.mem_singleton.mp k]
            exact ⟨⟨htm, hpg.same s8, ok, fD.same s8, et, .inl ⟨rfl, rfl⟩, zr⟩, hr01⟩
        · rw [List.map_append] at S12 ⊢
          exact S12
    · obtain ⟨y6, y7, es0, o8, G8, rfl, s8, el0, sy0⟩ := h
      -- the group stays
      have SGr : Sep G8 ((Gr, .lst (es0.map fun (e : En) => V.ref e.W)) :: (b, o8) :: es0.flatMap (En.cells T.C_Focus)) H' := sy0.sp.perm ((List.perm_append_comm (l₁ := (b, o8) :: es0.flatMap (En.cells T.C_Focus)) (l₂ := [_])))
      obtain ⟨G9, s9, S9, hGr⟩ := Sep.keep SGr
      have two9 := (twoC.same s8).same s9
      have sy9 : Sys K T.C_Focus T.C_Page b (es0.map (·.W)) [] es0 o8 G9 H' := sy0.grow s9 (sy0.bg.same s9) (by rw [List.append_nil]; exact S9)
      have hGr : G9 Gr = some (.lst ((es0.map (·.W)).map V.ref)) := by rw [List.map_map]; exact hGr
      have Wl : (es0.map (·.W)).length = 4 := by rw [List.length_map]; exact el0
      generalize es0.map (·.W) = Ws at *
      have hp9 := hpA.same (sbc.trans (s8.trans s9))
      have WL : (Ws.map V.ref).length = 4 := by rw [List.length_map]; exact Wl
      have cut : ∀ {es : List En} {o : HO} {G H : Hp} {M : List (Addr × HO)}, Sys K T.C_Focus T.C_Page b Ws M es o G H → ∀ {i : Nat} {e : En}, es[i]? = some e → H e.W = some (.lst [.str e.z, .ref e.f, .ref e.D, oV e.h, .int e.row]) := fun {es o G H M} sy {i e} hi => (sy.front hi).sw.hd
      refine ⟨G9, _, b, o8, 6, rfl, sy9.sp, sy9.bg, by decide, by decide, fun r10 o10 H10 r100 r101 B10 S10 => ⟨_, rfl, by omega, by omega, for_range (lo := 0) (n := ((2 : Int) + r10).toNat) (fun i σ H' => ∃ (y6 y7 y8 y9 y10 : Option V) (Fl Pg D0 D1 p0 p1 : Addr) (fs0 fs1 : List Fr3) (t0 t1 : Tr) (es : List En) (o' : HO) (G' : Hp),
        σ = [some (.ref a), some (.ref b), some (.ref pl), some (.ref Fl), some (.ref Pg), some (.ref Gr), y6, y7, y8, y9, y10, none] ∧ Same G9 G' ∧ TwoP K T.C_Page G' Fl Pg D0 D1 p0 p1 fs0 fs1 t0 t1 ∧ Sys K T.C_Focus T.C_Page b Ws [] es o' G' H')
        ⟨_, _, _, _, _, Fl, L, D0, D1, p0, p1, fs0, fs1, t0, t1, es0, o10, G9, rfl, Same.refl _, two9, sy9.grow (Same.refl _) B10 S10⟩ (fun i σ H' hi h => ?_) (fun σ H' h => ?_)⟩⟩
      · obtain ⟨y6, y7, y8, y9, y10, Fl, Pg, D0, D1, p0, p1, fs0, fs1, t0, t1, es, o', G', rfl, s', tw, sy⟩ := h
        refine ⟨Gr, rfl, ⟨_, SqL.of (sy.sp.st (s' _ _ hGr))⟩, for_list (xs := Ws.map V.ref) (fun j σ H' => ∃ (y9 : Option V) (es : List En) (o' : HO) (G'' : Hp), σ = [some (.ref a), some (.ref b), some (.ref pl), some (.ref Fl), some (.ref Pg), some (.ref Gr), y6, y7, some (.int (0 + (i : Nat))), y9, y10, none] ∧ Same G' G'' ∧ Sys K T.C_Focus T.C_Page b Ws [] es o' G'' H')
          ⟨_, es, o', G', rfl, Same.refl _, sy⟩ (fun j σ H' _ h => ?_) (fun j v σ H' hv h => ?_) (fun σ H' h => ?_)⟩
        · obtain ⟨_, _, _, G'', _, s2, sy⟩ := h
          exact SqL.of (sy.sp.st (s2 _ _ (s' _ _ hGr)))
        · obtain ⟨y9, es, o', G'', rfl, s2, sy⟩ := h
          obtain ⟨k, e, hk, rfl⟩ := sy.get (List.mem_of_getElem? hv)
          refine ⟨G'', _, b, o', e, pl, zs, rfl, sy.front hk, sy.bg, (sy.ok e (List.mem_of_getElem? hk)).1, hp9.same (s'.trans s2), fun h3 hk3 o3 G3 H3 s3 hh3 B3 S3 => ⟨ff, fun _ => ?_⟩⟩
          exact ⟨_, es.set k (e.st h3 hk3), o3, G3, rfl, s2.trans s3, sy.back hk rfl rfl s3 (((sy.ok e (List.mem_of_getElem? hk)).1.same s3).st hh3) B3 S3⟩
        obtain ⟨y9, es, o', G'', rfl, s2, sy⟩ := h
        have s02 := s'.trans s2
        have tw := tw.same s2
        refine ⟨G'', _, b, o', 3, rfl, sy.sp, sy.bg, by decide, by decide, fun r3 o3 H3 r30 r31 B3 S3 => ?_⟩
        have sy3 := sy.grow (Same.refl _) B3 S3
        obtain ⟨v, hv, hvm⟩ := atI_in (xs := Ws.map V.ref) r30 (by rw [WL]; omega)
        obtain ⟨k, e, hk, rfl⟩ := sy3.get hvm
        refine ⟨_, _, .inl (SqL.of (S3.st (s02 _ _ hGr))), hv, _, _, .inl (SqL.of (cut sy3 hk)), atI_nat (j := 3) rfl, ?_⟩
        refine ⟨_, _, .inl (SqL.of (S3.st tw.f)), atI_nat (j := 0) rfl, G'', _, b, o3, D0, pl, fs0, zs, e.h, rfl, S3, B3, tw.d0, hp9.same s02, fun D0' fs0' o4 G4 H4 s4 hD0 B4 S4 => ?_⟩
        have sy4 := sy3.grow s4 B4 S4
        obtain ⟨v3, hv3, hvm3⟩ := atI_in (xs := Ws.map V.ref) (i := 3) (by decide) (by rw [WL]; decide)
        obtain ⟨k3, e3, hk3, rfl⟩ := sy4.get hvm3
        have tw4 := tw.same s4
        refine ⟨_, _, .inl (SqL.of (S4.st tw4.f)), atI_nat (j := 1) rfl, _, _, .inl (SqL.of (S4.st (s4 _ _ (s02 _ _ hGr)))), hv3, _, _, .inl (SqL.of (cut sy4 hk3)), atI_nat (j := 3) rfl, G4, _, b, o4, D1, pl, fs1, zs, e3.h, rfl, S4, B4, tw4.d1, hp9.same (s02.trans s4), fun D1' fs1' o5 G5 H5 s5 hD1 B5 S5 => ⟨sz, fun Fl' nFl' => ?_⟩⟩
        obtain ⟨G6, s6, S6, hFl'⟩ := Sep.mk (o := .lst [.ref D0', .ref D1']) S5 nFl'
        have fps : Paired (FlR G6) [V.ref D0', .ref D1'] [fs0', fs1'] := .cons ⟨D0', rfl, hD0.same (s5.trans s6)⟩ (.cons ⟨D1', rfl, hD1.same s6⟩ .nil)
        have s46 := s4.trans (s5.trans s6)
        have sy6 := sy3.grow s46 (B5.same s6) S6
        refine ⟨Fl', rfl, ⟨_, SqL.of (S6.st hFl')⟩, fun L nL => lc_at (xs := [V.ref D0', .ref D1']) (fun i H' => ∃ (ws : List V) (G' : Hp), Same G6 G' ∧ Paired (PgR K T.C_Page G') ws ([fs0', fs1'].take i) ∧ ws.length = i ∧ Sep G' ((L, .lst ws) :: ((b, o5) :: (es.flatMap (En.cells T.C_Focus) ++ []))) H') ⟨[], G6, Same.refl _, .nil, rfl, S6.new nL⟩ (fun i H' h => ?_) (fun _ => rfl) (fun i y H' hy h => ?_) (fun H' h => ?_)⟩
        · obtain ⟨ws, G', s', _, _, S'⟩ := h
          exact SqL.of (S'.st (s' _ _ hFl'))
        · obtain ⟨ws, G', s', hws, wl, S'⟩ := h
          obtain ⟨fs, hfs, D, rfl, hD⟩ := prd_get fps hy
          have il := (List.getElem?_eq_some_iff.mp hy).1
          have hD' := hD.same s'
          obtain ⟨⟨us, hDl, hus⟩, fg⟩ := id hD'
          refine ⟨G', _, D, us, fs, rfl, S', hDl, hus, fg.ok, by have := fg.ln; omega, fun v t G6 H6 s6 hv et S6 => fun p dp np ndp ne => ?_⟩
          have ok := hD'.2.tr et
          refine ⟨G6, _, p, dp, v, t, rfl, S6.new2 np ndp ne, hv, ok.nd, ok.ln, fun G7 H7 s7 hp7 S7 => ⟨rfl, ws, S7.drop.hd, smallL (by simp at il; omega), ws ++ [.ref p], G7, s'.trans (s6.trans s7), ?_, by rw [List.length_append, wl]; rfl, S7.drop.set⟩⟩
          rw [take_snoc hfs]
          exact prd_app (prd_imp (fun _ _ => PgR.same (s6.trans s7)) hws) (.cons ⟨p, t, rfl, hp7, et⟩ .nil)
        obtain ⟨ws, Gz0, sGzx, hws, wl, SGzx⟩ := h
        have hws : Paired (PgR K T.C_Page Gz0) ws [fs0', fs1'] := hws
        obtain ⟨Gz, sGzy, SGz, hPg⟩ := Sep.keep SGzx
        have sGz := sGzx.trans sGzy
        obtain ⟨p0, p1, t0, t1, rfl, hp0, e0, hp1, e1⟩ : ∃ (p0 p1 : Addr) (t0 t1 : Tr), ws = [.ref p0, .ref p1] ∧ PgAt K T.C_Page Gz0 p0 t0 ∧ fl 0 t0 = fs0' ∧ PgAt K T.C_Page Gz0 p1 t1 ∧ fl 0 t1 = fs1' := by
          cases hws with
          | cons h1 r1 =>
            cases r1 with
            | cons h2 r2 =>
              cases r2
              obtain ⟨p0, t0, rfl, a1, a2⟩ := h1
              obtain ⟨p1, t1, rfl, a3, a4⟩ := h2
              exact ⟨p0, p1, t0, t1, rfl, a1, a2, a3, a4⟩
        have sy7 := sy6.grow sGz (sy6.bg.same sGz) SGz
        have tw7 : TwoP K T.C_Page Gz Fl' L D0' D1' p0 p1 fs0' fs1' t0 t1 := ⟨sGz _ _ hFl', hPg, (hD0.same (s5.trans s6)).same sGz, (hD1.same s6).same sGz, hp0.same sGzy, hp1.same sGzy, e0, e1⟩
        have s7 := s02.trans (s46.trans sGz)
        refine ⟨Gz, _, b, o5, Gr, _, rfl, sy7.sp, sy7.bg, SqL.of (s7 _ _ hGr), by rw [WL]; decide, fun pm ys o8 G8 H8 s8 hpm prm B8 S8 => ?_⟩
        have sy8 := sy7.grow s8 B8 S8
        have tw8 := tw7.same s8
        refine ⟨pm, rfl, ⟨_, SqL.of (S8.st hpm)⟩, for_list (xs := ys) (fun j σ H' => ∃ (y9 : Option V) (es : List En) (o' : HO) (G'' : Hp), σ = [some (.ref a), some (.ref b), some (.ref pl), some (.ref Fl'), some (.ref L), some (.ref Gr), y6, y7, some (.int (0 + (i : Nat))), y9, some (oV e.h), none] ∧ Same G8 G'' ∧ Sys K T.C_Focus T.C_Page b Ws [] es o' G'' H')
          ⟨_, es, o8, G8, rfl, Same.refl _, sy8⟩ (fun j σ H' _ h => ?_) (fun j v σ H' hv h => ?_) (fun σ H' h => ?_)⟩
        · obtain ⟨_, _, _, G'', _, s2, sy⟩ := h
          exact SqL.of (sy.sp.st (s2 _ _ hpm))
        · obtain ⟨y9, es, o', G'', rfl, s2, sy⟩ := h
          obtain ⟨k, e, hk, rfl⟩ := sy.get (prm.mem_iff.mp (List.mem_of_getElem? hv))
          obtain ⟨eo, er⟩ := sy.ok e (List.mem_of_getElem? hk)
          have tw2 := tw8.same s2
          obtain ⟨D, p, fs, t, hD, hpp, fD, hpg, et⟩ := tw2.at er
          have hW := cut sy hk
          refine ⟨_, _, .inl (SqL.of hW), atI_nat (j := 4) rfl, _, _, .inl (SqL.of (sy.sp.st tw2.f)), hD, _, _, .inl (SqL.of hW), atI_nat (j := 4) rfl, _, _, .inl (SqL.of (sy.sp.st tw2.p)), hpp, ?_⟩
          refine ⟨G'', _, e, D, p, t, fs, rfl, (sy.front hk).perm List.perm_middle.symm, eo, fD, et, hpg, fun tm h3 hk3 G3 H3 s3 eo3 S3 => ⟨ff, fun _ => ?_⟩⟩
          exact ⟨_, es.set k (e.go p tm D t fs h3 hk3), o', G3, rfl, s2.trans s3, sy.back hk rfl rfl s3 eo3 (sy.bg.same s3) (S3.perm List.perm_middle)⟩
        · obtain ⟨y9, es, o', G'', rfl, s2, sy⟩ := h
          exact ⟨_, _, _, _, _, Fl', L, D0', D1', p0, p1, fs0', fs1', t0, t1, es, o', G'', rfl, s7.trans (s8.trans s2), tw8.same s2, sy⟩
      · obtain ⟨y6, y7, y8, y9, y10, Fl, Pg, D0, D1, p0, p1, fs0, fs1, t0, t1, es, o', G', rfl, s', tw, sy⟩ := h
        refine ⟨Gr, rfl, ⟨_, SqL.of (sy.sp.st (s' _ _ hGr))⟩, fun Z nZ => lc_list (xs := Ws.map V.ref) (fun j H' => ∃ (es : List En) (o' : HO) (G'' : Hp), Same G' G'' ∧ Sys K T.C_Focus T.C_Page b Ws [(Z, .lst [])] es o' G'' H') ⟨es, o', G', Same.refl _, sy.grow (Same.refl _) sy.bg ((sy.sp.new (o := .lst []) nZ).perm (by rw [List.append_nil]; exact List.perm_append_comm (l₁ := [_])))⟩ (fun j H' _ h => ?_) (fun j v H' hv h => ?_) (fun H' h => ?_)⟩
        · obtain ⟨_, _, G'', s2, sy⟩ := h
          exact SqL.of (sy.sp.st (s2 _ _ (s' _ _ hGr)))
        · obtain ⟨es, o', G'', s2, sy⟩ := h
          obtain ⟨k, e, hk, rfl⟩ := sy.get (List.mem_of_getElem? hv)
          refine ⟨rfl, G'', _, b, o', e, pl, zs, rfl, sy.front hk, sy.bg, (sy.ok e (List.mem_of_getElem? hk)).1, hp9.same (s'.trans s2), fun h3 hk3 o3 G3 H3 s3 hh3 B3 S3 => ?_⟩
          exact ⟨es.set k (e.st h3 hk3), o3, G3, s2.trans s3, sy.back hk rfl rfl s3 (((sy.ok e (List.mem_of_getElem? hk)).1.same s3).st hh3) B3 S3⟩
        · obtain ⟨es, o', G'', s2, sy⟩ := h
          exact ⟨[], .inl (SqL.of (sy.sp.at (by simp))), q _⟩
end
section
theorem law_end {l : PySem.W.OpenLaw} {w : World} {K : PySem.W.Frag} {h : Heap} {mg : Str → Option Value} {fa f : Addr} {file : Str} (X : K.In h) (G : h.Ns mainGlobals mg) (hfa : mg "law" = some (.ref fa))
    (t : ∃ T : Top K mg w, T.a_law = f ∧ T.x_file = file ∧ ∀ (s : Shared) (v : Value), BindsTo s T.d_law ⟨[v], []⟩ [("_law_script", v)]) (pf0 : PySem.XExc.PF l.prog file) :
    ∃ fd : FuncData, (∀ (s : Shared) (v : Value), BindsTo s fd ⟨[v], []⟩ [("_law_script", v)]) ∧ ∀ base : Heap, K.In base → base.Ns mainGlobals mg → FnOk l.prog w K mg base CX0 20 fa fd ["_law_script"] (spLaw K) := by
  obtain ⟨T, _, ef, hb⟩ := t
  have pf : PySem.XExc.PF l.prog T.x_file := by rw [ef]; exact pf0
  have e := hfa.symm.trans T.g_law
  cases e
  refine ⟨T.d_law, hb, fun base _ _ => ?_⟩
  have Gm : FnOk l.prog w K mg base CX0 1 T.a_mixed T.d_mixed _ spMixed := ok_mixed T
  have Gp := ok_pick T Gm
  have Gp3 : FnOk l.prog w K mg base CX0 3 T.a_pick T.d_pick _ spPick := ok_pick T (k := 1) (ok_mixed T)
  have Gp4 : FnOk l.prog w K mg base CX0 4 T.a_pick T.d_pick _ spPick := ok_pick T (k := 2) (ok_mixed T)
  have Gp5 : FnOk l.prog w K mg base CX0 5 T.a_pick T.d_pick _ spPick := ok_pick T (k := 3) (ok_mixed T)
  have Gt := ok_text T Gp
  have Gt4 := ok_text T Gp3
  have Gc := ok_choice T Gp
  have Gc4 := ok_choice T Gp3
  have Gl := ok_label T Gp Gt Gc
  have Gl4 := ok_label T Gp3 Gt4 Gc4
  have Gpr := ok_pressed T Gp Gt Gl
  have Gpr4 := ok_pressed T Gp3 Gt4 Gl4
  have Gmk := ok_marks T Gp Gt
  have Gf := ok_flat T Gp3 Gpr
  have Gpi := ok_Page_init T (P := l.prog) (base := base) (ok_nodes_of T)
  have Gg := ok_Page_getitem T pf (w := w) (base := base) (k := 1)
  have Gbu := ok_buttons T (ok_Page_iter T) Gg
  have Gfi := ok_Focus_init T pf Gbu
  have Gas := ok_Focus_at_set T pf (w := w) (base := base) (k := 1)
  have Gpu := ok_Focus_put T Gas
  have Gmi := ok_mingled T Gp4
  have Gfr := ok_fresh T Gp5 Gmi Gf
  have Gwo := ok_worn T Gp5 Gpr4
  have Gde := ok_deeds T Gp3 (ok_listed T) (ok_stepped T) (ok_Focus_step T) Gc4 Gpu (ok_refused T Gpu pf) (ok_Focus_at T)
  have Gtu := ok_Focus_turn T Gbu (ok_moved_focus T)
  have Ggo := ok_gone T Gtu (ok_turned T) (ok_listed T) (ok_grown T) Gbu (ok_Page_top T) (ok_Focus_page T) (ok_Focus_at T)
  exact ok_law T (ok_bag T) Gp3 Gmk Gfr (ok_grown T) Gpi Gfi Gde (ok_next T Gp5 Gfr Gwo) Gmi Ggo
end
theorem top_mk {K : PySem.W.Frag} {W : World} {h : Heap} {mg : Str → Option Value} (X : K.In h) (G : h.Ns mainGlobals mg)
    {C0 : Addr}
    (ca0 : PySem.W.nsIn K mainGlobals "Page" = some (some (.ref C0)))
    {C1 : Addr}
    (ca1 : PySem.W.nsIn K mainGlobals "Focus" = some (some (.ref C1)))
    {f0 : Addr} {od0 an0 : Option Addr} {sl0 : Array (Option Value)} {oc0 kV0 dc0 pm0 cd0 ct0 : Value}
    (a0 : PySem.W.nsIn K mainGlobals "buttons" = some (some (.ref f0)))
    (l0 : K.lookup f0 = some ⟨oc0, od0, .func (PySem.W.fnOf "buttons" "buttons" (defArgs s_buttons) (defBody s_buttons) (defScope s_buttons) .none kV0 dc0 pm0 an0 cd0 ct0), sl0⟩)
    (c0 : PySem.W.codeIn K cd0 "buttons" = true)
    (k0 : PySem.W.keepIn K (.ref f0) = true)
    {f1 : Addr} {od1 an1 : Option Addr} {sl1 : Array (Option Value)} {oc1 kV1 dc1 pm1 cd1 ct1 : Value}
    (a1 : PySem.W.nsIn K mainGlobals "moved_focus" = some (some (.ref f1)))
    (l1 : K.lookup f1 = some ⟨oc1, od1, .func (PySem.W.fnOf "moved_focus" "moved_focus" (defArgs s_moved_focus) (defBody s_moved_focus) (defScope s_moved_focus) .none kV1 dc1 pm1 an1 cd1 ct1), sl1⟩)
    (c1 : PySem.W.codeIn K cd1 "moved_focus" = true)
    (k1 : PySem.W.keepIn K (.ref f1) = true)
    {f2 : Addr} {od2 an2 : Option Addr} {sl2 : Array (Option Value)} {oc2 kV2 dc2 pm2 cd2 ct2 : Value}
    (a2 : PySem.W.findIn K (.ref C1) "__init__" = some (some (.ref f2)))
    (i2 : PySem.W.isFn K (.ref f2) = true)
    {dT2 : Addr} {dC2 : Option Addr} {dN2 : Nat} {dS2 : Array (Option Value)} {dk2_0 : Tok}
    (l2 : K.lookup f2 = some ⟨oc2, od2, .func (PySem.W.fnOf "__init__" "Focus.__init__" (defArgs s_Focus_init) (defBody s_Focus_init) (defScope s_Focus_init) (.ref dT2) kV2 dc2 pm2 an2 cd2 ct2), sl2⟩)
    (dl2_ : K.lookup dT2 = some ⟨.type "tuple", dC2, .seq #[.str "near" dk2_0] dN2, dS2⟩)
    (c2 : PySem.W.codeIn K cd2 "Focus.__init__" = true)
    (k2 : PySem.W.keepIn K (.ref f2) = true)
    {f3 : Addr} {od3 an3 : Option Addr} {sl3 : Array (Option Value)} {oc3 kV3 dc3 pm3 cd3 ct3 : Value}
    {p3 : Addr} {pr3 : List Value}
    (a3 : PySem.W.findIn K (.ref C1) "page" = some (some (.ref p3)))
    (pg3 : PySem.W.specialIn K (.ref p3) "__get__" = some (some (.builtin "property.__get__")))
    (pt3 : PySem.W.takesIn K (.ref p3) = some true)
    (pc3 : PySem.W.recIn K p3 "property" = some (.ref f3 :: pr3))
    (l3 : K.lookup f3 = some ⟨oc3, od3, .func (PySem.W.fnOf "page" "Focus.page" (defArgs s_Focus_page) (defBody s_Focus_page) (defScope s_Focus_page) .none kV3 dc3 pm3 an3 cd3 ct3), sl3⟩)
    (c3 : PySem.W.codeIn K cd3 "Focus.page" = true)
    (k3 : PySem.W.keepIn K (.ref f3) = true)
    {f4 : Addr} {od4 an4 : Option Addr} {sl4 : Array (Option Value)} {oc4 kV4 dc4 pm4 cd4 ct4 : Value}
    {p4 : Addr} {pr4 : List Value}
    (a4 : PySem.W.findIn K (.ref C1) "at" = some (some (.ref p4)))
    (pg4 : PySem.W.specialIn K (.ref p4) "__get__" = some (some (.builtin "property.__get__")))
    (pt4 : PySem.W.takesIn K (.ref p4) = some true)
    (pc4 : PySem.W.recIn K p4 "property" = some (.ref f4 :: pr4))
    (l4 : K.lookup f4 = some ⟨oc4, od4, .func (PySem.W.fnOf "at" "Focus.at" (defArgs s_Focus_at) (defBody s_Focus_at) (defScope s_Focus_at) .none kV4 dc4 pm4 an4 cd4 ct4), sl4⟩)
    (c4 : PySem.W.codeIn K cd4 "Focus.at" = true)
    (k4 : PySem.W.keepIn K (.ref f4) = true)
    {f5 : Addr} {od5 an5 : Option Addr} {sl5 : Array (Option Value)} {oc5 kV5 dc5 pm5 cd5 ct5 : Value}
    {p5 : Addr} {ga5 : Value} {pr5 : List Value}
    (a5 : PySem.W.takerIn K C1 "at" = some (some (.ref p5)))
    (pt5 : PySem.W.typeIn K (.ref p5) = some (.type "property"))
    (pc5 : PySem.W.recIn K p5 "property" = some (ga5 :: .ref f5 :: pr5))
    (l5 : K.lookup f5 = some ⟨oc5, od5, .func (PySem.W.fnOf "at" "Focus.at" (defArgs s_Focus_at_set) (defBody s_Focus_at_set) (defScope s_Focus_at_set) .none kV5 dc5 pm5 an5 cd5 ct5), sl5⟩)
    (c5 : PySem.W.codeIn K cd5 "Focus.at" = true)
    (k5 : PySem.W.keepIn K (.ref f5) = true)
    {f6 : Addr} {od6 an6 : Option Addr} {sl6 : Array (Option Value)} {oc6 kV6 dc6 pm6 cd6 ct6 : Value}
    (a6 : PySem.W.findIn K (.ref C1) "put" = some (some (.ref f6)))
    (i6 : PySem.W.isFn K (.ref f6) = true)
    (l6 : K.lookup f6 = some ⟨oc6, od6, .func (PySem.W.fnOf "put" "Focus.put" (defArgs s_Focus_put) (defBody s_Focus_put) (defScope s_Focus_put) .none kV6 dc6 pm6 an6 cd6 ct6), sl6⟩)
    (c6 : PySem.W.codeIn K cd6 "Focus.put" = true)
    (k6 : PySem.W.keepIn K (.ref f6) = true)
    {f7 : Addr} {od7 an7 : Option Addr} {sl7 : Array (Option Value)} {oc7 kV7 dc7 pm7 cd7 ct7 : Value}
    (a7 : PySem.W.findIn K (.ref C1) "step" = some (some (.ref f7)))
    (i7 : PySem.W.isFn K (.ref f7) = true)
    (l7 : K.lookup f7 = some ⟨oc7, od7, .func (PySem.W.fnOf "step" "Focus.step" (defArgs s_Focus_step) (defBody s_Focus_step) (defScope s_Focus_step) .none kV7 dc7 pm7 an7 cd7 ct7), sl7⟩)
    (c7 : PySem.W.codeIn K cd7 "Focus.step" = true)
    (k7 : PySem.W.keepIn K (.ref f7) = true)
    {f8 : Addr} {od8 an8 : Option Addr} {sl8 : Array (Option Value)} {oc8 kV8 dc8 pm8 cd8 ct8 : Value}
    (a8 : PySem.W.findIn K (.ref C1) "turn" = some (some (.ref f8)))
    (i8 : PySem.W.isFn K (.ref f8) = true)
    (l8 : K.lookup f8 = some ⟨oc8, od8, .func (PySem.W.fnOf "turn" "Focus.turn" (defArgs s_Focus_turn) (defBody s_Focus_turn) (defScope s_Focus_turn) .none kV8 dc8 pm8 an8 cd8 ct8), sl8⟩)
    (c8 : PySem.W.codeIn K cd8 "Focus.turn" = true)
    (k8 : PySem.W.keepIn K (.ref f8) = true)
    {f9 : Addr} {od9 an9 : Option Addr} {sl9 : Array (Option Value)} {oc9 kV9 dc9 pm9 cd9 ct9 : Value}
    (a9 : PySem.W.nsIn K mainGlobals "nodes_of" = some (some (.ref f9)))
    (l9 : K.lookup f9 = some ⟨oc9, od9, .func (PySem.W.fnOf "nodes_of" "nodes_of" (defArgs s_nodes_of) (defBody s_nodes_of) (defScope s_nodes_of) .none kV9 dc9 pm9 an9 cd9 ct9), sl9⟩)
    (c9 : PySem.W.codeIn K cd9 "nodes_of" = true)
    (k9 : PySem.W.keepIn K (.ref f9) = true)
    {f10 : Addr} {od10 an10 : Option Addr} {sl10 : Array (Option Value)} {oc10 kV10 dc10 pm10 cd10 ct10 : Value}
    (a10 : PySem.W.findIn K (.ref C0) "__init__" = some (some (.ref f10)))
    (i10 : PySem.W.isFn K (.ref f10) = true)
    (l10 : K.lookup f10 = some ⟨oc10, od10, .func (PySem.W.fnOf "__init__" "Page.__init__" (defArgs s_Page_init) (defBody s_Page_init) (defScope s_Page_init) .none kV10 dc10 pm10 an10 cd10 ct10), sl10⟩)
    (c10 : PySem.W.codeIn K cd10 "Page.__init__" = true)
    (k10 : PySem.W.keepIn K (.ref f10) = true)
    {f11 : Addr} {od11 an11 : Option Addr} {sl11 : Array (Option Value)} {oc11 kV11 dc11 pm11 cd11 ct11 : Value}
    {p11 : Addr} {pr11 : List Value}
    (a11 : PySem.W.findIn K (.ref C0) "top" = some (some (.ref p11)))
    (pg11 : PySem.W.specialIn K (.ref p11) "__get__" = some (some (.builtin "property.__get__")))
    (pt11 : PySem.W.takesIn K (.ref p11) = some true)
    (pc11 : PySem.W.recIn K p11 "property" = some (.ref f11 :: pr11))
    (l11 : K.lookup f11 = some ⟨oc11, od11, .func (PySem.W.fnOf "top" "Page.top" (defArgs s_Page_top) (defBody s_Page_top) (defScope s_Page_top) .none kV11 dc11 pm11 an11 cd11 ct11), sl11⟩)
    (c11 : PySem.W.codeIn K cd11 "Page.top" = true)
    (k11 : PySem.W.keepIn K (.ref f11) = true)
    {f12 : Addr} {od12 an12 : Option Addr} {sl12 : Array (Option Value)} {oc12 kV12 dc12 pm12 cd12 ct12 : Value}
    (a12 : PySem.W.findIn K (.ref C0) "__getitem__" = some (some (.ref f12)))
    (i12 : PySem.W.isFn K (.ref f12) = true)
    (fi12 : PySem.W.fnIn K f12 = true)
    (l12 : K.lookup f12 = some ⟨oc12, od12, .func (PySem.W.fnOf "__getitem__" "Page.__getitem__" (defArgs s_Page_getitem) (defBody s_Page_getitem) (defScope s_Page_getitem) .none kV12 dc12 pm12 an12 cd12 ct12), sl12⟩)
    (c12 : PySem.W.codeIn K cd12 "Page.__getitem__" = true)
    (k12 : PySem.W.keepIn K (.ref f12) = true)
    {f13 : Addr} {od13 an13 : Option Addr} {sl13 : Array (Option Value)} {oc13 kV13 dc13 pm13 cd13 ct13 : Value}
    (a13 : PySem.W.findIn K (.ref C0) "__iter__" = some (some (.ref f13)))
    (i13 : PySem.W.isFn K (.ref f13) = true)
    (l13 : K.lookup f13 = some ⟨oc13, od13, .func (PySem.W.fnOf "__iter__" "Page.__iter__" (defArgs s_Page_iter) (defBody s_Page_iter) (defScope s_Page_iter) .none kV13 dc13 pm13 an13 cd13 ct13), sl13⟩)
    (c13 : PySem.W.codeIn K cd13 "Page.__iter__" = true)
    (k13 : PySem.W.keepIn K (.ref f13) = true)
    {f14 : Addr} {od14 an14 : Option Addr} {sl14 : Array (Option Value)} {oc14 kV14 dc14 pm14 cd14 ct14 : Value}
    (a14 : PySem.W.nsIn K mainGlobals "_law_mixed" = some (some (.ref f14)))
    (l14 : K.lookup f14 = some ⟨oc14, od14, .func (PySem.W.fnOf "_law_mixed" "_law_mixed" (defArgs s_mixed) (defBody s_mixed) (defScope s_mixed) .none kV14 dc14 pm14 an14 cd14 ct14), sl14⟩)
    (c14 : PySem.W.codeIn K cd14 "_law_mixed" = true)
    (k14 : PySem.W.keepIn K (.ref f14) = true)
    {f15 : Addr} {od15 an15 : Option Addr} {sl15 : Array (Option Value)} {oc15 kV15 dc15 pm15 cd15 ct15 : Value}
    (a15 : PySem.W.nsIn K mainGlobals "_law_bag" = some (some (.ref f15)))
    (l15 : K.lookup f15 = some ⟨oc15, od15, .func (PySem.W.fnOf "_law_bag" "_law_bag" (defArgs s_bag) (defBody s_bag) (defScope s_bag) .none kV15 dc15 pm15 an15 cd15 ct15), sl15⟩)
    (c15 : PySem.W.codeIn K cd15 "_law_bag" = true)
    (k15 : PySem.W.keepIn K (.ref f15) = true)
    {f16 : Addr} {od16 an16 : Option Addr} {sl16 : Array (Option Value)} {oc16 kV16 dc16 pm16 cd16 ct16 : Value}
    (a16 : PySem.W.nsIn K mainGlobals "_law_pick" = some (some (.ref f16)))
    (l16 : K.lookup f16 = some ⟨oc16, od16, .func (PySem.W.fnOf "_law_pick" "_law_pick" (defArgs s_pick) (defBody s_pick) (defScope s_pick) .none kV16 dc16 pm16 an16 cd16 ct16), sl16⟩)
    (c16 : PySem.W.codeIn K cd16 "_law_pick" = true)
    (k16 : PySem.W.keepIn K (.ref f16) = true)
    {f17 : Addr} {od17 an17 : Option Addr} {sl17 : Array (Option Value)} {oc17 kV17 dc17 pm17 cd17 ct17 : Value}
    (a17 : PySem.W.nsIn K mainGlobals "_law_choice" = some (some (.ref f17)))
    (l17 : K.lookup f17 = some ⟨oc17, od17, .func (PySem.W.fnOf "_law_choice" "_law_choice" (defArgs s_choice) (defBody s_choice) (defScope s_choice) .none kV17 dc17 pm17 an17 cd17 ct17), sl17⟩)
    (c17 : PySem.W.codeIn K cd17 "_law_choice" = true)
    (k17 : PySem.W.keepIn K (.ref f17) = true)
    {f18 : Addr} {od18 an18 : Option Addr} {sl18 : Array (Option Value)} {oc18 kV18 dc18 pm18 cd18 ct18 : Value}
    (a18 : PySem.W.nsIn K mainGlobals "_law_mingled" = some (some (.ref f18)))
    (l18 : K.lookup f18 = some ⟨oc18, od18, .func (PySem.W.fnOf "_law_mingled" "_law_mingled" (defArgs s_mingled) (defBody s_mingled) (defScope s_mingled) .none kV18 dc18 pm18 an18 cd18 ct18), sl18⟩)
    (c18 : PySem.W.codeIn K cd18 "_law_mingled" = true)
    (k18 : PySem.W.keepIn K (.ref f18) = true)
    {f19 : Addr} {od19 an19 : Option Addr} {sl19 : Array (Option Value)} {oc19 kV19 dc19 pm19 cd19 ct19 : Value}
    (a19 : PySem.W.nsIn K mainGlobals "_law_text" = some (some (.ref f19)))
    (l19 : K.lookup f19 = some ⟨oc19, od19, .func (PySem.W.fnOf "_law_text" "_law_text" (defArgs s_text) (defBody s_text) (defScope s_text) .none kV19 dc19 pm19 an19 cd19 ct19), sl19⟩)
    (c19 : PySem.W.codeIn K cd19 "_law_text" = true)
    (k19 : PySem.W.keepIn K (.ref f19) = true)
    {f20 : Addr} {od20 an20 : Option Addr} {sl20 : Array (Option Value)} {oc20 kV20 dc20 pm20 cd20 ct20 : Value}
    (a20 : PySem.W.nsIn K mainGlobals "_law_label" = some (some (.ref f20)))
    (l20 : K.lookup f20 = some ⟨oc20, od20, .func (PySem.W.fnOf "_law_label" "_law_label" (defArgs s_label) (defBody s_label) (defScope s_label) .none kV20 dc20 pm20 an20 cd20 ct20), sl20⟩)
    (c20 : PySem.W.codeIn K cd20 "_law_label" = true)
    (k20 : PySem.W.keepIn K (.ref f20) = true)
    {f21 : Addr} {od21 an21 : Option Addr} {sl21 : Array (Option Value)} {oc21 kV21 dc21 pm21 cd21 ct21 : Value}
    (a21 : PySem.W.nsIn K mainGlobals "_law_pressed" = some (some (.ref f21)))
    (l21 : K.lookup f21 = some ⟨oc21, od21, .func (PySem.W.fnOf "_law_pressed" "_law_pressed" (defArgs s_pressed) (defBody s_pressed) (defScope s_pressed) .none kV21 dc21 pm21 an21 cd21 ct21), sl21⟩)
    (c21 : PySem.W.codeIn K cd21 "_law_pressed" = true)
    (k21 : PySem.W.keepIn K (.ref f21) = true)
    {f22 : Addr} {od22 an22 : Option Addr} {sl22 : Array (Option Value)} {oc22 kV22 dc22 pm22 cd22 ct22 : Value}
    (a22 : PySem.W.nsIn K mainGlobals "_law_marks" = some (some (.ref f22)))
    (l22 : K.lookup f22 = some ⟨oc22, od22, .func (PySem.W.fnOf "_law_marks" "_law_marks" (defArgs s_marks) (defBody s_marks) (defScope s_marks) .none kV22 dc22 pm22 an22 cd22 ct22), sl22⟩)
    (c22 : PySem.W.codeIn K cd22 "_law_marks" = true)
    (k22 : PySem.W.keepIn K (.ref f22) = true)
    {f23 : Addr} {od23 an23 : Option Addr} {sl23 : Array (Option Value)} {oc23 kV23 dc23 pm23 cd23 ct23 : Value}
    (a23 : PySem.W.nsIn K mainGlobals "_law_flat" = some (some (.ref f23)))
    (l23 : K.lookup f23 = some ⟨oc23, od23, .func (PySem.W.fnOf "_law_flat" "_law_flat" (defArgs s_flat) (defBody s_flat) (defScope s_flat) .none kV23 dc23 pm23 an23 cd23 ct23), sl23⟩)
    (c23 : PySem.W.codeIn K cd23 "_law_flat" = true)
    (k23 : PySem.W.keepIn K (.ref f23) = true)
    {f24 : Addr} {od24 an24 : Option Addr} {sl24 : Array (Option Value)} {oc24 kV24 dc24 pm24 cd24 ct24 : Value}
    (a24 : PySem.W.nsIn K mainGlobals "_law_grown" = some (some (.ref f24)))
    (l24 : K.lookup f24 = some ⟨oc24, od24, .func (PySem.W.fnOf "_law_grown" "_law_grown" (defArgs s_grown) (defBody s_grown) (defScope s_grown) .none kV24 dc24 pm24 an24 cd24 ct24), sl24⟩)
    (c24 : PySem.W.codeIn K cd24 "_law_grown" = true)
    (k24 : PySem.W.keepIn K (.ref f24) = true)
    {f25 : Addr} {od25 an25 : Option Addr} {sl25 : Array (Option Value)} {oc25 kV25 dc25 pm25 cd25 ct25 : Value}
    (a25 : PySem.W.nsIn K mainGlobals "_law_fresh" = some (some (.ref f25)))
    (l25 : K.lookup f25 = some ⟨oc25, od25, .func (PySem.W.fnOf "_law_fresh" "_law_fresh" (defArgs s_fresh) (defBody s_fresh) (defScope s_fresh) .none kV25 dc25 pm25 an25 cd25 ct25), sl25⟩)
    (c25 : PySem.W.codeIn K cd25 "_law_fresh" = true)
    (k25 : PySem.W.keepIn K (.ref f25) = true)
    {f26 : Addr} {od26 an26 : Option Addr} {sl26 : Array (Option Value)} {oc26 kV26 dc26 pm26 cd26 ct26 : Value}
    (a26 : PySem.W.nsIn K mainGlobals "_law_worn" = some (some (.ref f26)))
    (l26 : K.lookup f26 = some ⟨oc26, od26, .func (PySem.W.fnOf "_law_worn" "_law_worn" (defArgs s_worn) (defBody s_worn) (defScope s_worn) .none kV26 dc26 pm26 an26 cd26 ct26), sl26⟩)
    (c26 : PySem.W.codeIn K cd26 "_law_worn" = true)
    (k26 : PySem.W.keepIn K (.ref f26) = true)
    {f27 : Addr} {od27 an27 : Option Addr} {sl27 : Array (Option Value)} {oc27 kV27 dc27 pm27 cd27 ct27 : Value}
    (a27 : PySem.W.nsIn K mainGlobals "_law_listed" = some (some (.ref f27)))
    (l27 : K.lookup f27 = some ⟨oc27, od27, .func (PySem.W.fnOf "_law_listed" "_law_listed" (defArgs s_listed) (defBody s_listed) (defScope s_listed) .none kV27 dc27 pm27 an27 cd27 ct27), sl27⟩)
    (c27 : PySem.W.codeIn K cd27 "_law_listed" = true)
    (k27 : PySem.W.keepIn K (.ref f27) = true)
    {f28 : Addr} {od28 an28 : Option Addr} {sl28 : Array (Option Value)} {oc28 kV28 dc28 pm28 cd28 ct28 : Value}
    (a28 : PySem.W.nsIn K mainGlobals "_law_turned" = some (some (.ref f28)))
    (l28 : K.lookup f28 = some ⟨oc28, od28, .func (PySem.W.fnOf "_law_turned" "_law_turned" (defArgs s_turned) (defBody s_turned) (defScope s_turned) .none kV28 dc28 pm28 an28 cd28 ct28), sl28⟩)
    (c28 : PySem.W.codeIn K cd28 "_law_turned" = true)
    (k28 : PySem.W.keepIn K (.ref f28) = true)
    {f29 : Addr} {od29 an29 : Option Addr} {sl29 : Array (Option Value)} {oc29 kV29 dc29 pm29 cd29 ct29 : Value}
    (a29 : PySem.W.nsIn K mainGlobals "_law_stepped" = some (some (.ref f29)))
    (l29 : K.lookup f29 = some ⟨oc29, od29, .func (PySem.W.fnOf "_law_stepped" "_law_stepped" (defArgs s_stepped) (defBody s_stepped) (defScope s_stepped) .none kV29 dc29 pm29 an29 cd29 ct29), sl29⟩)
    (c29 : PySem.W.codeIn K cd29 "_law_stepped" = true)
    (k29 : PySem.W.keepIn K (.ref f29) = true)
    {f30 : Addr} {od30 an30 : Option Addr} {sl30 : Array (Option Value)} {oc30 kV30 dc30 pm30 cd30 ct30 : Value}
    (a30 : PySem.W.nsIn K mainGlobals "_law_refused" = some (some (.ref f30)))
    (l30 : K.lookup f30 = some ⟨oc30, od30, .func (PySem.W.fnOf "_law_refused" "_law_refused" (defArgs s_refused) (defBody s_refused) (defScope s_refused) .none kV30 dc30 pm30 an30 cd30 ct30), sl30⟩)
    (c30 : PySem.W.codeIn K cd30 "_law_refused" = true)
    (k30 : PySem.W.keepIn K (.ref f30) = true)
    {f31 : Addr} {od31 an31 : Option Addr} {sl31 : Array (Option Value)} {oc31 kV31 dc31 pm31 cd31 ct31 : Value}
    (a31 : PySem.W.nsIn K mainGlobals "_law_deeds" = some (some (.ref f31)))
    (l31 : K.lookup f31 = some ⟨oc31, od31, .func (PySem.W.fnOf "_law_deeds" "_law_deeds" (defArgs s_deeds) (defBody s_deeds) (defScope s_deeds) .none kV31 dc31 pm31 an31 cd31 ct31), sl31⟩)
    (c31 : PySem.W.codeIn K cd31 "_law_deeds" = true)
    (k31 : PySem.W.keepIn K (.ref f31) = true)
    {f32 : Addr} {od32 an32 : Option Addr} {sl32 : Array (Option Value)} {oc32 kV32 dc32 pm32 cd32 ct32 : Value}
    (a32 : PySem.W.nsIn K mainGlobals "_law_gone" = some (some (.ref f32)))
    (l32 : K.lookup f32 = some ⟨oc32, od32, .func (PySem.W.fnOf "_law_gone" "_law_gone" (defArgs s_gone) (defBody s_gone) (defScope s_gone) .none kV32 dc32 pm32 an32 cd32 ct32), sl32⟩)
    (c32 : PySem.W.codeIn K cd32 "_law_gone" = true)
    (k32 : PySem.W.keepIn K (.ref f32) = true)
    {f33 : Addr} {od33 an33 : Option Addr} {sl33 : Array (Option Value)} {oc33 kV33 dc33 pm33 cd33 ct33 : Value}
    (a33 : PySem.W.nsIn K mainGlobals "_law_next" = some (some (.ref f33)))
    (l33 : K.lookup f33 = some ⟨oc33, od33, .func (PySem.W.fnOf "_law_next" "_law_next" (defArgs s_next) (defBody s_next) (defScope s_next) .none kV33 dc33 pm33 an33 cd33 ct33), sl33⟩)
    (c33 : PySem.W.codeIn K cd33 "_law_next" = true)
    (k33 : PySem.W.keepIn K (.ref f33) = true)
    {f34 : Addr} {od34 an34 : Option Addr} {sl34 : Array (Option Value)} {oc34 kV34 dc34 pm34 cd34 ct34 : Value}
    (a34 : PySem.W.nsIn K mainGlobals "law" = some (some (.ref f34)))
    (l34 : K.lookup f34 = some ⟨oc34, od34, .func (PySem.W.fnOf "law" "law" (defArgs s_law) (defBody s_law) (defScope s_law) .none kV34 dc34 pm34 an34 cd34 ct34), sl34⟩)
    (c34 : PySem.W.codeIn K cd34 "law" = true)
    (k34 : PySem.W.keepIn K (.ref f34) = true)
    (z0 : PySem.W.nsIn K mainGlobals "abs" = some none)
    (z1 : PySem.W.nsIn K mainGlobals "enumerate" = some none)
    (z2 : PySem.W.nsIn K mainGlobals "int" = some none)
    (z3 : PySem.W.nsIn K mainGlobals "isinstance" = some none)
    (z4 : PySem.W.nsIn K mainGlobals "iter" = some none)
    (z5 : PySem.W.nsIn K mainGlobals "len" = some none)
    (z6 : PySem.W.nsIn K mainGlobals "list" = some none)
    (z7 : PySem.W.nsIn K mainGlobals "range" = some none)
    (z8 : PySem.W.nsIn K mainGlobals "str" = some none)
    (z9 : PySem.W.nsIn K mainGlobals "tuple" = some none)
    {w0 : Value}
    (y0 : PySem.W.nsIn K mainGlobals "MOST_NODES" = some (some w0))
    (x0 : ∃ t, w0 = .int 400 t)
    {U0 : Addr} {ud0 : Option Addr} {un0 : Nat} {us0 : Array (Option Value)} {ut0_0 : Tok} {ut0_1 : Tok} {ut0_2 : Tok}
    (ua0 : PySem.W.nsIn K mainGlobals "RULES" = some (some (.ref U0)))
    (ul0 : K.lookup U0 = some ⟨.type "tuple", ud0, .seq #[.str "none" ut0_0, .str "first" ut0_1, .str "near" ut0_2] un0, us0⟩)
    (cg0 : PySem.W.plainGet K C0 Str.empty = true)
    (ch0 : PySem.W.hasDictIn K C0 = true)
    (co0 : PySem.W.plainOver K C0 = true)
    (cs0 : PySem.W.findIn K (.ref C0) "__setattr__" = some (some (.builtin "object.__setattr__")))
    (cf0_0 : PySem.W.findIn K (.ref C0) "tree" = some none)
    (cf0_1 : PySem.W.findIn K (.ref C0) "nodes" = some none)
    (cf0_2 : PySem.W.findIn K (.ref C0) "above" = some none)
    (cf0_3 : PySem.W.findIn K (.ref C0) "order" = some none)
    (cm0 : PySem.W.makesIn K C0 = true)
    (ck0 : PySem.W.keepIn K (.ref C0) = true)
    (cg1 : PySem.W.plainGet K C1 Str.empty = true)
    (ch1 : PySem.W.hasDictIn K C1 = true)
    (co1 : PySem.W.plainOver K C1 = true)
    (cs1 : PySem.W.findIn K (.ref C1) "__setattr__" = some (some (.builtin "object.__setattr__")))
    (cf1_0 : PySem.W.findIn K (.ref C1) "rule" = some none)
    (cf1_1 : PySem.W.findIn K (.ref C1) "kept_page" = some none)
    (cf1_2 : PySem.W.findIn K (.ref C1) "marks" = some none)
    (cf1_3 : PySem.W.findIn K (.ref C1) "held" = some none)
    (cm1 : PySem.W.makesIn K C1 = true)
    (ck1 : PySem.W.keepIn K (.ref C1) = true)
    {file : Str}
    {E0 E1 : Addr}
    (xa0 : PySem.W.nsIn K mainGlobals "NoNode" = some (some (.ref E0)))
    (xa1 : PySem.W.nsIn K mainGlobals "BadRule" = some (some (.ref E1)))
    {R0 : Addr}
    (ra0 : PySem.W.nsIn K mainGlobals "ScreenError" = some (some (.ref R0)))
    (rb0 : PySem.W.isClsIn K R0 = true)
    (rc0 : PySem.W.typeIn K (.ref R0) = some (.type "type"))
    {J0 : Addr}
    {xnm0 xq0 : Str} {xN0 : Addr} {xbs0 xbm0 xsub0 : List Value} {xsn0 : List Str} {xab0 : Bool} {xcol0 : Option Bool} {xdd0 : Option Addr} {xm00 xm10 xm20 xm30 xm50 : Option Value}
    (xL0 : K.lookup E0 = some (excClassObj xnm0 xq0 E0 xN0 xbs0 xbm0 true xsn0 xsub0 xab0 xcol0 xdd0 xm00 xm10 xm20 xm30 xm50 "ValueError.__new__"))
    (xr0 : PySem.HandSPX.refsVE xbm0 = true)
    (xs0 : PySem.W.findIn K (.ref E0) "__setattr__" = some (some (.builtin "object.__setattr__")))
    (xg0 : PySem.W.findIn K (.ref E0) "__getattribute__" = some (some (.builtin "BaseException.__getattribute__")))
    (xh0 : PySem.W.findIn K (.ref E0) "__getattr__" = some none)
    (xf0 : PySem.W.findIn K (.ref E0) "mark" = some none)
    (xi0 : PySem.W.findIn K (.ref E0) "__init__" = some (some (.ref J0)))
    (xt0 : PySem.W.typeIn K (.ref J0) = some (.type "function"))
    {xoc0 xkV0 xdc0 xpm0 xct0 xccl0 xcl0 : Value} {xod0 xan0 xcdd0 xcld0 : Option Addr} {xsl0 xccs0 xcsl0 : Array (Option Value)} {cda0 cc0 : Addr} {xvs0 : Array Value} {xtf0 : Tok}
    (xl0 : K.lookup J0 = some ⟨xoc0, xod0, .func (PySem.W.ksFn "__init__" "NoNode.__init__" (defArgs s_NoNode_init) (defBody s_NoNode_init) (defScope s_NoNode_init) .none xkV0 xdc0 xpm0 xan0 (.ref cda0) xct0 cc0), xsl0⟩)
    (xd0 : PySem.W.codeIn K (.ref cda0) "NoNode.__init__" = true)
    (xe0 : K.lookup cda0 = some ⟨xccl0, xcdd0, .fields xvs0, xccs0⟩)
    (xv0 : xvs0[2]? = some (.str file xtf0))
    (xc0 : K.lookup cc0 = some ⟨xcl0, xcld0, .cell (some (.ref E0)), xcsl0⟩)
    (xk0 : PySem.W.keepIn K (.ref E0) = true)
    (xb0 : PySem.W.subIn K (.ref E0) (.type "BaseException") = some true)
    (xy0 : PySem.W.typeIn K (.ref E0) = some (.type "type"))
    (xj0 : PySem.W.hasDictIn K E0 = true)
    (xp0 : PySem.W.ks_superIn K E0 E0 "__init__" = some (some (.builtin "ValueError.__init__")))
    (xw0 : PySem.W.subIn K (.ref E0) (.type "ValueError") = some true)
    (xz0 : PySem.W.mroIn K E0 (.ref E0) = some true)
    (xo0 : PySem.W.nsIn K cStatics "thirdparty.any" = some none)
    (xu0 : PySem.W.nsIn K mainGlobals "super" = some none)
    (xca0 : PySem.W.findIn K (.ref E0) "__class__" = some (some (.builtin "object.__class__")))
    (xcb0 : PySem.W.specialIn K (.builtin "object.__class__") "__get__" = some (some (.builtin "getset_descriptor.__get__")))
    (xcc0 : PySem.W.takesIn K (.builtin "object.__class__") = some true)
    (xcd0 : PySem.W.mroIn K E0 (.type "object") = some true)
    (xn0_E1 : PySem.W.subIn K (.ref E0) (.ref E1) = some false)
    (xq0_E1 : (Value.ref E0 == Value.ref E1) = false)
    (xa0_0 : PySem.W.subIn K (.ref E0) (.ref R0) = some true)
    (xb0_0 : (Value.ref E0 == Value.ref R0) = false)
    (xsc0 : PySem.W.isClsIn K E0 = true)
    (xss0 : PySem.W.subIn K (.ref E0) (.ref E0) = some true)
    {J1 : Addr}
    {xnm1 xq1 : Str} {xN1 : Addr} {xbs1 xbm1 xsub1 : List Value} {xsn1 : List Str} {xab1 : Bool} {xcol1 : Option Bool} {xdd1 : Option Addr} {xm01 xm11 xm21 xm31 xm51 : Option Value}
    (xL1 : K.lookup E1 = some (excClassObj xnm1 xq1 E1 xN1 xbs1 xbm1 true xsn1 xsub1 xab1 xcol1 xdd1 xm01 xm11 xm21 xm31 xm51 "ValueError.__new__"))
    (xr1 : PySem.HandSPX.refsVE xbm1 = true)
    (xs1 : PySem.W.findIn K (.ref E1) "__setattr__" = some (some (.builtin "object.__setattr__")))
    (xg1 : PySem.W.findIn K (.ref E1) "__getattribute__" = some (some (.builtin "BaseException.__getattribute__")))
    (xh1 : PySem.W.findIn K (.ref E1) "__getattr__" = some none)
    (xf1 : PySem.W.findIn K (.ref E1) "rule" = some none)
    (xi1 : PySem.W.findIn K (.ref E1) "__init__" = some (some (.ref J1)))
    (xt1 : PySem.W.typeIn K (.ref J1) = some (.type "function"))
    {xoc1 xkV1 xdc1 xpm1 xct1 xccl1 xcl1 : Value} {xod1 xan1 xcdd1 xcld1 : Option Addr} {xsl1 xccs1 xcsl1 : Array (Option Value)} {cda1 cc1 : Addr} {xvs1 : Array Value} {xtf1 : Tok}
    (xl1 : K.lookup J1 = some ⟨xoc1, xod1, .func (PySem.W.ksFn "__init__" "BadRule.__init__" (defArgs s_BadRule_init) (defBody s_BadRule_init) (defScope s_BadRule_init) .none xkV1 xdc1 xpm1 xan1 (.ref cda1) xct1 cc1), xsl1⟩)
    (xd1 : PySem.W.codeIn K (.ref cda1) "BadRule.__init__" = true)
    (xe1 : K.lookup cda1 = some ⟨xccl1, xcdd1, .fields xvs1, xccs1⟩)
    (xv1 : xvs1[2]? = some (.str file xtf1))
    (xc1 : K.lookup cc1 = some ⟨xcl1, xcld1, .cell (some (.ref E1)), xcsl1⟩)
    (xk1 : PySem.W.keepIn K (.ref E1) = true)
    (xb1 : PySem.W.subIn K (.ref E1) (.type "BaseException") = some true)
    (xy1 : PySem.W.typeIn K (.ref E1) = some (.type "type"))
    (xj1 : PySem.W.hasDictIn K E1 = true)
    (xp1 : PySem.W.ks_superIn K E1 E1 "__init__" = some (some (.builtin "ValueError.__init__")))
    (xw1 : PySem.W.subIn K (.ref E1) (.type "ValueError") = some true)
    (xz1 : PySem.W.mroIn K E1 (.ref E1) = some true)
    (xo1 : PySem.W.nsIn K cStatics "thirdparty.any" = some none)
    (xu1 : PySem.W.nsIn K mainGlobals "super" = some none)
    (xca1 : PySem.W.findIn K (.ref E1) "__class__" = some (some (.builtin "object.__class__")))
    (xcb1 : PySem.W.specialIn K (.builtin "object.__class__") "__get__" = some (some (.builtin "getset_descriptor.__get__")))
    (xcc1 : PySem.W.takesIn K (.builtin "object.__class__") = some true)
    (xcd1 : PySem.W.mroIn K E1 (.type "object") = some true)
    (xn1_E0 : PySem.W.subIn K (.ref E1) (.ref E0) = some false)
    (xq1_E0 : (Value.ref E1 == Value.ref E0) = false)
    (xa1_0 : PySem.W.subIn K (.ref E1) (.ref R0) = some true)
    (xb1_0 : (Value.ref E1 == Value.ref R0) = false)
    (xsc1 : PySem.W.isClsIn K E1 = true)
    (xss1 : PySem.W.subIn K (.ref E1) (.ref E1) = some true)
    (nl0 : PySem.W.findIn K (.ref C0) "__len__" = some none)
    (nh0 : PySem.W.findIn K (.ref C0) "__length_hint__" = some none)
    : ∃ T : Top K mg W, T.a_law = f34 ∧ T.x_file = file ∧ ∀ (s : Shared) (v : Value), BindsTo s T.d_law ⟨[v], []⟩ [("_law_script", v)] := by
  have F0 := fun_mk (st := s_buttons) l0 c0 k0
  have F1 := fun_mk (st := s_moved_focus) l1 c1 k1
  have F2 : FunD K "__init__" "Focus.__init__" (defArgs s_Focus_init) (defBody s_Focus_init) (defScope s_Focus_init) [V.str "near"] [] f2 _ := ⟨⟨_, _, _, _, _, _, _, _, _, _, rfl, l2, c2, .inr ⟨by simp, dT2, _, [.str "near" dk2_0], _, rfl, dl2_, rfl, .cons ⟨_, rfl⟩ (.nil)⟩, .inl rfl⟩, k2⟩
  have F3 := fun_mk (st := s_Focus_page) l3 c3 k3
  have F4 := fun_mk (st := s_Focus_at) l4 c4 k4
  have F5 := fun_mk (st := s_Focus_at_set) l5 c5 k5
  have F6 := fun_mk (st := s_Focus_put) l6 c6 k6
  have F7 := fun_mk (st := s_Focus_step) l7 c7 k7
  have F8 := fun_mk (st := s_Focus_turn) l8 c8 k8
  have F9 := fun_mk (st := s_nodes_of) l9 c9 k9
  have F10 := fun_mk (st := s_Page_init) l10 c10 k10
  have F11 := fun_mk (st := s_Page_top) l11 c11 k11
  have F12 := fun_mk (st := s_Page_getitem) l12 c12 k12
  have F13 := fun_mk (st := s_Page_iter) l13 c13 k13
  have F14 := fun_mk (st := s_mixed) l14 c14 k14
  have F15 := fun_mk (st := s_bag) l15 c15 k15
  have F16 := fun_mk (st := s_pick) l16 c16 k16
  have F17 := fun_mk (st := s_choice) l17 c17 k17
  have F18 := fun_mk (st := s_mingled) l18 c18 k18
  have F19 := fun_mk (st := s_text) l19 c19 k19
  have F20 := fun_mk (st := s_label) l20 c20 k20
  have F21 := fun_mk (st := s_pressed) l21 c21 k21
  have F22 := fun_mk (st := s_marks) l22 c22 k22
  have F23 := fun_mk (st := s_flat) l23 c23 k23
  have F24 := fun_mk (st := s_grown) l24 c24 k24
  have F25 := fun_mk (st := s_fresh) l25 c25 k25
  have F26 := fun_mk (st := s_worn) l26 c26 k26
  have F27 := fun_mk (st := s_listed) l27 c27 k27
  have F28 := fun_mk (st := s_turned) l28 c28 k28
  have F29 := fun_mk (st := s_stepped) l29 c29 k29
  have F30 := fun_mk (st := s_refused) l30 c30 k30
  have F31 := fun_mk (st := s_deeds) l31 c31 k31
  have F32 := fun_mk (st := s_gone) l32 c32 k32
  have F33 := fun_mk (st := s_next) l33 c33 k33
  have F34 := fun_mk (st := s_law) l34 c34 k34
  exact ⟨⟨PySem.W.mg_none_of X G z0,
    PySem.W.mg_none_of X G z1,
    PySem.W.mg_none_of X G z2,
    PySem.W.mg_none_of X G z3,
    PySem.W.mg_none_of X G z4,
    PySem.W.mg_none_of X G z5,
    PySem.W.mg_none_of X G z6,
    PySem.W.mg_none_of X G z7,
    PySem.W.mg_none_of X G z8,
    PySem.W.mg_none_of X G z9,
    (by obtain ⟨t, e⟩ := x0; exact ⟨t, e ▸ PySem.W.mg_of X G y0⟩),
    f0,
    _,
    F0,
    F0.binds (ps := ["page"]) (fun _ _ _ _ _ _ us hl => match us, hl with | [_], _ => rfl),
    PySem.W.mg_of X G a0,
    f1,
    _,
    F1,
    F1.binds (ps := ["rule", "lost", "old", "new"]) (fun _ _ _ _ _ _ us hl => match us, hl with | [_, _, _, _], _ => rfl),
    PySem.W.mg_of X G a1,
    f2,
    _,
    F2,
    F2.binds1 (ps := ["self", "page", "rule"]) 2 0 (by simp) rfl (fun _ _ _ _ _ _ _ us its hl hi => match us, its, hl, hi with | [_, _], [_], _, _ => ⟨_, rfl, rfl⟩),
    (let ⟨_, h⟩ := F2.kbindsD (ps := ["self", "page", "rule"]) 2 ["rule"] (fun us its ws => us ++ ws) (by simp) (fun r1 _ r3 => r1.append r3) (fun _ _ _ _ _ _ _ us its ws h1 h2 h3 => match us, its, ws, h1, h2, h3 with | [_, _], [_], [_], _, _, _ => ⟨_, rfl, rfl⟩); h),
    (let ⟨ds, r, b⟩ := F2.binds1 (ps := ["self", "page", "rule"]) 3 1 (by simp) rfl (fun _ _ _ _ _ _ _ us its hl hi => match us, its, hl, hi with | [_, _, _], [_], _, _ => ⟨_, rfl, rfl⟩); match ds, r, b with | [], _, b => b),
    f3,
    _,
    F3,
    F3.binds (ps := ["self"]) (fun _ _ _ _ _ _ us hl => match us, hl with | [_], _ => rfl),
    f4,
    _,
    F4,
    F4.binds (ps := ["self"]) (fun _ _ _ _ _ _ us hl => match us, hl with | [_], _ => rfl),
    f5,
    _,
    F5,
    F5.binds (ps := ["self", "mark"]) (fun _ _ _ _ _ _ us hl => match us, hl with | [_, _], _ => rfl),
    f6,
    _,
    F6,
    F6.binds (ps := ["self", "mark"]) (fun _ _ _ _ _ _ us hl => match us, hl with | [_, _], _ => rfl),
    f7,
    _,
    F7,
    F7.binds (ps := ["self", "way"]) (fun _ _ _ _ _ _ us hl => match us, hl with | [_, _], _ => rfl),
    f8,
    _,
    F8,
    F8.binds (ps := ["self", "page"]) (fun _ _ _ _ _ _ us hl => match us, hl with | [_, _], _ => rfl),
    f9,
    _,
    F9,
    F9.binds (ps := ["root"]) (fun _ _ _ _ _ _ us hl => match us, hl with | [_], _ => rfl),
    PySem.W.mg_of X G a9,
    f10,
    _,
    F10,
    F10.binds (ps := ["self", "root"]) (fun _ _ _ _ _ _ us hl => match us, hl with | [_, _], _ => rfl),
    f11,
    _,
    F11,
    F11.binds (ps := ["self"]) (fun _ _ _ _ _ _ us hl => match us, hl with | [_], _ => rfl),
    f12,
    _,
    F12,
    F12.binds (ps := ["self", "mark"]) (fun _ _ _ _ _ _ us hl => match us, hl with | [_, _], _ => rfl),
    f13,
    _,
    F13,
    F13.binds (ps := ["self"]) (fun _ _ _ _ _ _ us hl => match us, hl with | [_], _ => rfl),
    f14,
    _,
    F14,
    F14.binds (ps := ["_law_number", "_law_turn"]) (fun _ _ _ _ _ _ us hl => match us, hl with | [_, _], _ => rfl),
    PySem.W.mg_of X G a14,
    f15,
    _,
    F15,
    F15.binds (ps := ["_law_script"]) (fun _ _ _ _ _ _ us hl => match us, hl with | [_], _ => rfl),
    PySem.W.mg_of X G a15,
    f16,
    _,
    F16,
    F16.binds (ps := ["_law_bag_here", "_law_many"]) (fun _ _ _ _ _ _ us hl => match us, hl with | [_, _], _ => rfl),
    PySem.W.mg_of X G a16,
    f17,
    _,
    F17,
    F17.binds (ps := ["_law_bag_here", "_law_things"]) (fun _ _ _ _ _ _ us hl => match us, hl with | [_, _], _ => rfl),
    PySem.W.mg_of X G a17,
    f18,
    _,
    F18,
    F18.binds (ps := ["_law_bag_here", "_law_things"]) (fun _ _ _ _ _ _ us hl => match us, hl with | [_, _], _ => rfl),
    PySem.W.mg_of X G a18,
    f19,
    _,
    F19,
    F19.binds (ps := ["_law_bag_here", "_law_least", "_law_most"]) (fun _ _ _ _ _ _ us hl => match us, hl with | [_, _, _], _ => rfl),
    PySem.W.mg_of X G a19,
    f20,
    _,
    F20,
    F20.binds (ps := ["_law_bag_here"]) (fun _ _ _ _ _ _ us hl => match us, hl with | [_], _ => rfl),
    PySem.W.mg_of X G a20,
    f21,
    _,
    F21,
    F21.binds (ps := ["_law_bag_here"]) (fun _ _ _ _ _ _ us hl => match us, hl with | [_], _ => rfl),
    PySem.W.mg_of X G a21,
    f22,
    _,
    F22,
    F22.binds (ps := ["_law_bag_here", "_law_count"]) (fun _ _ _ _ _ _ us hl => match us, hl with | [_, _], _ => rfl),
    PySem.W.mg_of X G a22,
    f23,
    _,
    F23,
    F23.binds (ps := ["_law_bag_here", "_law_marks_here", "_law_deepest"]) (fun _ _ _ _ _ _ us hl => match us, hl with | [_, _, _], _ => rfl),
    PySem.W.mg_of X G a23,
    f24,
    _,
    F24,
    F24.binds (ps := ["_law_flat_here"]) (fun _ _ _ _ _ _ us hl => match us, hl with | [_], _ => rfl),
    PySem.W.mg_of X G a24,
    f25,
    _,
    F25,
    F25.binds (ps := ["_law_bag_here", "_law_pool"]) (fun _ _ _ _ _ _ us hl => match us, hl with | [_, _], _ => rfl),
    PySem.W.mg_of X G a25,
    f26,
    _,
    F26,
    F26.binds (ps := ["_law_bag_here", "_law_flat_here", "_law_lost"]) (fun _ _ _ _ _ _ us hl => match us, hl with | [_, _, _], _ => rfl),
    PySem.W.mg_of X G a26,
    f27,
    _,
    F27,
    F27.binds (ps := ["_law_flat_here"]) (fun _ _ _ _ _ _ us hl => match us, hl with | [_], _ => rfl),
    PySem.W.mg_of X G a27,
    f28,
    _,
    F28,
    F28.binds (ps := ["_law_word", "_law_lost", "_law_old", "_law_new", "_law_told"]) (fun _ _ _ _ _ _ us hl => match us, hl with | [_, _, _, _, _], _ => rfl),
    PySem.W.mg_of X G a28,
    f29,
    _,
    F29,
    F29.binds (ps := ["_law_marks_here", "_law_at", "_law_way"]) (fun _ _ _ _ _ _ us hl => match us, hl with | [_, _, _], _ => rfl),
    PySem.W.mg_of X G a29,
    f30,
    _,
    F30,
    F30.binds (ps := ["_law_held", "_law_mark"]) (fun _ _ _ _ _ _ us hl => match us, hl with | [_, _], _ => rfl),
    PySem.W.mg_of X G a30,
    f31,
    _,
    F31,
    F31.binds (ps := ["_law_bag_here", "_law_one", "_law_pool"]) (fun _ _ _ _ _ _ us hl => match us, hl with | [_, _, _], _ => rfl),
    PySem.W.mg_of X G a31,
    f32,
    _,
    F32,
    F32.binds (ps := ["_law_one", "_law_after", "_law_page"]) (fun _ _ _ _ _ _ us hl => match us, hl with | [_, _, _], _ => rfl),
    PySem.W.mg_of X G a32,
    f33,
    _,
    F33,
    F33.binds (ps := ["_law_bag_here", "_law_flat_here", "_law_pool", "_law_lost"]) (fun _ _ _ _ _ _ us hl => match us, hl with | [_, _, _, _], _ => rfl),
    PySem.W.mg_of X G a33,
    f34,
    _,
    F34,
    F34.binds (ps := ["_law_script"]) (fun _ _ _ _ _ _ us hl => match us, hl with | [_], _ => rfl),
    PySem.W.mg_of X G a34,
    U0,
    PySem.W.mg_of X G ua0,
    fun H => .inr ⟨_, _, _, ul0, rfl, rfl, XL.sz, .cons ⟨_, rfl⟩ (.cons ⟨_, rfl⟩ (.cons ⟨_, rfl⟩ (.nil)))⟩,
    C0,
    PySem.W.mg_of X G ca0,
    ⟨cg0, ch0, co0, cs0⟩,
    cf0_0,
    cf0_1,
    cf0_2,
    cf0_3,
    ⟨cm0, a10, i10, ck0⟩,
    ⟨a12, i12, fi12⟩,
    ⟨a13, i13⟩,
    p11,
    ⟨a11, pg11, pt11, ⟨_, pc11⟩⟩,
    C1,
    PySem.W.mg_of X G ca1,
    ⟨cg1, ch1, co1, cs1⟩,
    cf1_0,
    cf1_1,
    cf1_2,
    cf1_3,
    ⟨cm1, a2, i2, ck1⟩,
    ⟨a6, i6, k6⟩,
    ⟨a7, i7, k7⟩,
    ⟨a8, i8, k8⟩,
    p3,
    ⟨a3, pg3, pt3, ⟨_, pc3⟩⟩,
    p4,
    ⟨a4, pg4, pt4, ⟨_, pc4⟩⟩,
    p5,
    ⟨a5, pt5, ⟨_, _, pc5⟩⟩,
    file,
    R0,
    PySem.W.mg_of X G ra0,
    E0,
    J0,
    PySem.W.mg_of X G xa0,
    fun P pf => { gC := PySem.W.mg_of X G xa0, cls := ⟨_, _, _, _, _, _, _, _, _, _, _, _, _, _, _, xL0, xr0⟩, sa := xs0, ga := xg0, gg := xh0, noN := xf0, iC := xi0, tC := xt0, kC := xk0, exC := xb0, tyC := xy0, hdC := xj0, fn := ⟨_, _, _, _, _, _, _, _, _, _, _, ⟨19, 17, 19, 21⟩, ⟨19, 23, 19, 27⟩, ⟨⟨20, 8, 20, 13⟩, ⟨20, 8, 20, 15⟩, ⟨20, 8, 20, 24⟩, ⟨20, 27, 20, 45⟩, ⟨20, 46, 20, 50⟩, ⟨20, 45, 20, 53⟩, ⟨20, 25, 20, 54⟩, ⟨20, 8, 20, 55⟩, ⟨20, 8, 20, 55⟩, ⟨21, 8, 21, 12⟩, ⟨21, 8, 21, 17⟩, ⟨21, 20, 21, 24⟩, ⟨21, 8, 21, 24⟩⟩, _, _, _, _, _, _, _, _, _, xl0, xd0, xe0, xv0, pf.1, xc0, ⟨_, fun _ => rfl⟩, fun _ _ => rfl⟩, sup := xp0, subV := xw0, mroS := xz0, opq := xo0, htop := pf.2, hsup := PySem.W.mg_none_of X G xu0, f1 := by decide, f2 := by decide, f3 := by decide, f4 := by decide, ml := by decide +kernel },
    ⟨xg0, xh0, xb0, xj0, xca0, xcb0, xcc0, xcd0⟩,
    ⟨xg0, xh0, xb0, xj0⟩,
    kit_of xb0_0 rb0 rc0 xa0_0,
    exm_of xb0 xsc0 xy0 xss0,
    E1,
    J1,
    PySem.W.mg_of X G xa1,
    fun P pf => { gC := PySem.W.mg_of X G xa1, cls := ⟨_, _, _, _, _, _, _, _, _, _, _, _, _, _, _, xL1, xr1⟩, sa := xs1, ga := xg1, gg := xh1, noN := xf1, iC := xi1, tC := xt1, kC := xk1, exC := xb1, tyC := xy1, hdC := xj1, fn := ⟨_, _, _, _, _, _, _, _, _, _, _, ⟨24, 17, 24, 21⟩, ⟨24, 23, 24, 27⟩, ⟨⟨25, 8, 25, 13⟩, ⟨25, 8, 25, 15⟩, ⟨25, 8, 25, 24⟩, ⟨25, 27, 25, 39⟩, ⟨25, 40, 25, 44⟩, ⟨25, 39, 25, 47⟩, ⟨25, 25, 25, 48⟩, ⟨25, 8, 25, 49⟩, ⟨25, 8, 25, 49⟩, ⟨26, 8, 26, 12⟩, ⟨26, 8, 26, 17⟩, ⟨26, 20, 26, 24⟩, ⟨26, 8, 26, 24⟩⟩, _, _, _, _, _, _, _, _, _, xl1, xd1, xe1, xv1, pf.1, xc1, ⟨_, fun _ => rfl⟩, fun _ _ => rfl⟩, sup := xp1, subV := xw1, mroS := xz1, opq := xo1, htop := pf.2, hsup := PySem.W.mg_none_of X G xu1, f1 := by decide, f2 := by decide, f3 := by decide, f4 := by decide, ml := by decide +kernel },
    ⟨xg1, xh1, xb1, xj1, xca1, xcb1, xcc1, xcd1⟩,
    ⟨xg1, xh1, xb1, xj1⟩,
    kit_of xb1_0 rb0 rc0 xa1_0,
    exm_of xb1 xsc1 xy1 xss1,
    kit_of xq0_E1 xsc1 xy1 xn0_E1,
    kit_of xq1_E0 xsc0 xy0 xn1_E0,
    nl0,
    nh0⟩, rfl, rfl, fun s v => .of_eq rfl⟩
end K22
open PySem PySem.W PyProof.Rows
set_option maxHeartbeats 0 in
theorem PySem.Challenge.cw_drawnanew_k22_whole_focus_holds : PySem.Challenge.rw_drawnanew_k22_whole_focus.Holds := by
  w_on; o_law; k_head; (case hw => w_witness2)
  k_fill
  refine L2.walk_of (l := PySem.Challenge.rw_drawnanew_k22_whole_focus) (n := 63) (k := 20) (x := "_law_script") (CX := fun _ => L2.CX0) (sp := fun w => K22.spLaw _) rfl (by decide) rfl ⟨rfl, by decide, by decide⟩ (fun w h Y => PySem.W.kIn_of Y) ?F (fun _ _ a ns hl _ hS => ⟨a, ns, rfl, hS, hl, fun _ => rfl⟩) (fun _ _ _ _ _ h => h)
  case F =>
    intro w mg fa h KX G hmg
    refine' K22.law_end KX G hmg (K22.top_mk (W := w) KX G ?ca0 ?ca1 ?a0 ?l0 ?c0 ?k0 ?a1 ?l1 ?c1 ?k1 ?a2 ?i2 ?l2 ?dl2_ ?c2 ?k2 ?a3 ?pg3 ?pt3 ?pc3 ?l3 ?c3 ?k3 ?a4 ?pg4 ?pt4 ?pc4 ?l4 ?c4 ?k4 ?a5 ?pt5 ?pc5 ?l5 ?c5 ?k5 ?a6 ?i6 ?l6 ?c6 ?k6 ?a7 ?i7 ?l7 ?c7 ?k7 ?a8 ?i8 ?l8 ?c8 ?k8 ?a9 ?l9 ?c9 ?k9 ?a10 ?i10 ?l10 ?c10 ?k10 ?a11 ?pg11 ?pt11 ?pc11 ?l11 ?c11 ?k11 ?a12 ?i12 ?fi12 ?l12 ?c12 ?k12 ?a13 ?i13 ?l13 ?c13 ?k13 ?a14 ?l14 ?c14 ?k14 ?a15 ?l15 ?c15 ?k15 ?a16 ?l16 ?c16 ?k16 ?a17 ?l17 ?c17 ?k17 ?a18 ?l18 ?c18 ?k18 ?a19 ?l19 ?c19 ?k19 ?a20 ?l20 ?c20 ?k20 ?a21 ?l21 ?c21 ?k21 ?a22 ?l22 ?c22 ?k22 ?a23 ?l23 ?c23 ?k23 ?a24 ?l24 ?c24 ?k24 ?a25 ?l25 ?c25 ?k25 ?a26 ?l26 ?c26 ?k26 ?a27 ?l27 ?c27 ?k27 ?a28 ?l28 ?c28 ?k28 ?a29 ?l29 ?c29 ?k29 ?a30 ?l30 ?c30 ?k30 ?a31 ?l31 ?c31 ?k31 ?a32 ?l32 ?c32 ?k32 ?a33 ?l33 ?c33 ?k33 ?a34 ?l34 ?c34 ?k34 ?z0 ?z1 ?z2 ?z3 ?z4 ?z5 ?z6 ?z7 ?z8 ?z9 ?y0 ?x0 ?ua0 ?ul0 ?cg0 ?ch0 ?co0 ?cs0 ?cf0_0 ?cf0_1 ?cf0_2 ?cf0_3 ?cm0 ?ck0 ?cg1 ?ch1 ?co1 ?cs1 ?cf1_0 ?cf1_1 ?cf1_2 ?cf1_3 ?cm1 ?ck1 ?xa0 ?xa1 ?ra0 ?rb0 ?rc0 ?xL0 ?xr0 ?xs0 ?xg0 ?xh0 ?xf0 ?xi0 ?xt0 ?xl0 ?xd0 ?xe0 ?xv0 ?xc0 ?xk0 ?xb0 ?xy0 ?xj0 ?xp0 ?xw0 ?xz0 ?xo0 ?xu0 ?xca0 ?xcb0 ?xcc0 ?xcd0 ?xn0_E1 ?xq0_E1 ?xa0_0 ?xb0_0 ?xsc0 ?xss0 ?xL1 ?xr1 ?xs1 ?xg1 ?xh1 ?xf1 ?xi1 ?xt1 ?xl1 ?xd1 ?xe1 ?xv1 ?xc1 ?xk1 ?xb1 ?xy1 ?xj1 ?xp1 ?xw1 ?xz1 ?xo1 ?xu1 ?xca1 ?xcb1 ?xcc1 ?xcd1 ?xn1_E0 ?xq1_E0 ?xa1_0 ?xb1_0 ?xsc1 ?xss1 ?nl0 ?nh0) ?pf
    (case ca0 => k_is)
    (case ca1 => k_is)
    (case a0 => k_is)
    (case l0 => k_is)
    (case c0 => k_is)
    (case k0 => k_is)
    (case a1 => k_is)
    (case l1 => k_is)
    (case c1 => k_is)
    (case k1 => k_is)
    (case a2 => k_is)
    (case i2 => k_is)
    (case l2 => k_is)
    (case dl2_ => k_is)
    (case c2 => k_is)
    (case k2 => k_is)
    (case a3 => k_is)
    (case pg3 => k_is)
    (case pt3 => k_is)
    (case pc3 => k_is)
    (case l3 => k_is)
    (case c3 => k_is)
    (case k3 => k_is)
    (case a4 => k_is)
    (case pg4 => k_is)
    (case pt4 => k_is)
    (case pc4 => k_is)
    (case l4 => k_is)
    (case c4 => k_is)
    (case k4 => k_is)
    (case a5 => k_is)
    (case pt5 => k_is)
    (case pc5 => k_is)
    (case l5 => k_is)
    (case c5 => k_is)
    (case k5 => k_is)
    (case a6 => k_is)
    (case i6 => k_is)
    (case l6 => k_is)
    (case c6 => k_is)
    (case k6 => k_is)
    (case a7 => k_is)
    (case i7 => k_is)
    (case l7 => k_is)
    (case c7 => k_is)
    (case k7 => k_is)
    (case a8 => k_is)
    (case i8 => k_is)
    (case l8 => k_is)
    (case c8 => k_is)
    (case k8 => k_is)
    (case a9 => k_is)
    (case l9 => k_is)
    (case c9 => k_is)
    (case k9 => k_is)
    (case a10 => k_is)
    (case i10 => k_is)
    (case l10 => k_is)
    (case c10 => k_is)
    (case k10 => k_is)
    (case a11 => k_is)
    (case pg11 => k_is)
    (case pt11 => k_is)
    (case pc11 => k_is)
    (case l11 => k_is)
    (case c11 => k_is)
    (case k11 => k_is)
    (case a12 => k_is)
    (case i12 => k_is)
    (case fi12 => k_is)
    (case l12 => k_is)
    (case c12 => k_is)
    (case k12 => k_is)
    (case a13 => k_is)
    (case i13 => k_is)
    (case l13 => k_is)
    (case c13 => k_is)
    (case k13 => k_is)
    (case a14 => k_is)
    (case l14 => k_is)
    (case c14 => k_is)
    (case k14 => k_is)
    (case a15 => k_is)
    (case l15 => k_is)
    (case c15 => k_is)
    (case k15 => k_is)
    (case a16 => k_is)
    (case l16 => k_is)
    (case c16 => k_is)
    (case k16 => k_is)
    (case a17 => k_is)
    (case l17 => k_is)
    (case c17 => k_is)
    (case k17 => k_is)
    (case a18 => k_is)
    (case l18 => k_is)
    (case c18 => k_is)
    (case k18 => k_is)
    (case a19 => k_is)
    (case l19 => k_is)
    (case c19 => k_is)
    (case k19 => k_is)
    (case a20 => k_is)
    (case l20 => k_is)
    (case c20 => k_is)
    (case k20 => k_is)
    (case a21 => k_is)
    (case l21 => k_is)
    (case c21 => k_is)
    (case k21 => k_is)
    (case a22 => k_is)
    (case l22 => k_is)
    (case c22 => k_is)
    (case k22 => k_is)
    (case a23 => k_is)
    (case l23 => k_is)
    (case c23 => k_is)
    (case k23 => k_is)
    (case a24 => k_is)
    (case l24 => k_is)
    (case c24 => k_is)
    (case k24 => k_is)
    (case a25 => k_is)
    (case l25 => k_is)
    (case c25 => k_is)
    (case k25 => k_is)
    (case a26 => k_is)
    (case l26 => k_is)
    (case c26 => k_is)
    (case k26 => k_is)
    (case a27 => k_is)
    (case l27 => k_is)
    (case c27 => k_is)
    (case k27 => k_is)
    (case a28 => k_is)
    (case l28 => k_is)
    (case c28 => k_is)
    (case k28 => k_is)
    (case a29 => k_is)
    (case l29 => k_is)
    (case c29 => k_is)
    (case k29 => k_is)
    (case a30 => k_is)
    (case l30 => k_is)
    (case c30 => k_is)
    (case k30 => k_is)
    (case a31 => k_is)
    (case l31 => k_is)
    (case c31 => k_is)
    (case k31 => k_is)
    (case a32 => k_is)
    (case l32 => k_is)
    (case c32 => k_is)
    (case k32 => k_is)
    (case a33 => k_is)
    (case l33 => k_is)
    (case c33 => k_is)
    (case k33 => k_is)
    (case a34 => k_is)
    (case l34 => k_is)
    (case c34 => k_is)
    (case k34 => k_is)
    (case z0 => k_is)
    (case z1 => k_is)
    (case z2 => k_is)
    (case z3 => k_is)
    (case z4 => k_is)
    (case z5 => k_is)
    (case z6 => k_is)
    (case z7 => k_is)
    (case z8 => k_is)
    (case z9 => k_is)
    (case y0 => k_is)
    (case x0 => exact ⟨_, rfl⟩)
    (case ua0 => k_is)
    (case ul0 => k_is)
    (case cg0 => k_is)
    (case ch0 => k_is)
    (case co0 => k_is)
    (case cs0 => k_is)
    (case cf0_0 => k_is)
    (case cf0_1 => k_is)
    (case cf0_2 => k_is)
    (case cf0_3 => k_is)
    (case cm0 => k_is)
    (case ck0 => k_is)
    (case cg1 => k_is)
    (case ch1 => k_is)
    (case co1 => k_is)
    (case cs1 => k_is)
    (case cf1_0 => k_is)
    (case cf1_1 => k_is)
    (case cf1_2 => k_is)
    (case cf1_3 => k_is)
    (case cm1 => k_is)
    (case ck1 => k_is)
    (case xa0 => k_is)
    (case xa1 => k_is)
    (case ra0 => k_is)
    (case rb0 => k_is)
    (case rc0 => k_is)
    (case xL0 => k_is)
    (case xr0 => first | rfl | decide +kernel)
    (case xs0 => k_is)
    (case xg0 => k_is)
    (case xh0 => k_is)
    (case xf0 => k_is)
    (case xi0 => k_is)
    (case xt0 => k_is)
    (case xl0 => k_is)
    (case xd0 => k_is)
    (case xe0 => k_is)
    (case xv0 => rfl)
    (case xc0 => k_is)
    (case xk0 => k_is)
    (case xb0 => k_is)
    (case xy0 => k_is)
    (case xj0 => k_is)
    (case xp0 => ks_is)
    (case xw0 => k_is)
    (case xz0 => k_is)
    (case xo0 => k_is)
    (case xu0 => k_is)
    (case xca0 => k_is)
    (case xcb0 => k_is)
    (case xcc0 => k_is)
    (case xcd0 => k_is)
    (case xn0_E1 => k_is)
    (case xq0_E1 => rfl)
    (case xa0_0 => k_is)
    (case xb0_0 => rfl)
    (case xsc0 => k_is)
    (case xss0 => k_is)
    (case xL1 => k_is)
    (case xr1 => first | rfl | decide +kernel)
    (case xs1 => k_is)
    (case xg1 => k_is)
    (case xh1 => k_is)
    (case xf1 => k_is)
    (case xi1 => k_is)
    (case xt1 => k_is)
    (case xl1 => k_is)
    (case xd1 => k_is)
    (case xe1 => k_is)
    (case xv1 => rfl)
    (case xc1 => k_is)
    (case xk1 => k_is)
    (case xb1 => k_is)
    (case xy1 => k_is)
    (case xj1 => k_is)
    (case xp1 => ks_is)
    (case xw1 => k_is)
    (case xz1 => k_is)
    (case xo1 => k_is)
    (case xu1 => k_is)
    (case xca1 => k_is)
    (case xcb1 => k_is)
    (case xcc1 => k_is)
    (case xcd1 => k_is)
    (case xn1_E0 => k_is)
    (case xq1_E0 => rfl)
    (case xa1_0 => k_is)
    (case xb1_0 => rfl)
    (case xsc1 => k_is)
    (case xss1 => k_is)
    (case nl0 => k_is)
    (case nh0 => k_is)
    (case pf => exact ⟨by first | rfl | decide +kernel, by first | rfl | decide +kernel⟩)
