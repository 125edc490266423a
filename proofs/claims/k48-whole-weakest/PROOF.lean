import PyProof.Rows.All
import Wide.All
import OpenK.AllK
import Wide.FinOn
import HandS.ForMost
import HandS.Flow
import HandS.IsInst
import HandS.Wide
import HandS.Walk
import PyProof.Rows.IntBool
import HandS.Property
import HandS.Star
import HandS.OwnEq
import HandS.SetFor
import KE.GoesEnum
import KE.GoesMore
import HandS.Strs
import HandS.Deep
import HandS.TupAny
import KE.KRevSl
import KE.KOpsOwn
import HandS.ForExc
import HandS.FStr
import HandS.ExcField
import HandS.ExcIs
import HandS.ExcSuper
import KE.KExcSuper
import KE.KExcIs
import HandS.OwnIter
import HandS.IterNext
import HandS.Text
import HandS.Zip
import HandS.HotCalls
import PyProof.ReprRoads
import HandS.Ends
import PyProof.AutoSeq1
import HandS.IterVal
import OpenK.KMake
import HandS.Defaults
import HandS.NoneIn
import HandS.Style
import OpenK.KWalk
import KE.KSuper
import HandS.DictTup
import HandS.DictComp
import PyProof.TupleKey
import PySem.Challenge.RW_drawnanew_k48_whole_weakest
set_option Elab.async false
set_option linter.all false
set_option maxRecDepth 100000
set_option maxHeartbeats 4000000
/-! XBase: readings that compute, over the hand layer; the heap cut into a part that only grows and cells that change. -/
namespace XL
open PySem PySem.Spec PyProof.Rows L2
abbrev St := L2.St

/-! ### a reading may be exchanged for a stronger one -/
theorem pe_str {X : Cx} {e : Expr} {t t' : TE} (h : PE X e t) (k : ∀ σ H Q, t' σ H Q → t σ H Q) : PE X e t' := ⟨fun pins s σ H Q I q => h.run pins s σ H Q I (k σ H Q q)⟩
theorem pt_str {X : Cx} {e : Expr} {t t' : TT} (h : PT X e t) (k : ∀ σ H Q, t' σ H Q → t σ H Q) : PT X e t' := ⟨fun pins s σ H Q I q => h.run pins s σ H Q I (k σ H Q q)⟩
theorem ps_str {X : Cx} {e : Stmt} {t t' : TS} (h : PS X e t) (k : ∀ D σ H, t' D σ H → t D σ H) : PS X e t' := ⟨fun pins s σ H D I q => h.run pins s σ H D I (k D σ H q)⟩
theorem or_str {X : Cx} {f : Value → Value → Sem Value} {r r' : R2} (h : OpR X f r) (k : ∀ x y H Q, r' x y H Q → r x y H Q) : OpR X f r' := fun pins s σ H x y v u Q I rx ry q => h pins s σ H x y v u Q I rx ry (k x y H Q q)
theorem cr_str {X : Cx} {f : Value} {r r' : List V → Hp → VK → Prop} (h : CallR X f r) (k : ∀ xs H Q, r' xs H Q → r xs H Q) : CallR X f r' := fun pins s σ H xs us Q I rx q => h pins s σ H xs us Q I rx (k xs H Q q)
theorem OpR.or {X : Cx} {f : Value → Value → Sem Value} {r r' : R2} (h : OpR X f r) (h' : OpR X f r') : OpR X f (fun x y H Q => r x y H Q ∨ r' x y H Q) := by
  intro pins s σ H x y v u Q I rx ry q
  rcases q with q | q
  · exact h pins s σ H x y v u Q I rx ry q
  · exact h' pins s σ H x y v u Q I rx ry q

/-! ### names -/
def nth : St → Nat → Option V
  | [], _ => none
  | x :: _, 0 => x
  | _ :: r, n + 1 => nth r n
theorem nth_get : ∀ {σ : St} {i : Nat} {v : V}, nth σ i = some v → σ[i]? = some (some v)
  | [], _, _, h => nomatch h
  | _ :: _, 0, _, h => congrArg some h
  | _ :: r, n + 1, _, h => by
    rw [List.getElem?_cons_succ]
    exact nth_get (σ := r) h
def xVar (i : Nat) : TE := fun σ H Q => match nth σ i with
  | some v => Q v H
  | none => False
section
variable {X : Cx} {a b c : Expr} {ta tb tc : TE} {pos : Pos} {tA tB' : TT} {rest : List Expr}
theorem xv (i : Nat) {x : Str} {pos : Pos} (hN : X.N[i]? = some x := by rfl) (hv : Vis X.env.scope x := by first | exact Or.inl rfl | exact Or.inr (Or.inl rfl) | exact Or.inr (Or.inr rfl)) (hd : (x == ("__debug__" : Str)) = false := by decide)
    (hcd : (x == ("__classdict__" : Str)) = false := by decide) : PE X (.Name x pos) (xVar i) := pe_str (pe_var hN hv hd hcd) fun σ H Q h => by
  unfold xVar at h
  cases e : nth σ i with
  | none => rw [e] at h; exact h.elim
  | some v => rw [e] at h; exact ⟨v, nth_get e, h⟩

/-! ### arithmetic -/
theorem op_mul_ib : OpR X (binaryOp .Mult) (fun x y H Q => ∃ i k, x = .int i ∧ y = .bl k ∧ Q (.int (i * b2i k)) H) := by
  intro pins s σ H x y v u Q I rx ry h
  obtain ⟨i, k, rfl, rfl, q⟩ := h
  obtain ⟨t, rfl⟩ := rx
  cases ry
  refine PySem.IntBool.mul_int_bool ?_
  have e : (if k = true then (1 : Int) else 0) = b2i k := by cases k <;> rfl
  rw [e]
  exact ⟨.int (i * b2i k), H, I.tok _, ⟨_, rfl⟩, q⟩
def yAdd : R2 := fun x y H Q => match x, y with
  | .int i, .int j => Q (.int (i + j)) H
  | .int i, .bl k => Q (.int (i + b2i k)) H
  | .str a, .str b => a.length + b.length ≤ sizeLine ∧ ∀ r : Str, r = a ++ b → Q (.str r) H
  | .ref l, .ref b => rCat (.ref l) (.ref b) H Q
  | _, _ => False
theorem op_addY : OpR X (binaryOp .Add) yAdd := by
  refine or_str (OpR.or (op_add (X := X)) (OpR.or (op_add_ib (X := X)) (OpR.or (op_add_str (X := X)) (op_cat (X := X))))) fun x y H Q h => ?_
  unfold yAdd at h
  split at h
  · exact .inl ⟨_, _, rfl, rfl, h⟩
  · exact .inr (.inl ⟨_, _, rfl, rfl, h⟩)
  · exact .inr (.inr (.inl ⟨_, _, rfl, rfl, h.1, h.2 _ rfl⟩))
  · exact .inr (.inr (.inr h))
  · exact h.elim
def ySub : R2 := fun x y H Q => match x, y with
  | .int i, .int j => Q (.int (i - j)) H
  | _, _ => False
theorem op_subY : OpR X (binaryOp .Sub) ySub := by
  refine or_str (op_sub (X := X)) fun x y H Q h => ?_
  unfold ySub at h
  split at h
  · exact ⟨_, _, rfl, rfl, h⟩
  · exact h.elim
def yMul : R2 := fun x y H Q => match x, y with
  | .int i, .int j => CMul i j ∧ Q (.int (i * j)) H
  | .int i, .bl k => Q (.int (i * b2i k)) H
  | .ref l, .int k => rRep (.ref l) (.int k) H Q
  | _, _ => False
theorem op_mulY : OpR X (binaryOp .Mult) yMul := by
  refine or_str (OpR.or (op_mul (X := X)) (OpR.or (op_mul_ib (X := X)) (op_rep (X := X)))) fun x y H Q h => ?_
  unfold yMul at h
  split at h
  · exact .inl ⟨_, _, rfl, rfl, h.1, h.2⟩
  · exact .inr (.inl ⟨_, _, rfl, rfl, h⟩)
  · exact .inr (.inr h)
  · exact h.elim
def yMod : R2 := fun x y H Q => match x, y with
  | .int i, .int j => 0 < j ∧ ∀ r : Int, r = i % j → 0 ≤ r → r < j → Q (.int r) H
  | _, _ => False
theorem op_modY : OpR X (binaryOp .Mod) yMod := by
  refine or_str (op_mod (X := X)) fun x y H Q h => ?_
  unfold yMod at h
  split at h
  · exact ⟨_, _, rfl, rfl, h.1, h.2 _ rfl (Int.emod_nonneg _ (by have := h.1; omega)) (Int.emod_lt_of_pos _ h.1)⟩
  · exact h.elim
def yDiv : R2 := fun x y H Q => match x, y with
  | .int i, .int j => (0 < j ∧ j < 1073741824) ∧ ∀ r : Int, r = i / j → (0 ≤ i → 0 ≤ r) → Q (.int r) H
  | _, _ => False
theorem op_divY : OpR X (binaryOp .FloorDiv) yDiv := by
  refine or_str (op_fdiv (X := X)) fun x y H Q h => ?_
  unfold yDiv at h
  split at h
  · exact ⟨_, _, rfl, rfl, h.1, h.2 _ rfl (fun h0 => Int.ediv_nonneg h0 (by have := h.1.1; omega))⟩
  · exact h.elim
def yPow : R2 := fun x y H Q => match x, y with
  | .int i, .int j => CPow i j ∧ ∀ r : Int, r = i ^ j.toNat → Q (.int r) H
  | _, _ => False
theorem op_powY : OpR X (binaryOp .Pow) yPow := by
  refine or_str (op_pow (X := X)) fun x y H Q h => ?_
  unfold yPow at h
  split at h
  · exact ⟨_, _, rfl, rfl, h.1, h.2 _ rfl⟩
  · exact h.elim

/-! ### comparisons -/
def yCmp (p : Int → Int → Bool) : R2 := fun x y H Q => match x, y with
  | .int i, .int j => Q (.bl (p i j)) H
  | _, _ => False
theorem yCmp_rI {p : Int → Int → Bool} {x y : V} {H : Hp} {Q : VK} (h : yCmp p x y H Q) : rI0 (fun i j => .bl (p i j)) x y H Q := by
  unfold yCmp at h
  split at h
  · exact ⟨_, _, rfl, rfl, h⟩
  · exact h.elim
theorem op_ltY : OpR X (compareOp .Lt) (yCmp fun i j => decide (i < j)) := or_str (op_lt (X := X)) fun _ _ _ _ h => yCmp_rI h
theorem op_leY : OpR X (compareOp .LtE) (yCmp fun i j => decide (i ≤ j)) := or_str (op_le (X := X)) fun _ _ _ _ h => yCmp_rI h
theorem op_gtY : OpR X (compareOp .Gt) (yCmp fun i j => decide (j < i)) := or_str (op_gt (X := X)) fun _ _ _ _ h => yCmp_rI h
theorem op_geY : OpR X (compareOp .GtE) (yCmp fun i j => decide (j ≤ i)) := or_str (op_ge (X := X)) fun _ _ _ _ h => yCmp_rI h
def yEq (K : PySem.W.Frag) : R2 := fun x y H Q => match x, y with
  | .int i, .int j => Q (.bl (decide (i = j))) H
  | .str i, .str j => Q (.bl (decide (i = j))) H
  | .bl i, .bl j => Q (.bl (decide (i = j))) H
  | .ref a, .ref b => rEqD K (.ref a) (.ref b) H Q
  | x, y => scal x y = true ∧ Q (.bl (decide (x = y))) H
def yNe (K : PySem.W.Frag) : R2 := fun x y H Q => match x, y with
  | .int i, .int j => Q (.bl (!decide (i = j))) H
  | .str i, .str j => Q (.bl (!decide (i = j))) H
  | .bl i, .bl j => Q (.bl (!decide (i = j))) H
  | .ref a, .ref b => rNeD K (.ref a) (.ref b) H Q
  | x, y => scal x y = true ∧ Q (.bl (!decide (x = y))) H
theorem deci {i j : Int} : decide (V.int i = V.int j) = decide (i = j) := by by_cases h : i = j <;> simp [h]
theorem decs {i j : Str} : decide (V.str i = V.str j) = decide (i = j) := by by_cases h : i = j <;> simp [h]
theorem decb {i j : Bool} : decide (V.bl i = V.bl j) = decide (i = j) := by by_cases h : i = j <;> simp [h]
theorem op_eqY (hu : X.A.units + 64 < cLine) : OpR X (compareOp .Eq) (yEq X.K) := by
  refine or_str (OpR.or (op_eq (X := X)) (op_eqD hu)) fun x y H Q h => ?_
  unfold yEq at h
  split at h
  · exact .inl ⟨rfl, by rw [deci]; exact h⟩
  · exact .inl ⟨rfl, by rw [decs]; exact h⟩
  · exact .inl ⟨rfl, by rw [decb]; exact h⟩
  · exact .inr h
  · exact .inl h
theorem op_neY (hu : X.A.units + 64 < cLine) : OpR X (compareOp .NotEq) (yNe X.K) := by
  refine or_str (OpR.or (op_ne (X := X)) (op_neD hu)) fun x y H Q h => ?_
  unfold yNe at h
  split at h
  · exact .inl ⟨rfl, by rw [deci]; exact h⟩
  · exact .inl ⟨rfl, by rw [decs]; exact h⟩
  · exact .inl ⟨rfl, by rw [decb]; exact h⟩
  · exact .inr h
  · exact .inl h

/-! ### tests -/
/-- a bool as a test -/
def xB (t : TE) : TT := fun σ H Q => t σ H fun x H1 => match x with
  | .bl c => Q c H1
  | _ => False
theorem pe_mono {X : Cx} {e : Expr} {t : TE} (_h : PE X e t) : True := trivial
theorem xt_cmp {op : CmpOp} {r : R2} (ho : OpR X (compareOp op) r) (ha : PE X a ta) (hb : PE X b tb) (hm : behindInMarks op b = false) : PT X (.Compare a [op] [b] pos) (xB (tOp r ta tb)) := by
  refine ⟨fun pins s σ H Q I h => ?_⟩
  refine wpAny_isTrue_Compare1 (thn (ha.run pins s σ H _ I h) fun v s1 ⟨x, H1, I1, r1, q1⟩ => thn (hb.run pins s1 σ H1 _ I1 q1) fun u s2 ⟨y, H2, I2, r2, q2⟩ =>
    thn (ho pins s2 σ H2 x y v u _ I2 r1 r2 q2) fun c s3 ⟨z, H3, I3, r3, q3⟩ => ?_) hm
  cases z with
  | bl k =>
    cases r3
    exact wpAny_truthy_bool ⟨H3, I3, q3⟩
  | _ => exact False.elim q3
theorem xt_val {e : Expr} {t : TE} (h : PE X e t) (he : ∀ whole, isTrue e X.env whole = (do let v ← whole; standAt e.pos; holding [v] (truthy v)) := by intro _; rfl) : PT X e (xB t) := by
  refine ⟨fun pins s σ H Q I hw => ?_⟩
  refine isTrue_plain (thn (h.run pins s σ H _ I hw) fun v s1 ⟨x, H1, I1, r1, q1⟩ => ?_) (he _)
  cases x with
  | bl k =>
    cases r1
    exact wpAny_truthy_bool ⟨H1, I1, q1⟩
  | _ => exact False.elim q1
/-- the truth of a value -/
def yTru (K : PySem.W.Frag) (x : V) (H : Hp) (Q : Bool → Hp → Prop) : Prop := match x with
  | .bl c => Q c H
  | .int i => Q (i != 0) H
  | .non => Q false H
  | x => ∃ k, TruV K x H k ∧ Q k H
def xTru (K : PySem.W.Frag) (t : TE) : TT := fun σ H Q => t σ H fun x H1 => yTru K x H1 Q
theorem xt_tru (ha : PE X a ta) (he : ∀ whole, isTrue a X.env whole = (do let v ← whole; standAt a.pos; holding [v] (truthy v)) := by intro _; rfl) : PT X a (xTru X.K ta) := by
  have hq : PE X a (fun σ H Q => ta σ H Q) := ha
  refine ⟨fun pins s σ H Q I hw => ?_⟩
  refine isTrue_plain (thn (ha.run pins s σ H _ I hw) fun v s1 ⟨x, H1, I1, r1, q1⟩ => ?_) (he _)
  have q2 : ∃ k, TruV X.K x H1 k ∧ Q k H1 := by
    change yTru X.K x H1 Q at q1
    unfold yTru at q1
    split at q1
    · exact ⟨_, rfl, q1⟩
    · exact ⟨_, rfl, q1⟩
    · exact ⟨_, rfl, q1⟩
    · exact q1
  exact tru_ok pins s1 σ H1 x v Q I1 r1 q2
def xAnd (t u : TT) : TT := fun σ H Q => t σ H fun c H1 => (c = true → u σ H1 Q) ∧ (c = false → Q false H1)
def xOr (t u : TT) : TT := fun σ H Q => t σ H fun c H1 => (c = true → Q true H1) ∧ (c = false → u σ H1 Q)
theorem xw_and (ha : PT X a tA) (hb : PW X (.BoolOp .And (b :: rest) pos) tB') : PW X (.BoolOp .And (a :: b :: rest) pos) (xAnd tA tB') := by
  refine ⟨fun wh pins s0 σ H Q J h => ?_⟩
  refine isTrue_and (thn (ha.run pins s0 σ H _ J h) fun k s2 ⟨H2, J2, q2⟩ => ?_)
  cases k with
  | true => exact hb.run wh pins s2 σ H2 Q J2 (q2.1 rfl)
  | false => exact ⟨H2, J2, q2.2 rfl⟩
theorem xw_or (ha : PT X a tA) (hb : PW X (.BoolOp .Or (b :: rest) pos) tB') : PW X (.BoolOp .Or (a :: b :: rest) pos) (xOr tA tB') := by
  refine ⟨fun wh pins s0 σ H Q J h => ?_⟩
  refine isTrue_or (thn (ha.run pins s0 σ H _ J h) fun k s2 ⟨H2, J2, q2⟩ => ?_)
  cases k with
  | true => exact ⟨H2, J2, q2.1 rfl⟩
  | false => exact hb.run wh pins s2 σ H2 Q J2 (q2.2 rfl)
/-- and, or, not as values: of bools -/
def xAndV (ta tb : TE) : TE := fun σ H Q => ta σ H fun x H1 => match x with
  | .bl c => (c = true → tb σ H1 Q) ∧ (c = false → Q (.bl false) H1)
  | _ => False
def xOrV (ta tb : TE) : TE := fun σ H Q => ta σ H fun x H1 => match x with
  | .bl c => (c = true → Q (.bl true) H1) ∧ (c = false → tb σ H1 Q)
  | _ => False
def xNotV (ta : TE) : TE := fun σ H Q => ta σ H fun x H1 => match x with
  | .bl c => Q (.bl (!c)) H1
  | _ => False
theorem xe_and (ha : PE X a ta) (hb : PE X (.BoolOp .And (b :: rest) pos) tb) : PE X (.BoolOp .And (a :: b :: rest) pos) (xAndV ta tb) := by
  refine ⟨fun pins s0 σ H Q J h => ?_⟩
  refine BoolOp_and (thn (ha.run pins s0 σ H _ J h) fun v s2 ⟨x, H2, J2, r2, q2⟩ => ?_)
  cases x with
  | bl k =>
    cases r2
    refine wpAny_truthy_bool ?_
    cases k with
    | true => exact hb.run pins s2 σ H2 Q J2 (q2.1 rfl)
    | false => exact ⟨.bl false, H2, J2, rfl, q2.2 rfl⟩
  | _ => exact False.elim q2
theorem xe_or (ha : PE X a ta) (hb : PE X (.BoolOp .Or (b :: rest) pos) tb) : PE X (.BoolOp .Or (a :: b :: rest) pos) (xOrV ta tb) := by
  refine ⟨fun pins s0 σ H Q J h => ?_⟩
  refine BoolOp_or (thn (ha.run pins s0 σ H _ J h) fun v s2 ⟨x, H2, J2, r2, q2⟩ => ?_)
  cases x with
  | bl k =>
    cases r2
    refine wpAny_truthy_bool ?_
    cases k with
    | true => exact ⟨.bl true, H2, J2, rfl, q2.1 rfl⟩
    | false => exact hb.run pins s2 σ H2 Q J2 (q2.2 rfl)
  | _ => exact False.elim q2
theorem xe_not (ha : PE X a ta) : PE X (.UnaryOp .Not a pos) (xNotV ta) := by
  refine ⟨fun pins s0 σ H Q J h => ?_⟩
  refine UnaryOp_ (thn (ha.run pins s0 σ H _ J h) fun v s2 ⟨x, H2, J2, r2, q2⟩ => ?_)
  cases x with
  | bl k =>
    cases r2
    exact not_of (wpAny_truthy_bool ⟨.bl (!k), H2, J2, rfl, q2⟩)
  | _ => exact False.elim q2
/-- a if t else b -/
def xIf (t : TT) (ta tb : TE) : TE := fun σ H Q => t σ H fun c H1 => (c = true → ta σ H1 Q) ∧ (c = false → tb σ H1 Q)
theorem xe_if {c : Expr} (hc : PT X c tA) (ha : PE X a ta) (hb : PE X b tb) : PE X (.IfExp c a b pos) (xIf tA ta tb) := by
  refine ⟨fun pins s0 σ H Q J h => ?_⟩
  refine wpAny_IfExp (thn (hc.run pins s0 σ H _ J h) fun k s2 ⟨H2, J2, q2⟩ => ?_)
  cases k with
  | true => exact ha.run pins s2 σ H2 Q J2 (q2.1 rfl)
  | false => exact hb.run pins s2 σ H2 Q J2 (q2.2 rfl)
/-- if t: .. else: .. -/
def xIfS (c : TT) (t u : TS) : TS := fun D σ H => c σ H fun b H1 => (b = true → t D σ H1) ∧ (b = false → u D σ H1)
theorem xs_if {c : Expr} {as bs : List Stmt} {tc : TT} {t u : TS} (hc : PT X c tc) (ha : PSs X as t) (hb : PSs X bs u) : PS X (.If c as bs pos) (xIfS tc t u) := by
  refine ⟨fun pins s0 σ H D J h => ?_⟩
  refine wpAny_If (thn (hc.run pins s0 σ H _ J h) fun k s2 ⟨H2, J2, q2⟩ => ?_)
  cases k with
  | true => exact ha.run pins s2 σ H2 D J2 (q2.1 rfl)
  | false => exact hb.run pins s2 σ H2 D J2 (q2.2 rfl)

/-! ### calls of built-ins -/
def yLen (K : PySem.W.Frag) : List V → Hp → VK → Prop := fun xs H Q => match xs with
  | [.str y] => y.length ≤ sizeLine ∧ Q (.int y.length) H
  | [.ref p] => ∃ ys, (SqL K H p ys ∨ SqT K H p ys) ∧ Q (.int ys.length) H
  | _ => False
theorem cr_len : CallR X (.builtin "len") (yLen X.K) := by
  refine cr_str (call_len (X := X)) fun xs H Q h => ?_
  unfold yLen at h
  split at h
  · exact ⟨_, _, rfl, ⟨h.1, rfl⟩, h.2⟩
  · obtain ⟨ys, hy, q⟩ := h
    rcases hy with hy | hy
    · exact ⟨_, _, rfl, .inl ⟨ys, hy, rfl⟩, q⟩
    · exact ⟨_, _, rfl, .inr ⟨ys, hy, rfl⟩, q⟩
  · exact h.elim
def yInt : List V → Hp → VK → Prop := fun xs H Q => match xs with
  | [.int i] => Q (.int i) H
  | [.bl k] => Q (.int (if k then 1 else 0)) H
  | [.str z] => ∃ n, PySem.intText? z = some n ∧ z.length ≤ 640 ∧ Q (.int n) H
  | _ => False
theorem cr_int : CallR X (.type "int") yInt := by
  refine cr_str (CallR.or (call_int1 (X := X)) (call_int_str (X := X))) fun xs H Q h => ?_
  unfold yInt at h
  split at h
  · exact .inl (.inl ⟨_, rfl, h⟩)
  · exact .inl (.inr ⟨_, rfl, h⟩)
  · obtain ⟨n, h1, h2, q⟩ := h
    exact .inr ⟨_, n, rfl, h1, h2, q⟩
  · exact h.elim
def yAbs : List V → Hp → VK → Prop := fun xs H Q => match xs with
  | [.int i] => Q (.int i.natAbs) H
  | _ => False
theorem cr_abs : CallR X (.builtin "abs") yAbs := by
  refine cr_str (call_abs (X := X)) fun xs H Q h => ?_
  unfold yAbs at h
  split at h
  · rename_i i
    refine ⟨i, rfl, ?_⟩
    have e : (if i < 0 then -i else i) = (i.natAbs : Int) := by split <;> omega
    rw [e]
    exact h
  · exact h.elim
def yStr : List V → Hp → VK → Prop := fun xs H Q => match xs with
  | [.int i] => i.natAbs.log2 < 1920 ∧ Q (.str (toString i)) H
  | _ => False
theorem cr_strI : CallR X (.type "str") yStr := by
  refine cr_str (call_str_int (X := X)) fun xs H Q h => ?_
  unfold yStr at h
  split at h
  · exact ⟨_, rfl, h.1, h.2⟩
  · exact h.elim
def yIx (K : PySem.W.Frag) : R2 := fun x y H Q => match x, y with
  | .ref p, .int i => ∃ xs v, (SqL K H p xs ∨ SqT K H p xs) ∧ atI xs i = some v ∧ Q v H
  | .str z, .int i => ∃ c, z.length ≤ sizeLine ∧ atI z.cps.toList i = some c ∧ Q (.str ⟨#[c]⟩) H
  | _, _ => False
theorem ix_y : IxR X (yIx X.K) := by
  intro value slice pins s σ H x y v u Q I rx ry h hs
  refine ix_seq (X := X) value slice pins s σ H x y v u Q I rx ry ?_ hs
  unfold yIx at h
  split at h
  · obtain ⟨xs, z, h1, h2, q⟩ := h
    rcases h1 with h1 | h1
    · exact .inl ⟨_, xs, _, z, rfl, rfl, h1, h2, q⟩
    · exact .inr (.inl ⟨_, xs, _, z, rfl, rfl, h1, h2, q⟩)
  · obtain ⟨k, h1, h2, q⟩ := h
    exact .inr (.inr ⟨_, _, k, rfl, rfl, h1, h2, q⟩)
  · exact h.elim
end

/-! ### the heap: what only grows, and the cells that change -/
def Sep (G : Hp) (M : List (Addr × HO)) (H : Hp) : Prop := Same G H ∧ (∀ p ∈ M, H p.1 = some p.2 ∧ G p.1 = none) ∧ (M.map (·.1)).Nodup
section
variable {G G' H H' : Hp} {M : List (Addr × HO)} {p a b : Addr} {o o' u : HO}
theorem same_upd (h : H p = none) : Same H (upd H p o) := fun b x e => by
  rw [upd_ne (ne_of_none e h)]
  exact e
theorem sep0 : Sep H [] H := ⟨Same.refl H, (fun _ h => nomatch h), List.nodup_nil⟩
theorem Sep.st (S : Sep G M H) (h : G a = some o) : H a = some o := S.1 a o h
theorem Sep.hd (S : Sep G ((a, o) :: M) H) : H a = some o := (S.2.1 _ List.mem_cons_self).1
theorem Sep.at (S : Sep G M H) (h : (a, o) ∈ M) : H a = some o := (S.2.1 _ h).1
theorem Sep.fresh (S : Sep G M H) (h : H p = none) : G p = none := S.1.free h
theorem Sep.new (S : Sep G M H) (h : H p = none) : Sep G ((p, o) :: M) (upd H p o) := by
  refine ⟨S.1.trans (same_upd h), fun q hq => ?_, ?_⟩
  · rcases List.mem_cons.mp hq with rfl | hq
    · exact ⟨upd_same, S.fresh h⟩
    · exact ⟨same_upd h _ _ (S.2.1 q hq).1, (S.2.1 q hq).2⟩
  · rw [List.map_cons, List.nodup_cons]
    refine ⟨fun hm => ?_, S.2.2⟩
    obtain ⟨q, hq, e⟩ := List.mem_map.mp hm
    have z := (S.2.1 q hq).1
    rw [e, h] at z
    cases z
theorem Sep.newG (S : Sep G M H) (h : H p = none) : Sep (upd G p o) M (upd H p o) := by
  refine ⟨fun b x e => ?_, fun q hq => ?_, S.2.2⟩
  · by_cases hb : b = p
    · subst hb
      rw [upd_same] at e ⊢
      exact e
    · rw [upd_ne hb] at e ⊢
      exact S.1 b x e
  · have z := S.2.1 q hq
    refine ⟨same_upd h _ _ z.1, ?_⟩
    rw [upd_ne (ne_of_none z.1 h)]
    exact z.2
theorem Sep.grow (S : Sep G M H) (h : H p = none) : Same G (upd G p o) := same_upd (S.fresh h)
theorem Sep.set (S : Sep G ((a, o) :: M) H) : Sep G ((a, o') :: M) (upd H a o') := by
  have hn := S.2.2
  rw [List.map_cons, List.nodup_cons] at hn
  have ha := S.2.1 _ List.mem_cons_self
  refine ⟨fun b x e => ?_, fun q hq => ?_, S.2.2⟩
  · rw [upd_ne (ne_of_none e ha.2)]
    exact S.1 b x e
  · rcases List.mem_cons.mp hq with rfl | hq
    · exact ⟨upd_same, ha.2⟩
    · refine ⟨?_, (S.2.1 q (List.mem_cons_of_mem _ hq)).2⟩
      rw [upd_ne (show q.1 ≠ a from fun e => hn.1 (by have z : q.1 ∈ M.map (·.1) := List.mem_map_of_mem hq
                                                      rw [e] at z; exact z))]
      exact (S.2.1 q (List.mem_cons_of_mem _ hq)).1
theorem Sep.frz (S : Sep G ((a, o) :: M) H) : Sep (upd G a o) M H := by
  have hn := S.2.2
  rw [List.map_cons, List.nodup_cons] at hn
  have ha := S.2.1 _ List.mem_cons_self
  refine ⟨fun b x e => ?_, fun q hq => ?_, hn.2⟩
  · by_cases hb : b = a
    · subst hb
      rw [upd_same] at e
      cases e
      exact ha.1
    · rw [upd_ne hb] at e
      exact S.1 b x e
  · have z := S.2.1 q (List.mem_cons_of_mem _ hq)
    refine ⟨z.1, ?_⟩
    rw [upd_ne (show q.1 ≠ a from fun e => hn.1 (by have z : q.1 ∈ M.map (·.1) := List.mem_map_of_mem hq
                                                    rw [e] at z; exact z))]
    exact z.2
theorem Sep.none (S : Sep G ((a, o) :: M) H) : G a = none := (S.2.1 _ List.mem_cons_self).2
theorem Sep.frzS (S : Sep G ((a, o) :: M) H) : Same G (upd G a o) := same_upd S.none
theorem Sep.drop {q : Addr × HO} (S : Sep G (q :: M) H) : Sep G M H := by
  have hn := S.2.2
  rw [List.map_cons, List.nodup_cons] at hn
  exact ⟨S.1, fun p hp => S.2.1 p (List.mem_cons_of_mem _ hp), hn.2⟩
theorem Sep.perm {M' : List (Addr × HO)} (S : Sep G M H) (h : M.Perm M') : Sep G M' H :=
  ⟨S.1, fun q hq => S.2.1 q (h.mem_iff.mpr hq), (h.map _).nodup_iff.mp S.2.2⟩
theorem Sep.sw {q r : Addr × HO} (S : Sep G (q :: r :: M) H) : Sep G (r :: q :: M) H := S.perm (List.Perm.swap _ _ _)
theorem same_l {K : PySem.W.Frag} {xs : List V} (e : Same H H') (h : SqL K H a xs) : SqL K H' a xs := e.seq h
theorem same_t {K : PySem.W.Frag} {xs : List V} (e : Same H H') (h : SqT K H a xs) : SqT K H' a xs := by
  rcases h with (h | ⟨o, h⟩) | h
  · exact .inl (.inl (e _ _ h))
  · exact .inl (.inr ⟨o, e _ _ h⟩)
  · exact .inr h
theorem Sep.l {K : PySem.W.Frag} {xs : List V} (S : Sep G M H) (h : SqL K G a xs) : SqL K H a xs := same_l S.1 h
theorem Sep.t {K : PySem.W.Frag} {xs : List V} (S : Sep G M H) (h : SqT K G a xs) : SqT K H a xs := same_t S.1 h
end
mutual
theorem dp_same {K : PySem.W.Frag} {H H' : Hp} (e : Same H H') : ∀ {d : PyData} {v : V}, Dp K H v d → Dp K H' v d
  | _, _, .non => .non
  | _, _, .bl b => .bl b
  | _, _, .int i => .int i
  | _, _, .str x => .str x
  | _, _, .lst h hs => .lst (same_l e h) (dpa_same e hs)
  | _, _, .tup h hs => .tup (same_t e h) (dpa_same e hs)
theorem dpa_same {K : PySem.W.Frag} {H H' : Hp} (e : Same H H') : ∀ {ds : List PyData} {vs : List V}, DpAll K H vs ds → DpAll K H' vs ds
  | _, _, .nil => .nil
  | _, _, .cons h hs => .cons (dp_same e h) (dpa_same e hs)
end

/-! ### loops by what has been gone through -/
theorem take_pre {α : Type} {xs : List α} {i : Nat} {x : α} (h : xs[i]? = some x) : xs = xs.take i ++ x :: xs.drop (i + 1) ∧ xs.take (i + 1) = xs.take i ++ [x] := by
  have hi : i < xs.length := (List.getElem?_eq_some_iff.mp h).1
  have e : xs[i] = x := (List.getElem?_eq_some_iff.mp h).2
  refine ⟨?_, ?_⟩
  · rw [← e, List.getElem_cons_drop, List.take_append_drop]
  · rw [List.take_add_one, h]
    rfl
section
variable {K : PySem.W.Frag} {a : Addr} {xs : List V} {g : TG} {tb : TS} {D : Ends} {σ : L2.St} {H : Hp}
theorem for_pre (Pv : List V → L2.St → Hp → Prop) (h0 : Pv [] σ H) (hl : ∀ pre σ H, Pv pre σ H → SqL K H a xs)
    (hs : ∀ pre x post σ H, xs = pre ++ x :: post → Pv pre σ H → g x σ H fun σ2 H2 => tb { D with nx := Pv (pre ++ [x]), ct := Pv (pre ++ [x]), bk := D.nx } σ2 H2) (hd : ∀ σ H, Pv xs σ H → D.nx σ H) :
    ∃ W : Nat → Nat → L2.St → Hp → Prop, (∃ m, W 0 m σ H) ∧ ∀ i m σ H, W i m σ H →
      ((Itl K a).stop i H ∧ D.nx σ H) ∨ ((Itl K a).go i H ∧ ∃ N : L2.St → Hp → Prop, (∀ σ' H', N σ' H' → ∃ m', m' < m ∧ W (i + 1) m' σ' H') ∧ ∀ x H', (Itl K a).yld i H x H' → g x σ H' fun σ2 H2 => tb { D with nx := N, ct := N, bk := D.nx } σ2 H2) :=
  for_list (fun i => Pv (xs.take i)) h0 (fun i σ H _ p => hl _ σ H p) (fun i x σ H hx p => by
    rw [(take_pre hx).2]
    exact hs _ x _ σ H (take_pre hx).1 p) (fun σ H p => hd σ H (by rw [List.take_length] at p; exact p))
theorem for_preT (Pv : List V → L2.St → Hp → Prop) (h0 : Pv [] σ H) (hl : ∀ pre σ H, Pv pre σ H → SqT K H a xs)
    (hs : ∀ pre x post σ H, xs = pre ++ x :: post → Pv pre σ H → g x σ H fun σ2 H2 => tb { D with nx := Pv (pre ++ [x]), ct := Pv (pre ++ [x]), bk := D.nx } σ2 H2) (hd : ∀ σ H, Pv xs σ H → D.nx σ H) :
    ∃ W : Nat → Nat → L2.St → Hp → Prop, (∃ m, W 0 m σ H) ∧ ∀ i m σ H, W i m σ H →
      ((Itt K a).stop i H ∧ D.nx σ H) ∨ ((Itt K a).go i H ∧ ∃ N : L2.St → Hp → Prop, (∀ σ' H', N σ' H' → ∃ m', m' < m ∧ W (i + 1) m' σ' H') ∧ ∀ x H', (Itt K a).yld i H x H' → g x σ H' fun σ2 H2 => tb { D with nx := N, ct := N, bk := D.nx } σ2 H2) :=
  for_tup (fun i => Pv (xs.take i)) h0 (fun i σ H _ p => hl _ σ H p) (fun i x σ H hx p => by
    rw [(take_pre hx).2]
    exact hs _ x _ σ H (take_pre hx).1 p) (fun σ H p => hd σ H (by rw [List.take_length] at p; exact p))
/-- for i, x in enumerate(xs) -/
theorem for_enum {i j : Nat} (Pv : List V → L2.St → Hp → Prop) (h0 : Pv [] σ H) (hl : ∀ pre σ H, Pv pre σ H → SqL K H a xs)
    (hs : ∀ pre x post σ H T, xs = pre ++ x :: post → Pv pre σ H → H T = none →
      tb { D with nx := Pv (pre ++ [x]), ct := Pv (pre ++ [x]), bk := D.nx } ((σ.set i (some (.int (pre.length : Nat)))).set j (some x)) (upd H T (.tup [.int (pre.length : Nat), x]))) (hd : ∀ σ H, Pv xs σ H → D.nx σ H) :
    ∃ W : Nat → Nat → L2.St → Hp → Prop, (∃ m, W 0 m σ H) ∧ ∀ k m σ H, W k m σ H →
      ((Ite K a).stop k H ∧ D.nx σ H) ∨ ((Ite K a).go k H ∧ ∃ N : L2.St → Hp → Prop, (∀ σ' H', N σ' H' → ∃ m', m' < m ∧ W (k + 1) m' σ' H') ∧ ∀ x H', (Ite K a).yld k H x H' →
        (gTup K 2 (gCons (gName i) (gCons (gName j) gNil))) x σ H' fun σ2 H2 => tb { D with nx := N, ct := N, bk := D.nx } σ2 H2) := by
  refine ⟨fun k m σ H => m = xs.length - k ∧ k ≤ xs.length ∧ Pv (xs.take k) σ H, ⟨xs.length, by simp, Nat.zero_le _, h0⟩, ?_⟩
  rintro k m σ H ⟨rfl, hk, p⟩
  have q := hl _ σ H p
  by_cases hlt : k < xs.length
  · refine .inr ⟨⟨xs, xs[k], q, by simp [hlt]⟩, Pv (xs.take (k + 1)), fun σ' H' p' => ⟨xs.length - (k + 1), by omega, rfl, hlt, p'⟩, fun v H' y => ?_⟩
    obtain ⟨T, x, rfl, nT, rfl, hx⟩ := y
    have hx := hx xs q
    refine ⟨T, _, rfl, SqT.of upd_same, rfl, _, _, rfl, _, _, rfl, rfl, ?_⟩
    have z := hs _ x _ σ H T (take_pre hx).1 p nT
    rw [(take_pre hx).2]
    rw [show (xs.take k).length = k by rw [List.length_take]; omega] at z
    exact z
  · have e : k = xs.length := by omega
    subst e
    rw [List.take_length] at p
    exact .inl ⟨⟨xs, q, Nat.le_refl _⟩, hd σ H p⟩
/-- [e for x in xs] -/
theorem lc_pre {te : TE} {vs : List Nat} {i : Nat} {H1 : Hp} {L : Addr} {Qd : Hp → Prop} (Pv : List V → Hp → Prop) (h0 : Pv [] (upd H1 L (.lst []))) (hl : ∀ pre H, Pv pre H → SqL K H a xs)
    (hw : ∀ x, wipe ((wipe σ vs).set i (some x)) vs = wipe σ vs)
    (hs : ∀ pre x post H, xs = pre ++ x :: post → Pv pre H → te ((wipe σ vs).set i (some x)) H fun y H4 => ∃ acc, H4 L = some (.lst acc) ∧ acc.length < sizeLine ∧ Pv (pre ++ [x]) (upd H4 L (.lst (acc ++ [y])))) (hd : ∀ H, Pv xs H → Qd H) :
    ∃ W : Nat → Nat → Hp → Prop, (∃ m, W 0 m (upd H1 L (.lst []))) ∧ ∀ k m H, W k m H →
      ((Itl K a).stop k H ∧ Qd H) ∨ ((Itl K a).go k H ∧ ∃ Nx : Hp → Prop, (∀ H', Nx H' → ∃ m', m' < m ∧ W (k + 1) m' H') ∧ ∀ x H', (Itl K a).yld k H x H' → gName i x (wipe σ vs) H' fun σ2 H2 => wipe σ2 vs = wipe σ vs ∧ tYes σ2 H2 fun b H3 =>
        if b = true then te σ2 H3 fun y H4 => ∃ acc, H4 L = some (.lst acc) ∧ acc.length < sizeLine ∧ Nx (upd H4 L (.lst (acc ++ [y]))) else Nx H3) :=
  lc_list (fun k => Pv (xs.take k)) h0 (fun k H _ p => hl _ H p) (fun k x H hx p => ⟨hw x, by
    rw [(take_pre hx).2]
    exact hs _ x _ H (take_pre hx).1 p⟩) (fun H p => hd H (by rw [List.take_length] at p; exact p))
/-- [e for x in range(n)] -/
theorem lc_rng {te : TE} {vs : List Nat} {i : Nat} {n : Nat} {lo : Int} {H1 : Hp} {L : Addr} {Qd : Hp → Prop} (Pv : Nat → Hp → Prop) (h0 : Pv 0 (upd H1 L (.lst [])))
    (hw : ∀ x, wipe ((wipe σ vs).set i (some x)) vs = wipe σ vs)
    (hs : ∀ k H, k < n → Pv k H → te ((wipe σ vs).set i (some (.int (lo + k)))) H fun y H4 => ∃ acc, H4 L = some (.lst acc) ∧ acc.length < sizeLine ∧ Pv (k + 1) (upd H4 L (.lst (acc ++ [y])))) (hd : ∀ H, Pv n H → Qd H) :
    ∃ W : Nat → Nat → Hp → Prop, (∃ m, W 0 m (upd H1 L (.lst []))) ∧ ∀ k m H, W k m H →
      ((Itr lo n).stop k H ∧ Qd H) ∨ ((Itr lo n).go k H ∧ ∃ Nx : Hp → Prop, (∀ H', Nx H' → ∃ m', m' < m ∧ W (k + 1) m' H') ∧ ∀ x H', (Itr lo n).yld k H x H' → gName i x (wipe σ vs) H' fun σ2 H2 => wipe σ2 vs = wipe σ vs ∧ tYes σ2 H2 fun b H3 =>
        if b = true then te σ2 H3 fun y H4 => ∃ acc, H4 L = some (.lst acc) ∧ acc.length < sizeLine ∧ Nx (upd H4 L (.lst (acc ++ [y]))) else Nx H3) :=
  lc_range (lo := lo) (n := n) Pv h0 (fun k H hk p => ⟨hw _, hs k H hk p⟩) hd
end
/-! ### places of lists -/
theorem atI_in {α : Type} {xs : List α} {i : Int} (h0 : 0 ≤ i) (h1 : i < xs.length) : ∃ v, atI xs i = some v ∧ v ∈ xs := by
  obtain ⟨j, rfl⟩ : ∃ j : Nat, i = (j : Int) := ⟨i.toNat, by omega⟩
  have hj : j < xs.length := by omega
  exact ⟨xs[j], atI_nat (List.getElem?_eq_getElem hj), List.getElem_mem hj⟩
theorem small {n : Nat} (h : n ≤ 100000) : n ≤ sizeLine := Nat.le_trans h (by decide)
theorem smallL {n : Nat} (h : n < 100000) : n < sizeLine := Nat.lt_of_lt_of_le h (by decide)
theorem sz {n : Nat} (h : Nat.ble n 100000 = true := by rfl) : n ≤ sizeLine := small (Nat.le_of_ble_eq_true h)
theorem seqIdx {i : Int} {n : Nat} (h0 : 0 ≤ i) (h1 : i < n) : seqIndex? i n = some i.toNat := by
  unfold seqIndex?
  have e : (if i < 0 then i + n else i) = i := by rw [if_neg (by omega)]
  simp only [e]
  rw [if_pos (by simp; omega)]
theorem atN {α : Type} {xs : List α} {i : Int} {v : α} (h0 : 0 ≤ i) (h : atI xs i = some v) : xs[i.toNat]? = some v := by
  obtain ⟨j, rfl⟩ : ∃ j : Nat, i = (j : Int) := ⟨i.toNat, by omega⟩
  unfold atI ixN at h
  rw [if_pos (by omega)] at h
  split at h
  · simpa using h
  · cases h
theorem mem_erase {α : Type} {xs : List α} {k : Nat} {y : α} (h : y ∈ xs.eraseIdx k) : y ∈ xs := List.mem_of_mem_eraseIdx h
/-- the i-th of a paired list -/
theorem prd_get {α β : Type} {F : α → β → Prop} : ∀ {xs : List α} {ys : List β} {i : Nat} {x : α}, Paired F xs ys → xs[i]? = some x → ∃ y, ys[i]? = some y ∧ F x y
  | _, _, _, _, .nil, h => by simp at h
  | _, _, 0, _, .cons r _, h => by
    simp at h
    subst h
    exact ⟨_, rfl, r⟩
  | _, _, i + 1, _, .cons _ t, h => by
    rw [List.getElem?_cons_succ] at h
    obtain ⟨y, h1, h2⟩ := prd_get t h
    exact ⟨y, by rw [List.getElem?_cons_succ]; exact h1, h2⟩
theorem prd_len {α β : Type} {F : α → β → Prop} : ∀ {xs : List α} {ys : List β}, Paired F xs ys → xs.length = ys.length
  | _, _, .nil => rfl
  | _, _, .cons _ t => congrArg (· + 1) (prd_len t)
theorem prd_imp {α β : Type} {F F' : α → β → Prop} (k : ∀ x y, F x y → F' x y) : ∀ {xs : List α} {ys : List β}, Paired F xs ys → Paired F' xs ys
  | _, _, .nil => .nil
  | _, _, .cons r t => .cons (k _ _ r) (prd_imp k t)
theorem prd_app {α β : Type} {F : α → β → Prop} : ∀ {xs xs' : List α} {ys ys' : List β}, Paired F xs ys → Paired F xs' ys' → Paired F (xs ++ xs') (ys ++ ys')
  | _, _, _, _, .nil, s => s
  | _, _, _, _, .cons r t, s => .cons r (prd_app t s)
theorem prd_take {α β : Type} {F : α → β → Prop} : ∀ {xs : List α} {ys : List β} (n : Nat), Paired F xs ys → Paired F (xs.take n) (ys.take n)
  | _, _, 0, _ => .nil
  | _, _, _ + 1, .nil => .nil
  | _, _, n + 1, .cons r t => .cons r (prd_take n t)
/-- each has a partner -/
theorem prd_ex {α β : Type} {F : α → β → Prop} : ∀ {xs : List α}, (∀ x ∈ xs, ∃ y, F x y) → ∃ ys, Paired F xs ys
  | [], _ => ⟨[], .nil⟩
  | x :: r, h => by
    obtain ⟨y, hy⟩ := h x List.mem_cons_self
    obtain ⟨ys, hs⟩ := prd_ex fun x hx => h x (List.mem_cons_of_mem _ hx)
    exact ⟨y :: ys, .cons hy hs⟩
theorem prd_mem {α β : Type} {F : α → β → Prop} {x : α} : ∀ {xs : List α} {ys : List β}, Paired F xs ys → x ∈ xs → ∃ y ∈ ys, F x y
  | _, _, .nil, h => nomatch h
  | _, _, .cons (b := b) r t, h => by
    rcases List.mem_cons.mp h with rfl | h
    · exact ⟨b, List.mem_cons_self, r⟩
    · obtain ⟨y, h1, h2⟩ := prd_mem t h
      exact ⟨y, List.mem_cons_of_mem _ h1, h2⟩
/-- a statement and what follows it, with a word J between them -/
def xCut (t u : TS) : TS := fun D σ H => ∃ J : L2.St → Hp → Prop, t { D with nx := J } σ H ∧ ∀ σ' H', J σ' H' → u D σ' H'
theorem xss_cut {X : Cx} {st : Stmt} {sts : List Stmt} {t u : TS} (h1 : PS X st t) (h2 : PSs X sts u) : PSs X (st :: sts) (xCut t u) := by
  refine ⟨fun pins s0 σ H D I h => ?_⟩
  obtain ⟨J, hj, hu⟩ := h
  refine wpAny_execs_cons (thn (h1.run pins s0 σ H { D with nx := J } I hj) fun fl s2 q => ?_)
  cases fl with
  | next =>
    obtain ⟨σ2, H2, I2, q2⟩ := q
    exact h2.run pins s2 σ2 H2 D I2 (hu σ2 H2 q2)
  | _ => exact q
section
variable {K : PySem.W.Frag} {a : Addr} {xs : List V} {σ : L2.St}
/-- [e for x in xs], by the turn -/
theorem lc_at {te : TE} {vs : List Nat} {i : Nat} {H1 : Hp} {L : Addr} {Qd : Hp → Prop} (Pv : Nat → Hp → Prop) (h0 : Pv 0 (upd H1 L (.lst []))) (hl : ∀ k H, Pv k H → SqL K H a xs)
    (hw : ∀ x, wipe ((wipe σ vs).set i (some x)) vs = wipe σ vs)
    (hs : ∀ k x H, xs[k]? = some x → Pv k H → te ((wipe σ vs).set i (some x)) H fun y H4 => ∃ acc, H4 L = some (.lst acc) ∧ acc.length < sizeLine ∧ Pv (k + 1) (upd H4 L (.lst (acc ++ [y])))) (hd : ∀ H, Pv xs.length H → Qd H) :
    ∃ W : Nat → Nat → Hp → Prop, (∃ m, W 0 m (upd H1 L (.lst []))) ∧ ∀ k m H, W k m H →
      ((Itl K a).stop k H ∧ Qd H) ∨ ((Itl K a).go k H ∧ ∃ Nx : Hp → Prop, (∀ H', Nx H' → ∃ m', m' < m ∧ W (k + 1) m' H') ∧ ∀ x H', (Itl K a).yld k H x H' → gName i x (wipe σ vs) H' fun σ2 H2 => wipe σ2 vs = wipe σ vs ∧ tYes σ2 H2 fun b H3 =>
        if b = true then te σ2 H3 fun y H4 => ∃ acc, H4 L = some (.lst acc) ∧ acc.length < sizeLine ∧ Nx (upd H4 L (.lst (acc ++ [y]))) else Nx H3) :=
  lc_list Pv h0 (fun k H _ p => hl _ H p) (fun k x H hx p => ⟨hw x, hs _ x H hx p⟩) hd
end
theorem take_snoc {α : Type} {xs : List α} {i : Nat} {x : α} (h : xs[i]? = some x) : xs.take (i + 1) = xs.take i ++ [x] := (take_pre h).2
theorem ff {A : Prop} (h : false = true) : A := nomatch h
theorem tt {A : Prop} (h : true = false) : A := nomatch h
/-! ### the same with the written part K said (within a comprehension the reading must not name its context) -/
section
variable {X : Cx} (K : PySem.W.Frag) {a b e o : Expr} {es : List Expr} {ta tb te to : TE} {t : TA} {pos : Pos} {tg : Expr}
theorem ix_k (h : X.K = K := by rfl) : IxR X (yIx K) := h ▸ ix_y
theorem cr_lenK (h : X.K = K := by rfl) : CallR X (.builtin "len") (yLen K) := h ▸ cr_len
theorem op_eqK (hu : X.A.units + 64 < cLine) (h : X.K = K := by rfl) : OpR X (compareOp .Eq) (yEq K) := h ▸ op_eqY hu
theorem op_neK (hu : X.A.units + 64 < cLine) (h : X.K = K := by rfl) : OpR X (compareOp .NotEq) (yNe K) := h ▸ op_neY hu
theorem xt_truK (ha : PE X a ta) (h : X.K = K := by rfl) (he : ∀ whole, isTrue a X.env whole = (do let v ← whole; standAt a.pos; holding [v] (truthy v)) := by intro _; rfl) : PT X a (xTru K ta) := h ▸ xt_tru ha he
theorem call_isK (h : X.K = K := by rfl) : CallR X (.builtin "isinstance") (rIsi K) := h ▸ call_isi
def yList (K : PySem.W.Frag) : List V → Hp → VK → Prop := fun xs H Q => ∃ p ys, xs = [.ref p] ∧ (SqL K H p ys ∨ SqT K H p ys) ∧ ∀ l, H l = none → Q (.ref l) (upd H l (.lst ys))
theorem call_listK (h : X.K = K := by rfl) : CallR X (.type "list") (yList K) := h ▸ call_list_of
def yTup (K : PySem.W.Frag) : List V → Hp → VK → Prop := fun xs H Q => ∃ p ys, xs = [.ref p] ∧ ((SqL K H p ys ∧ ∀ l, H l = none → Q (.ref l) (upd H l (.tup ys))) ∨ (SqT K H p ys ∧ Q (.ref p) H))
theorem call_tupleK (h : X.K = K := by rfl) : CallR X (.type "tuple") (yTup K) := h ▸ call_tuple_of
theorem cr_sumK (hc : X.calm = true) (h : X.K = K := by rfl) : CallR X (.builtin "sum") (rSum K) := h ▸ cr_sum hc
theorem sl_listK (h : X.K = K := by rfl) : SlR X (rSlL K) := h ▸ sl_list
theorem pi_listK (ha : PE X a ta) (h : X.K = K := by rfl) : PI X tg a (iList K ta) := h ▸ pi_list ha
theorem pi_tupK (ha : PE X a ta) (h : X.K = K := by rfl) : PI X tg a (iTup K ta) := h ▸ pi_tup ha
theorem pe_bmK {T id : String} {name : Str} {apos cpos : Pos} {r : V → List V → Hp → VK → Prop} (pa : PlainAttrs T) (slot : Slot T name id) (hty : typeOf (.builtin id) = pure (.type "method_descriptor")) (hm : MtR X id r) (ho : PE X o to) (ha : PA X (e :: es) t) (hK : X.K = K := by rfl)
    (hbase : attributeBase o name X.env (eval o X.env) = eval o X.env := by rfl)
    (hfew : ((backTo cpos (starEach (e :: es) X.env)).all (fun x => !x.1) && (backToKw cpos (keywordEach [] X.env)).all (fun x => x.1.isSome)
      && decide ((e :: es).length + ([] : List Keyword).length + (if ([] : List Keyword).isEmpty then 0 else 1) < 30)) = true := by rfl)
    (hline : (apos.endLine == cpos.line) = true := by rfl) (hs : starEach (e :: es) X.env = (false, eval e X.env) :: starEach es X.env := by rfl) (hplain : (backTo cpos (starEach es X.env)).any (·.1) = false := by rfl) :
    PE X (.Call (.Attribute o name apos) (e :: es) [] cpos) (tBM K T r to t) := hK ▸ pe_bm pa slot hty hm ho ha hbase hfew hline hs hplain
end
section
variable {X : Cx} {a b c o : Expr} {ta tb tc : TE} {pos : Pos}
/-- a op1 b op2 c, b asked once -/
def xChain (r r' : R2) (ta tb tc : TE) : TE := fun σ H Q => ta σ H fun x H1 => tb σ H1 fun y H2 => r x y H2 fun z H3 => match z with
  | .bl k => (k = true → tc σ H3 fun w' H4 => r' y w' H4 Q) ∧ (k = false → Q (.bl false) H3)
  | _ => False
theorem xe_chain {op op' : CmpOp} {r r' : R2} (ho : OpR X (compareOp op) r) (ho' : OpR X (compareOp op') r') (ha : PE X a ta) (hb : PE X b tb) (hc : PE X c tc)
    (hm : lastMarks [op, op'] [b, c] = false := by with_unfolding_all rfl) : PE X (.Compare a [op, op'] [b, c] pos) (xChain r r' ta tb tc) := by
  refine ⟨fun pins s0 σ H Q J h => ?_⟩
  refine Compare_chain (thn (ha.run pins s0 σ H _ J h) fun v s1 ⟨x, H1, J1, r1, q1⟩ => chain_link (thn (hb.run pins s1 σ H1 _ J1 q1) fun u s2 ⟨y, H2, J2, r2, q2⟩ =>
    thn (ho pins s2 σ H2 x y v u _ J2 r1 r2 q2) fun d s3 ⟨z, H3, J3, r3, q3⟩ => ?_)) hm
  cases z with
  | bl k =>
    cases r3
    refine wpAny_truthy_bool ?_
    cases k with
    | false => exact ite_ff ⟨.bl false, H3, J3, rfl, q3.2 rfl⟩
    | true => exact ite_tt (chain_last (thn (hc.run pins s3 σ H3 _ J3 (q3.1 rfl)) fun w' s4 ⟨z', H4, J4, r4, q4⟩ => ho' pins s4 σ H4 y z' u w' Q J4 r2 r4 q4))
  | _ => exact False.elim q3
theorem xt_chain {op op' : CmpOp} {r r' : R2} (ho : OpR X (compareOp op) r) (ho' : OpR X (compareOp op') r') (ha : PE X a ta) (hb : PE X b tb) (hc : PE X c tc)
    (hm : lastMarks [op, op'] [b, c] = false := by with_unfolding_all rfl) : PT X (.Compare a [op, op'] [b, c] pos) (xB (xChain r r' ta tb tc)) := by
  refine ⟨fun pins s0 σ H Q J h => ?_⟩
  refine isTrue_chain (thn (ha.run pins s0 σ H _ J h) fun v s1 ⟨x, H1, J1, r1, q1⟩ => test_link (thn (hb.run pins s1 σ H1 _ J1 q1) fun u s2 ⟨y, H2, J2, r2, q2⟩ =>
    thn (ho pins s2 σ H2 x y v u _ J2 r1 r2 q2) fun d s3 ⟨z, H3, J3, r3, q3⟩ => ?_)) hm
  cases z with
  | bl k =>
    cases r3
    refine wpAny_truthy_bool ?_
    cases k with
    | false => exact ite_ff ⟨H3, J3, q3.2 rfl⟩
    | true =>
      refine ite_tt (test_last (thn (hc.run pins s3 σ H3 _ J3 (q3.1 rfl)) fun w' s4 ⟨z', H4, J4, r4, q4⟩ => thn (ho' pins s4 σ H4 y z' u w' _ J4 r2 r4 q4) fun d' s5 ⟨z2, H5, J5, r5, q5⟩ => ?_))
      cases z2 with
      | bl k2 =>
        cases r5
        exact wpAny_truthy_bool ⟨H5, J5, q5⟩
      | _ => exact False.elim q5
  | _ => exact False.elim q3
/-- while: a word with its measure -/
def xWhile (c : TT) (tb : TS) : TS := fun D σ H => ∃ W : Nat → L2.St → Hp → Prop, (∃ m, W m σ H) ∧ ∀ m σ H, W m σ H → c σ H fun b H1 =>
  (b = true → tb { D with nx := fun σ' H' => ∃ m', m' < m ∧ W m' σ' H', ct := fun σ' H' => ∃ m', m' < m ∧ W m' σ' H', bk := D.nx } σ H1) ∧ (b = false → D.nx σ H1)
theorem xs_while {c : Expr} {body : List Stmt} {tc : TT} {tb : TS} (hp : PassesOwn (model X.prog X.w) X.A X.env X.xe) (hc : PT X c tc) (hb : PSs X body tb) : PS X (.While c body [] pos) (xWhile tc tb) := by
  refine ⟨fun pins s0 σ H D J h => ?_⟩
  obtain ⟨W, ⟨m0, w0⟩, turn⟩ := h
  refine wpAny_While (codeAny_whileLoop (fun n s' => ∃ σ' H', L2.Inv X pins σ' H' s' ∧ W n σ' H') ?_ m0 ⟨σ, H, J, w0⟩)
  rintro n s1 ⟨σ1, H1, J1, w1⟩
  refine wpAny_passesOwn hp (thn (hc.run pins s1 σ1 H1 _ J1 (turn n σ1 H1 w1)) fun k s2 ⟨H2, J2, q2⟩ => ?_)
  cases k with
  | true =>
    rw [if_pos rfl]
    refine wpAny_passesOwn hp (thn (hb.run pins s2 σ1 H2 _ J2 (q2.1 rfl)) fun f s3 q3 => ?_)
    cases f with
    | next =>
      obtain ⟨σ3, H3, J3, m', hm, w3⟩ := q3
      exact ⟨m', hm, σ3, H3, J3, w3⟩
    | cont =>
      obtain ⟨σ3, H3, J3, m', hm, w3⟩ := q3
      exact ⟨m', hm, σ3, H3, J3, w3⟩
    | brk => exact q3
    | ret v => exact q3
  | false =>
    rw [if_neg Bool.false_ne_true]
    exact wpAny_execs_nil ⟨σ1, H2, J2, q2.2 rfl⟩
/-- a comparison by an own method (__le__ ..) of two instances of C -/
def yOwn (C : Addr) (sp : Sp) (E : XK) : R2 := fun x y H Q => ∃ a b dx dy fs gs, x = .ref a ∧ y = .ref b ∧ H a = some (.ins C dx fs) ∧ H b = some (.ins C dy gs) ∧ sp [.ref a, .ref b] H Q E
theorem op_own {CX : CXT} {C f : Addr} {fd : FuncData} {ps : List Str} {sp : Sp} {E : XK} {op : CmpOp} {n : Nat} (hop : compareOp op = richCompare op) (F : FnOk X.prog X.w X.K X.mg X.base CX n f fd ps sp)
    (hs : PySem.W.findIn X.K (.ref C) (cmpInfo op).2.1 = some (some (.ref f))) (hf : PySem.W.isFn X.K (.ref f) = true) (hb : Binds X.K fd ps []) (hx : Passes CX X E) (hr : Room n X.A) : OpR X (compareOp op) (yOwn C sp E) := by
  intro pins s σ H x y u v Q I rx ry h
  obtain ⟨a, b, dx, dy, fs, gs, rfl, rfl, ha, hb', hsp⟩ := h
  cases rx
  cases ry
  rw [hop]
  obtain ⟨mA, J1, _⟩ := ins_get I.hok ha
  obtain ⟨mB, J2, _⟩ := ins_get I.hok hb'
  obtain ⟨od, J1, _⟩ := J1.look
  obtain ⟨od', J2, _⟩ := J2.look
  obtain ⟨m, hF⟩ := I.fr
  refine PySem.W.cmp_K (op := op) (tb := .ref C) hr.units0 hF I.ok.mod.kin J1 J2.type (by simp [PySem.W.notFirst]) hs hf ?_
  have hl := F.len _ _ _ _ hsp
  refine wpAny_mono (run_fn (us := [.ref a, .ref b]) (vs := [.ref a, .ref b]) (dvs := []) F hr hb .nil hx I (.cons rfl (.cons rfl .nil)) hsp) (fun v s' q => ?_) fun _ _ e => e
  obtain ⟨z, H', I', rz, q⟩ := q
  have fin : EP X pins σ Q v s' := ⟨z, H', I', rz, q⟩
  cases v <;> first | exact fin | (cases z <;> first | exact absurd (show _ = _ from rz) (by intro e; cases e) | (obtain ⟨_, e⟩ := rz; cases e))
variable (K : PySem.W.Frag)
theorem pe_fldK {f : Str} (ha : PE X a ta) (hb : attributeBase a f X.env (eval a X.env) = eval a X.env := by rfl) (h : X.K = K := by rfl) : PE X (.Attribute a f pos) (tFld K ta f) := h ▸ pe_fld ha hb
theorem in_seqK (h : X.K = K := by rfl) : OpR X (compareOp .In) (rIn K false) := h ▸ op_in_seq
theorem notin_seqK (h : X.K = K := by rfl) : OpR X (compareOp .NotIn) (rIn K true) := h ▸ op_notIn_seq
theorem mt_countK (h : X.K = K := by rfl) : MtR X "list.count" (rCntI K) := h ▸ mt_lcount
theorem cr_allK (hc : X.calm = true) (h : X.K = K := by rfl) : CallR X (.builtin "all") (rAll K) := h ▸ cr_all hc
theorem cr_anyK (hc : X.calm = true) (h : X.K = K := by rfl) : CallR X (.builtin "any") (rAny K) := h ▸ cr_any hc
end
theorem xe_glob {X : Cx} {x z : Str} {pos : Pos} (hg : Gl X x) (hm : ∃ t, X.mg x = some (.str z t)) (hd : (x == ("__debug__" : Str)) = false := by decide) : PE X (.Name x pos) (tC (.str z)) := by
  obtain ⟨t, hm⟩ := hm
  exact pe_glob hg hm ⟨_, rfl⟩ hd
theorem xe_globI {X : Cx} {x : Str} {z : Int} {pos : Pos} (hg : Gl X x) (hm : ∃ t, X.mg x = some (.int z t)) (hd : (x == ("__debug__" : Str)) = false := by decide) : PE X (.Name x pos) (tC (.int z)) := by
  obtain ⟨t, hm⟩ := hm
  exact pe_glob hg hm ⟨_, rfl⟩ hd
theorem prd_unsnoc {α β : Type} {F : α → β → Prop} {x : α} : ∀ {xs : List α} {ys : List β}, Paired F (xs ++ [x]) ys → ∃ ys' y, ys = ys' ++ [y] ∧ Paired F xs ys' ∧ F x y
  | [], _, .cons r .nil => ⟨[], _, rfl, .nil, r⟩
  | _ :: xs, _, .cons (b := b) r t => by
    obtain ⟨ys', y, rfl, h1, h2⟩ := prd_unsnoc (xs := xs) t
    exact ⟨b :: ys', y, rfl, .cons r h1, h2⟩
theorem nil_or_snoc {α : Type} (xs : List α) : xs = [] ∨ ∃ ys y, xs = ys ++ [y] := by
  rcases List.eq_nil_or_concat xs with h | ⟨ys, y, h⟩
  · exact .inl h
  · exact .inr ⟨ys, y, by simpa using h⟩
theorem pg_tupK {X : Cx} (K : PySem.W.Frag) (n : Nat) {es : List Expr} {k : Nat} {pos : Pos} {t : TGs} (h : PGs X es t) (hc : X.calm = true := by rfl) (hK : X.K = K := by rfl)
    (hn : (assignEach es X.env).length = n := by rfl) (hst : (assignEach es X.env).findIdx? (·.1) = none := by rfl) : PG X (.Tuple es k pos) (gTup K n t) := hK ▸ pg_tup hc h hn hst
theorem perm_erase {α : Type} : ∀ {xs : List α} {i : Nat} {x : α}, xs[i]? = some x → (x :: xs.eraseIdx i).Perm xs
  | [], _, _, h => by simp at h
  | y :: r, 0, x, h => by
    simp at h
    subst h
    exact List.Perm.refl _
  | y :: r, i + 1, x, h => by
    rw [List.getElem?_cons_succ] at h
    exact (List.Perm.swap _ _ _).trans (List.Perm.cons _ (perm_erase h))
theorem Sep.new2 {G H : Hp} {M : List (Addr × HO)} {x dx : Addr} {o u : HO} (S : Sep G M H) (h1 : H x = Option.none) (h2 : H dx = Option.none) (ne : dx ≠ x) : Sep G ((x, o) :: (dx, u) :: M) (upd (upd H dx u) x o) :=
  (S.new h2).new (by rw [upd_ne (Ne.symm ne)]; exact h1)
end XL
set_option Elab.async false
set_option linter.all false
set_option maxRecDepth 100000
set_option maxHeartbeats 4000000
/-! XIter: enumerate of a tuple. -/
namespace XL
open PySem PySem.Spec PyProof.Rows L2
theorem meets_enum1 {v : Value} {o : Obj} {Hq : Heap → Prop} (B : Begins v o Hq) :
    Meets (Builtin.«enumerate.__new__» ⟨[.type "enumerate", v], []⟩) (fun _ R s => Hq s.heap ∧
      R (.ok (.ret (.ref (s.heap.push o).objs.size))) { s with heap := (s.heap.push o).push { cls := .type "enumerate", data := .fields #[.none, .bool false, .ref s.heap.objs.size, rawInt 0, .none, .none] } }) :=
  .of_wp fun prog w A R s z => by
    obtain ⟨hp, g, d, tk, os⟩ := s
    obtain ⟨z1, z2⟩ := z
    have hsub := sub_enumerate
    have begin1 : ∀ {A' : Around} {E : Value → Shared → Prop} {Q : Value → Shared → Prop}, Q (.ref hp.objs.size) ⟨hp.push o, g, d, tk, os⟩ → wpAny (model prog w) A' (pyIter v) Q E ⟨hp, g, d, tk, os⟩ := fun q => B.iter prog w _ _ ⟨hp, g, d, tk, os⟩ _ z1 q
    wp_walk using begin1
    refine wpAny_stack_any fun st => wpAny_pure ?_
    split
    · rename_i c _ _ _ _ _
      cases (c == Value.type "enumerate") <;> (wp_walk using begin1; exact ⟨_, rfl, z2⟩)
    · wp_walk using begin1
      exact ⟨_, rfl, z2⟩
theorem call_enum1 {prog : Program} {w : World} {A : Around} {E : Value → Shared → Prop} {s : Shared} {v : Value} {o : Obj} {Hq : Heap → Prop} {Q : Value → Shared → Prop} (B : Begins v o Hq) (h1 : Hq s.heap)
    (k : ∀ h', IsEnum h' (s.heap.objs.size + 1) s.heap.objs.size 0 .none → h'.get? s.heap.objs.size = some o → (∀ b o, s.heap.get? b = some o → h'.get? b = some o) → Q (.ref (s.heap.objs.size + 1)) { s with heap := h' }) :
    wpAny (model prog w) A (call (.type "enumerate") [v]) Q E s := by
  refine callType_new F.called_enumerate (by decide) (F.typeCall_enumerate_1 _) (F.newCall_enumerate_1 _) (fun ob => F.args_object_init_2 ob _) F.entry_enumerate_new (meets_enum1 B) ⟨h1, ?_⟩
  have hz : (s.heap.push o).objs.size = s.heap.objs.size + 1 := Heap.size_push ..
  show _ ∧ _
  rw [hz]
  have he : IsEnum ((s.heap.push o).push { cls := .type "enumerate", data := .fields #[.none, .bool false, .ref s.heap.objs.size, rawInt 0, .none, .none] }) (s.heap.objs.size + 1) s.heap.objs.size 0 .none := by
    have z := Heap.get?_push_size (s.heap.push o) (o := { cls := .type "enumerate", data := .fields #[.none, .bool false, .ref s.heap.objs.size, rawInt 0, .none, .none] }) rfl
    rw [hz] at z
    exact z
  exact ⟨⟨_, he, rfl⟩, k _ he (Heap.get?_push_of_some _ (Heap.get?_push_size _ B.free)) fun b o x => Heap.get?_push_of_some _ (Heap.get?_push_of_some _ x)⟩
/-- the tuple at a, each item in a new pair -/
def IteT (K : PySem.W.Frag) (a : Addr) : It :=
  ⟨fun i H => ∃ (xs : List V) (x : V), SqT K H a xs ∧ xs[i]? = some x, fun i H v H' => ∃ T x, v = .ref T ∧ H T = none ∧ H' = upd H T (.tup [.int (i : Nat), x]) ∧ ∀ xs, SqT K H a xs → xs[i]? = some x, fun i H => ∃ xs : List V, SqT K H a xs ∧ xs.length ≤ i⟩
theorem turn_enumT {P : Program} {w : World} {K : PySem.W.Frag} {elts : List Expr} {kk : Nat} {tpos : Pos} (a e it : Addr) (hai : a ≠ it) (hae : a ≠ e) :
    Turn P w K (.Tuple elts kk tpos) (IteT K a) [e, it] e (fun i h => (∃ old, IsEnum h e it ((i : Nat) : Int) old) ∧ h.IsTupleIter it a i ∧ e ≠ it) where
  mem := by simp
  obj := fun i h st b hb => by
    obtain ⟨⟨old, he⟩, ⟨o, ho, hc, hd⟩, _⟩ := st
    have q : b = e ∨ b = it := by simpa using hb
    rcases q with z | z
    · rw [z]; exact ⟨_, he, fun v q => nomatch q⟩
    · rw [z]; exact ⟨o, ho, fun v q => by rw [hd] at q; cases q⟩
  keep := fun i h h' st k => let ⟨⟨old, he⟩, hi, hne⟩ := st; ⟨⟨old, k e (by simp) _ he⟩, hi.at fun o q => k it (by simp) o q, hne⟩
  item := by
    intro X hP hw hK hc i pins s σ H E I hf st hg
    subst hP hw hK
    obtain ⟨⟨old, he⟩, hit, hne⟩ := st
    obtain ⟨xs, x, hq, hx⟩ := hg
    obtain ⟨its, rv, p, hz⟩ := I.tuple hq
    obtain ⟨u, hu, ru⟩ := rv.get hx
    have hel : e < s.heap.objs.size := Heap.lt_size he
    have hil : it < s.heap.objs.size := by obtain ⟨_, q, _⟩ := hit; exact Heap.lt_size q
    have hlen : i < its.toArray.size := by
      have z := (List.getElem?_eq_some_iff.mp hu).1
      simpa using z
    refine wpAny_pyNext_enum_itemC (c := ((i : Nat) : Int)) (Draws.tuple (A := X.A.in1) (I.ok.hd hc) it a hai its.toArray) he ⟨hit, p⟩ hlen hne (by simp; exact ⟨hne, fun z => hae z.symm⟩) fun y h' tk hy ho st' hT hsz hk => ?_
    have ey : y = u := by
      have z : its[i]? = some y := by simpa using hy
      rw [hu] at z
      exact (Option.some.inj z).symm
    subst ey
    refine ⟨_, rfl, wpAny_letOwnedTupleGo_enum (s := { s with heap := h', toks := tk + 1 }) ho fun h'' he' sb => ?_⟩
    have hT2 : h''.get? s.heap.objs.size = some { cls := .type "tuple", data := .seq #[.int i tk, y] } := (sb.2 _ (Nat.ne_of_gt hel)).trans hT
    have new : ObjOk X.prog X.w (upd H s.heap.objs.size (.tup [.int (i : Nat), x])) h'' s.heap.objs.size (.tup [.int (i : Nat), x]) :=
      ⟨by show 2 ≤ sizeLine; decide, [.int i tk, y], .cons ⟨_, rfl⟩ (.cons ru .nil), ⟨_, hT2, rfl, _, rfl⟩⟩
    have I1 : L2.Inv X pins σ (upd H s.heap.objs.size (.tup [.int (i : Nat), x])) { s with heap := h'', toks := tk + 1 } :=
      I.turnedNew (ch := [e, it]) (fun b ob hb q => (sb.2 b (fun z => hb (by simp [z]))).trans (hk b ob (fun z => hb (by simp [z])) (fun z => hb (by simp [z])) q)) hf (Nat.le_refl _) new
    refine ⟨.ref s.heap.objs.size, _, I1, rfl, ⟨_, x, rfl, I.hok.fresh (Nat.le_refl _), rfl, fun ys hy => by rw [I.tuple_inj hy hq]; exact hx⟩, ⟨⟨y, ?_⟩, st'.1.at fun o q => (sb.2 it (Ne.symm hne)).trans q, hne⟩, fun b hb => ?_⟩
    · have e1 : ((i + 1 : Nat) : Int) = (i : Int) + 1 := by omega
      rw [e1]; exact he'
    · have hb2 : b < s.heap.objs.size := by
        have q : b = e ∨ b = it := by simpa using hb
        rcases q with z | z
        · rw [z]; exact hel
        · rw [z]; exact hil
      rw [upd_ne (Nat.ne_of_lt hb2)]
      exact (hf b hb).1
  done := by
    intro X hP hw hK hc i pins s σ H E I hf st hg
    subst hP hw hK
    obtain ⟨⟨old, he⟩, hit, hne⟩ := st
    obtain ⟨xs, hq, hx⟩ := hg
    obtain ⟨its, rv, p, hz⟩ := I.tuple hq
    obtain ⟨f0, f1, f2, f3, f4, f5⟩ := hf it (by simp)
    have hl := rv.length
    have D := Draws.tuple (prog := X.prog) (w := X.w) (A := X.A.in1) (I.ok.hd hc) it a hai its.toArray
    by_cases hi : i = its.toArray.size
    · subst hi
      exact wpAny_pyNext_enum_endD D he ⟨hit, p⟩ fun h' eb => ⟨rfl, I.turned (t' := s.toks) (fun b o hb q => eb b o hb q) f0 f1 f3 f4 f5⟩
    · have D2 : Draws X.prog X.w X.A.in1 it [it, a] i (fun _ _ => False) (fun j h => (j = i ∨ False) ∧ h.IsTupleIter it a i ∧ h.IsTuple a its.toArray) := {
        live := fun _ _ st => let ⟨o, ho, _⟩ := st.2.1; ⟨o, ho⟩
        frame := fun _ _ _ st hk => ⟨st.1, st.2.1.at fun o e => hk it (by simp) o e, st.2.2.at fun o e => hk a (by simp) o e⟩
        item := fun j s Q E hj st hQ => by
          rcases st.1 with z | z
          · omega
          · exact z.elim
        done := fun s Q E st hE => wpAny_nextOf_tuple_end (I.ok.hd hc) st.2.1 st.2.2 (by
          simp only [List.getElem?_toArray]
          exact List.getElem?_eq_none_iff.mpr (by omega)) hE }
      exact wpAny_pyNext_enum_endD D2 he ⟨.inl rfl, hit, p⟩ fun h' eb => ⟨rfl, I.turned (t' := s.toks) (fun b o hb q => eb b o hb q) f0 f1 f3 f4 f5⟩
  self := fun A i s Q E st h => let ⟨⟨_, he⟩, _⟩ := st; wpAny_pyIter_enum he h
def iEnumT (K : PySem.W.Frag) (ta : TA) : TI := fun σ H R => ta σ H fun vs H1 => ∃ a xs, vs = [.ref a] ∧ SqT K H1 a xs ∧ R (IteT K a) H1
theorem pi_enumT {X : Cx} {e : Expr} {ta : TA} {p pos tpos : Pos} {elts : List Expr} {kk : Nat} (hg : Gl X "enumerate") (hm : X.mg "enumerate" = none) (ha : PA X [e] ta) (hs : starEach [e] X.env = [(false, eval e X.env)] := by rfl) :
    PI X (.Tuple elts kk tpos) (.Call (.Name "enumerate" p) [e] [] pos) (iEnumT X.K ta) := by
  refine ⟨fun pins s σ H R I h => ?_⟩
  refine Call_ (ld_blt I hg hm boot_enumerate (PyProof.Rows.callWith_type1 (thn (ha.run pos pins s σ H _ I h) fun us s1 ⟨vs, H1, I1, r1, q1⟩ => ?_) hs rfl))
  obtain ⟨a, xs, ex, hq, q⟩ := q1
  subst ex
  cases r1 with
  | cons r rr =>
    cases rr
    cases r
    obtain ⟨its, rv, p', hz⟩ := I1.tuple hq
    have hal : a < s1.heap.objs.size := by obtain ⟨o, ho, _⟩ := p'; exact Heap.lt_size ho
    refine call_enum1 (begins_tuple a its.toArray) p' fun h' he hit hk => wpAny_pyIter_enum he ?_
    have I2 : L2.Inv X pins σ H1 { s1 with heap := h' } := I1.kept (t' := s1.toks) hk
    refine ⟨s1.heap.objs.size + 1, [s1.heap.objs.size + 1, s1.heap.objs.size], _, _, H1, rfl, I2, turn_enumT a (s1.heap.objs.size + 1) s1.heap.objs.size (Nat.ne_of_lt hal) (Nat.ne_of_lt (Nat.lt_succ_of_lt hal)), ⟨⟨.none, he⟩, ⟨_, hit, rfl, rfl⟩, Nat.succ_ne_self _⟩, fun b hb => ?_, q⟩
    have q' : b = s1.heap.objs.size + 1 ∨ b = s1.heap.objs.size := by simpa using hb
    have hle : s1.heap.objs.size ≤ b := by
      rcases q' with z | z
      · rw [z]; exact Nat.le_add_right _ _
      · rw [z]; exact Nat.le_refl _
    exact I1.fpOk hle (I1.hok.fresh hle)
theorem for_enumT {K : PySem.W.Frag} {a : Addr} {xs : List V} {tb : TS} {D : Ends} {σ : L2.St} {H : Hp} {i j : Nat} (Pv : Nat → L2.St → Hp → Prop) (h0 : Pv 0 σ H) (hl : ∀ k σ H, Pv k σ H → SqT K H a xs)
    (hs : ∀ k x σ H T, xs[k]? = some x → Pv k σ H → H T = none →
      tb { D with nx := Pv (k + 1), ct := Pv (k + 1), bk := D.nx } ((σ.set i (some (.int (k : Nat)))).set j (some x)) (upd H T (.tup [.int (k : Nat), x]))) (hd : ∀ σ H, Pv xs.length σ H → D.nx σ H) :
    ∃ W : Nat → Nat → L2.St → Hp → Prop, (∃ m, W 0 m σ H) ∧ ∀ k m σ H, W k m σ H →
      ((IteT K a).stop k H ∧ D.nx σ H) ∨ ((IteT K a).go k H ∧ ∃ N : L2.St → Hp → Prop, (∀ σ' H', N σ' H' → ∃ m', m' < m ∧ W (k + 1) m' σ' H') ∧ ∀ x H', (IteT K a).yld k H x H' →
        (gTup K 2 (gCons (gName i) (gCons (gName j) gNil))) x σ H' fun σ2 H2 => tb { D with nx := N, ct := N, bk := D.nx } σ2 H2) := by
  refine ⟨fun k m σ H => m = xs.length - k ∧ k ≤ xs.length ∧ Pv k σ H, ⟨xs.length, by simp, Nat.zero_le _, h0⟩, ?_⟩
  rintro k m σ H ⟨rfl, hk, p⟩
  have q := hl _ σ H p
  by_cases hlt : k < xs.length
  · refine .inr ⟨⟨xs, xs[k], q, by simp [hlt]⟩, Pv (k + 1), fun σ' H' p' => ⟨xs.length - (k + 1), by omega, rfl, hlt, p'⟩, fun v H' y => ?_⟩
    obtain ⟨T, x, rfl, nT, rfl, hx⟩ := y
    refine ⟨T, _, rfl, SqT.of upd_same, rfl, _, _, rfl, _, _, rfl, rfl, ?_⟩
    exact hs k x σ H T (hx xs q) p nT
  · have e : k = xs.length := by omega
    subst e
    exact .inl ⟨⟨xs, q, Nat.le_refl _⟩, hd σ H p⟩
end XL
set_option Elab.async false
set_option linter.all false
set_option maxRecDepth 100000
set_option maxHeartbeats 4000000
/-! XDeep: x in t, t.index(x), items data of any depth, t a list or a tuple. -/
namespace XL
open PySem PySem.Spec PyProof.Rows L2
section
variable {X : Cx} (K : PySem.W.Frag)
def rInX (K : PySem.W.Frag) (neg : Bool) : R2 := fun x y H Q => ∃ d ds, Dp K H x d ∧ (Dp K H y (.list ds) ∨ Dp K H y (.tuple ds)) ∧ SeqAt.shaped d = true ∧ PyData.canLayAll0 ds = true ∧ Q (.bl (if neg then !(ds.any fun z => PyData.eqv z d) else ds.any fun z => PyData.eqv z d)) H
theorem in_deepK (hu : X.A.units + 65 < cLine) (h : X.K = K := by rfl) : OpR X (compareOp .In) (rInX K false) := by
  subst h
  intro pins s σ H x y v u Q I rx ry h
  obtain ⟨d, ds, hd, he, sd, se, q⟩ := h
  obtain ⟨as, r1⟩ := Dp.reads I d x v hd rx
  rcases he with he | he
  · obtain ⟨bs, r2⟩ := Dp.reads I (.list ds) y u he ry
    exact SeqAt.in_list_reads r2 r1 se (SeqAt.canLay_of_shaped sd) (room_in_shaped sd hu) ⟨.bl _, H, I, rfl, q⟩
  · obtain ⟨bs, r2⟩ := Dp.reads I (.tuple ds) y u he ry
    exact SeqAt.in_tuple_reads r2 r1 se (SeqAt.canLay_of_shaped sd) (room_in_shaped sd hu) ⟨.bl _, H, I, rfl, q⟩
theorem notin_deepK (hu : X.A.units + 65 < cLine) (h : X.K = K := by rfl) : OpR X (compareOp .NotIn) (rInX K true) := by
  subst h
  intro pins s σ H x y v u Q I rx ry h
  obtain ⟨d, ds, hd, he, sd, se, q⟩ := h
  obtain ⟨as, r1⟩ := Dp.reads I d x v hd rx
  rcases he with he | he
  · obtain ⟨bs, r2⟩ := Dp.reads I (.list ds) y u he ry
    exact SeqAt.notIn_list_reads r2 r1 se (SeqAt.canLay_of_shaped sd) (room_in_shaped sd hu) ⟨.bl _, H, I, rfl, q⟩
  · obtain ⟨bs, r2⟩ := Dp.reads I (.tuple ds) y u he ry
    exact SeqAt.notIn_tuple_reads r2 r1 se (SeqAt.canLay_of_shaped sd) (room_in_shaped sd hu) ⟨.bl _, H, I, rfl, q⟩
/-- t.index(x), t a tuple: the first place of an equal one -/
def rIndexT (K : PySem.W.Frag) : V → List V → Hp → VK → Prop := fun x xs H Q => ∃ (a : Addr) (y : V) (d : PyData) (ds : List PyData) (j : Nat) (z : PyData), x = V.ref a ∧ xs = [y] ∧ Dp K H (V.ref a) (.tuple ds) ∧ Dp K H y d ∧
  PyData.canLayAll0 ds = true ∧ SeqAt.shaped d = true ∧ ds[j]? = some z ∧ PyData.eqv z d = true ∧ (∀ (m : Nat) (z' : PyData), m < j → ds[m]? = some z' → PyData.eqv z' d = false) ∧ Q (.int (j : Nat)) H
theorem mt_tindexK (hu : X.A.units + 65 < cLine) (h : X.K = K := by rfl) : MtR X "tuple.index" (rIndexT K) := by
  subst h
  intro pins s σ H x xs v us Q I rx rxs h
  obtain ⟨a, y, d, ds, j, z, rfl, rfl, hl, hy, hxs, sd, hz, hzj, hno, q⟩ := h
  cases rx
  cases rxs with
  | cons ry rt =>
    rename_i uy ut
    cases rt
    obtain ⟨bs, r1⟩ := Dp.reads I d y uy hy ry
    have hroom : X.A.units + 1 + min (PyData.depthAll ds) d.depth < cLine := room_in_shaped sd hu
    cases hl with
    | tup hs ha =>
      obtain ⟨its, rv, ⟨⟨cls, dd, data, sls⟩, ho, hc, n, hdt⟩, hlen⟩ := I.tuple hs
      simp only at hc hdt
      subst hc hdt
      obtain ⟨as, h4⟩ := Dp.readsAll I ds _ its ha rv
      have hn : its.length = ds.length := SeqAt.ReadsAll.length ds its as h4
      have hmap : its.map (SeqAt.readOf s.heap) = ds := SeqAt.readsAll_map ds its as hxs h4
      have hvl := rv.length
      obtain ⟨hjd, _⟩ := List.getElem?_eq_some_iff.mp hz
      have hjl : j < its.length := by omega
      have hj : j < its.toArray.size := by simpa using hjl
      have at_ : ∀ (m : Nat) (hm : m < its.toArray.size) (z' : PyData), ds[m]? = some z' → SeqAt.readOf s.heap its.toArray[m] = z' := by
        intro m hm z' hz'
        have hml : m < its.length := by simpa using hm
        rw [← hmap, List.getElem?_map, List.getElem?_eq_getElem hml] at hz'
        have e1 : SeqAt.readOf s.heap its[m] = z' := Option.some.inj (show some (SeqAt.readOf s.heap its[m]) = some z' from hz')
        simpa using e1
      refine call_meets PySem.F.slot_tuple_index ⟨_, ho, rfl⟩ PySem.F.entry_tuple_index (PySem.F.args_tuple_index_2 _ _)
        (TI.tuple_indexAt a its.toArray n dd sls uy (fun u => PyData.eqv (SeqAt.readOf s.heap u) d) j hj ?_ ?_) ⟨ho, SeqAt.items_eqAt (vs := its.toArray) (show ReadsAll s.heap its.toArray.toList ds as from h4) r1 hxs (SeqAt.canLay_of_shaped sd) hroom, ?_⟩
      · show PyData.eqv (SeqAt.readOf s.heap its.toArray[j]) d = true
        rw [at_ j hj z hz]
        exact hzj
      · intro m hm hmj
        have hmd : m < ds.length := by omega
        have hz' : ds[m]? = some ds[m] := List.getElem?_eq_getElem hmd
        show PyData.eqv (SeqAt.readOf s.heap its.toArray[m]) d = false
        rw [at_ m hm _ hz']
        exact hno m _ hmj hz'
      · exact ⟨.int (j : Nat), H, I.tok _, ⟨_, rfl⟩, q⟩
end
theorem u65 {k : Nat} {A : Around} (r : Room k A) : A.units + 65 < cLine := by have := r.un; omega
/-- xs[::-1] of a list -/
def tRev (K : PySem.W.Frag) (te : TE) : TE := fun σ H Q => te σ H fun x H1 => ∃ a xs, x = .ref a ∧ SqL K H1 a xs ∧ ∀ p, H1 p = none → Q (.ref p) (upd H1 p (.lst xs.reverse))
theorem pe_rev {X : Cx} {e m : Expr} {te : TE} {p2 pos : Pos} (he : PE X e te) (hm : PE X m (tC (.int (-1)))) : PE X (.Subscript e (.Slice none none (some m) p2) pos) (tRev X.K te) := by
  refine ⟨fun pins s σ H Q I h => ?_⟩
  refine Subscript_ (thn (he.run pins s σ H _ I h) fun v s1 ⟨x, H1, I1, r1, q1⟩ => ?_)
  refine wpAny_Slice (wpAny_evalPart_none (wpAny_evalPart_none (wpAny_evalPart_some (thn (hm.run pins s1 σ H1 (fun y H2 => y = .int (-1) ∧ H2 = H1) I1 ⟨rfl, rfl⟩) fun vm s3 ⟨y, H3, I3, r3, ey, eH⟩ => ?_))))
  subst ey eH
  obtain ⟨t, rfl⟩ := r3
  obtain ⟨a, xs, rfl, hx, q⟩ := q1
  cases r1
  have I4 : L2.Inv X pins σ H3 { s3 with heap := s3.heap.push { cls := .type "slice", data := .fields #[.none, .none, .int (-1) t] } } := I3.kept (t' := s3.toks) fun b ob q => Heap.get?_push_of_some _ q
  obtain ⟨its, r, ht, hz⟩ := I4.list hx
  have hlen := r.length
  show wpAny (model X.prog X.w) X.A (subscriptTail e (.Slice none none (some m) p2) (.ref a) (.ref s3.heap.objs.size)) (EP X pins σ Q) X.xe { s3 with heap := s3.heap.push { cls := .type "slice", data := .fields #[.none, .none, .int (-1) t] } }
  refine tail_any (ops := [.ref a, .ref s3.heap.objs.size]) ht.isList.typeIs slot_list_getitem.lookup ?_ (by with_unfolding_all rfl)
  refine wpAny_getItem_list_slice ht.isList (Heap.IsSliceOf.new ..) .none .none (.int (-1) t) (by decide) ?_ (by rw [List.size_toArray] <;> omega)
  rw [PySem.W.krv_pick]
  refine ⟨.ref _, _, I4.laid (t' := s3.toks) (o := .lst xs.reverse) (fun b ob q => Heap.get?_push_of_some _ q) (Nat.le_refl _) ?_, rfl, q _ (I4.hok.fresh (Nat.le_refl _))⟩
  exact ⟨by rw [List.length_reverse]; exact hz, _, 0, r.reverse, Heap.get?_push_size _ rfl⟩
theorem pe_revK {X : Cx} {e m : Expr} {te : TE} {p2 pos : Pos} (K : PySem.W.Frag) (he : PE X e te) (hm : PE X m (tC (.int (-1)))) (h : X.K = K := by rfl) : PE X (.Subscript e (.Slice none none (some m) p2) pos) (tRev K te) := h ▸ pe_rev he hm
theorem tst {b : Bool} {A B : Prop} (h1 : b = true → A) (h0 : b = false → B) : if b = true then A else B := by
  cases b
  · exact h0 rfl
  · exact h1 rfl
theorem sl_tupAK {X : Cx} (K : PySem.W.Frag) (h : X.K = K := by rfl) : SlR X (rSlA K) := h ▸ sl_tupA
/-! ### tuples whose object has no dict (so that their methods are reached) -/
def TupF (G : Hp) (a : Addr) (xs : List V) : Prop := ∃ o : Obj, o.dict = none ∧ G a = some (.frz o (.tup xs))
def Tu (G : Hp) (a : Addr) (xs : List V) : Prop := G a = some (.tup xs) ∨ TupF G a xs
theorem TupF.same {G G' : Hp} {a : Addr} {xs : List V} (e : Same G G') (h : TupF G a xs) : TupF G' a xs := let ⟨o, h1, h2⟩ := h; ⟨o, h1, e _ _ h2⟩
theorem Tu.same {G G' : Hp} {a : Addr} {xs : List V} (e : Same G G') (h : Tu G a xs) : Tu G' a xs := by
  rcases h with h | h
  · exact .inl (e _ _ h)
  · exact .inr (h.same e)
theorem Tu.sq {K : PySem.W.Frag} {H : Hp} {a : Addr} {xs : List V} (h : Tu H a xs) : SqT K H a xs := by
  rcases h with h | ⟨o, _, h⟩
  · exact .inl (.inl h)
  · exact .inl (.inr ⟨o, h⟩)
theorem Tu.ty {K : PySem.W.Frag} {H : Hp} {a : Addr} {xs : List V} (h : Tu H a xs) : TyX K H (.ref a) (.type "tuple") := by
  rcases h with h | ⟨o, _, h⟩
  · exact .base (.tup h)
  · exact .fTuple h
theorem TupF.tu {G : Hp} {a : Addr} {xs : List V} (h : TupF G a xs) : Tu G a xs := .inr h
section
variable {X : Cx} (K : PySem.W.Frag)
/-- tuple(xs) -/
def yTupF (K : PySem.W.Frag) : List V → Hp → VK → Prop := fun xs H Q => ∃ p ys, xs = [.ref p] ∧ ((SqL K H p ys ∧ ∀ l o, H l = none → o.dict = none → Q (.ref l) (upd H l (.frz o (.tup ys)))) ∨ (SqT K H p ys ∧ Q (.ref p) H))
theorem call_tupleFK (h : X.K = K := by rfl) : CallR X (.type "tuple") (yTupF K) := by
  subst h
  intro pins s σ H xs us Q I r h
  obtain ⟨p, ys, rfl, h⟩ := h
  obtain ⟨u, rfl, rx⟩ := vals1 r
  cases rx
  rcases h with ⟨hq, q⟩ | ⟨hq, q⟩
  · obtain ⟨its, r', pl, hz⟩ := I.list hq
    have hlen := r'.length
    refine call_tuple_list pl.isList (fun h' kp => ?_) (by simp only [List.size_toArray] <;> omega)
    have I1 : L2.Inv X pins σ H { s with heap := h' } := I.kept (t' := s.toks) kp
    have I2 : L2.Inv X pins σ (upd H h'.objs.size (.frz { cls := .type "tuple", data := .seq its.toArray } (.tup ys))) { s with heap := h'.push { cls := .type "tuple", data := .seq its.toArray } } :=
      I1.laid (t' := s.toks) (fun b o e => Heap.get?_push_of_some _ e) (Nat.le_refl _) (show ObjOk X.prog X.w _ _ _ (.frz { cls := .type "tuple", data := .seq its.toArray } (.tup ys)) from ⟨Heap.get?_push_size _ rfl, hz, its, r', IsTup.new _ _⟩)
    exact ⟨.ref h'.objs.size, _, I2, rfl, q _ _ (I1.hok.fresh (Nat.le_refl _)) rfl⟩
  · obtain ⟨its, r', pl, hz⟩ := I.tuple hq
    exact call_tuple_same pl ⟨.ref p, H, I, rfl, q⟩
/-- t.m(e, ..), t a tuple -/
def tTM (r : V → List V → Hp → VK → Prop) (to : TE) (t : TA) : TE := fun σ H Q => to σ H fun x H1 => (∃ a xs, x = .ref a ∧ TupF H1 a xs) ∧ t σ H1 fun vs H2 => r x vs H2 Q
theorem pe_tm {o e : Expr} {es : List Expr} {to : TE} {t : TA} {id : String} {name : Str} {apos cpos : Pos} {r : V → List V → Hp → VK → Prop} (slot : Slot "tuple" name id) (hty : typeOf (.builtin id) = pure (.type "method_descriptor")) (hm : MtR X id r) (ho : PE X o to) (ha : PA X (e :: es) t)
    (hbase : attributeBase o name X.env (eval o X.env) = eval o X.env := by rfl)
    (hfew : ((backTo cpos (starEach (e :: es) X.env)).all (fun x => !x.1) && (backToKw cpos (keywordEach [] X.env)).all (fun x => x.1.isSome)
      && decide ((e :: es).length + ([] : List Keyword).length + (if ([] : List Keyword).isEmpty then 0 else 1) < 30)) = true := by rfl)
    (hline : (apos.endLine == cpos.line) = true := by rfl) (hs : starEach (e :: es) X.env = (false, eval e X.env) :: starEach es X.env := by rfl) (hplain : (backTo cpos (starEach es X.env)).any (·.1) = false := by rfl) :
    PE X (.Call (.Attribute o name apos) (e :: es) [] cpos) (tTM r to t) := by
  refine ⟨fun pins s σ H Q I h => ?_⟩
  refine wpAny_Call_method_late hbase hfew hline rfl (thn (ho.run pins s σ H _ I h) fun v s1 ⟨x, H1, I1, r1, ty, q1⟩ => ?_)
  obtain ⟨a, xs, rfl, ob, hd, ha'⟩ := ty
  cases r1
  obtain ⟨h1, _, _, _, h2⟩ := I1.hok _ _ ha'
  refine ⟨"tuple", id, PySem.F.plainAttrs_tuple, slot, hty, ⟨ob, h1, ?_⟩, fun b e => ?_, ?_⟩
  · obtain ⟨ob', e1, e2, _⟩ := h2
    rw [h1] at e1
    rw [Option.some.inj e1]
    exact e2
  · cases e
    exact ⟨ob, h1, hd⟩
  have hA := ha.run cpos pins s1 σ H1 _ I1 q1
  rw [hs] at hA ⊢
  refine Calls.callWith_builtin (by show (false || (backTo cpos (starEach es X.env)).any (·.1)) = false; rw [hplain] <;> rfl) (Calls.evalArgs_plain ?_)
  exact thn hA fun us s2 ⟨vs, H2, I2, r2, q2⟩ => hm pins s2 σ H2 (V.ref a) vs (.ref a) us Q I2 rfl r2 q2
end
/-- t[lo:hi]: the whole of it is t itself -/
def rSlF (K : PySem.W.Frag) : V → Option Int → Option Int → Hp → VK → Prop := fun x lo hi H Q => ∃ a xs, x = .ref a ∧ SqT K H a xs ∧
  (HT.sIx xs.length 0 lo = 0 ∧ HT.sIx xs.length xs.length hi = xs.length → Q (.ref a) H) ∧ (¬ (HT.sIx xs.length 0 lo = 0 ∧ HT.sIx xs.length xs.length hi = xs.length) → ∀ p ob, H p = none → ob.dict = none → Q (.ref p) (upd H p (.frz ob (.tup (cutV xs lo hi)))))
theorem sl_tupFK {X : Cx} (K : PySem.W.Frag) (h : X.K = K := by rfl) : SlR X (rSlF K) := by
  subst h
  intro pins s σ H x v vl vu lo hi sl Q I rx hs pl pu h
  obtain ⟨a, xs, rfl, hx, q1, q2⟩ := h
  by_cases hw : HT.sIx xs.length 0 lo = 0 ∧ HT.sIx xs.length xs.length hi = xs.length
  · exact sl_tupA pins s σ H _ v vl vu lo hi sl Q I rx hs pl pu ⟨a, xs, rfl, hx, q1, fun z => absurd hw z⟩
  · cases rx
    obtain ⟨its, r, ht, hz⟩ := I.tuple hx
    have hlen : its.toArray.size = xs.length := by rw [List.size_toArray]; exact r.length.symm
    refine ⟨"tuple", _, PyProof.Rows.slot_tuple_getitem.lookup, ht.typeIs, ?_⟩
    refine HT.getItem_tuple_cut ht hs pl pu (by rw [hlen]; exact hw) ?_ (by rw [hlen]; exact hz)
    rw [hlen]
    refine ⟨.ref s.heap.objs.size, _, I.laid (t' := s.toks) (o := .frz { cls := .type "tuple", data := .seq (List.take (HT.sIx xs.length xs.length hi - HT.sIx xs.length 0 lo) (List.drop (HT.sIx xs.length 0 lo) its.toArray.toList)).toArray } (.tup (cutV xs lo hi))) (fun b ob q => Heap.get?_push_of_some _ q) (Nat.le_refl _) ?_, rfl, q2 hw _ _ (I.hok.fresh (Nat.le_refl _)) ?_⟩
    · exact ⟨Heap.get?_push_size _ rfl, Nat.le_trans (cutV_length xs lo hi) hz, _, (r.drop (HT.sIx xs.length 0 lo)).take (HT.sIx xs.length xs.length hi - HT.sIx xs.length 0 lo), IsTup.new _ _⟩
    · rfl
theorem Sep.sub {G H : Hp} {M M' : List (Addr × HO)} (S : Sep G M H) (h : M'.Sublist M) : Sep G M' H := ⟨S.1, fun p hp => S.2.1 p (h.subset hp), List.Nodup.sublist (h.map _) S.2.2⟩
theorem Sep.rot2 {G H : Hp} {a b c d : Addr × HO} {M : List (Addr × HO)} (S : Sep G (a :: b :: c :: d :: M) H) : Sep G (c :: d :: a :: b :: M) H := S.perm (List.perm_append_comm_assoc [a, b] [c, d] M)
theorem Sep.no3 {G H : Hp} {a b c : Addr × HO} {M : List (Addr × HO)} (S : Sep G (a :: b :: c :: M) H) : Sep G (a :: b :: M) H := S.sub ((List.sublist_cons_self c M).cons₂ b |>.cons₂ a)
/-! ### lists of ints, of pairs of ints, as data -/
def prd (p : Int × Int) : PyData := .tuple [.int p.1, .int p.2]
theorem prd_can (p : Int × Int) : (prd p).canLay0 = true := by simp [prd, PyData.canLay0, PyData.canLayAll0]
theorem prd_shaped (p : Int × Int) : SeqAt.shaped (prd p) = true := by
  unfold SeqAt.shaped
  rw [prd_can]
  simp [prd, PyData.depth, PyData.depthAll]
theorem prds_can : ∀ ps : List (Int × Int), PyData.canLayAll0 (ps.map prd) = true
  | [] => by simp [PyData.canLayAll0]
  | p :: r => by simp [PyData.canLayAll0, prd_can p, prds_can r]
theorem ints_can : ∀ ns : List Int, PyData.canLayAll0 (ns.map PyData.int) = true
  | [] => by simp [PyData.canLayAll0]
  | n :: r => by simp [PyData.canLayAll0, PyData.canLay0, ints_can r]
theorem prd_eqv (p q : Int × Int) : PyData.eqv (prd p) (prd q) = decide (p = q) := by
  obtain ⟨a, b⟩ := p
  obtain ⟨c, d⟩ := q
  simp only [prd, PyData.eqv, PyData.eqvAll, Bool.and_true]
  by_cases h1 : a = c <;> by_cases h2 : b = d <;> simp [h1, h2]
theorem int_shaped (n : Int) : SeqAt.shaped (.int n) = true := by simp [SeqAt.shaped, PyData.canLay0, PyData.depth]
theorem ints_dp {K : PySem.W.Frag} {H : Hp} : ∀ ns : List Int, DpAll K H (ns.map V.int) (ns.map PyData.int)
  | [] => .nil
  | n :: r => .cons (.int n) (ints_dp r)
theorem any_ints (n : Int) (ns : List Int) : ((ns.map PyData.int).any fun z => PyData.eqv z (.int n)) = decide (n ∈ ns) := by
  induction ns with
  | nil => rfl
  | cons m r ih =>
    rw [List.map_cons, List.any_cons, ih]
    show ((m == n) || decide (n ∈ r)) = decide (n ∈ m :: r)
    by_cases e : n = m
    · subst e; simp
    · have e2 : ¬ m = n := fun q => e q.symm
      simp [e, e2]
theorem any_prds (p : Int × Int) (ps : List (Int × Int)) : ((ps.map prd).any fun z => PyData.eqv z (prd p)) = decide (p ∈ ps) := by
  induction ps with
  | nil => rfl
  | cons q r ih =>
    rw [List.map_cons, List.any_cons, ih, prd_eqv]
    by_cases e : p = q
    · subst e; simp
    · have e2 : ¬ q = p := fun h => e h.symm
      simp [e, e2]
end XL
set_option Elab.async false
set_option linter.all false
set_option maxRecDepth 100000
set_option maxHeartbeats 4000000
/-! XOwn: o[i], o[i] = v by own methods. -/
namespace XL
open PySem PySem.Spec PyProof.Rows L2
section
variable {X : Cx} {CX : CXT} {C f : Addr} {fd : FuncData} {ps : List Str} {sp : Sp} {E : XK} {n : Nat} {o i : Expr} {to ti : TE} {pos : Pos}
def yIxO (C : Addr) (sp : Sp) (E : XK) : R2 := fun x y H Q => ∃ a dx fs, x = .ref a ∧ H a = some (.ins C dx fs) ∧ sp [.ref a, y] H Q E
theorem pe_ixO (ho : PE X o to) (hi : PE X i ti) (F : FnOk X.prog X.w X.K X.mg X.base CX n f fd ps sp) (hs : PySem.W.findIn X.K (.ref C) "__getitem__" = some (some (.ref f))) (hf : PySem.W.fnIn X.K f = true) (hfn : PySem.W.isFn X.K (.ref f) = true)
    (hb : Binds X.K fd ps []) (hx : Passes CX X E) (hr : Room (n + 1) X.A) (hsl : ∀ x v, subscripted i true (.ref x) v = runValue (.builtin "lifetime.subscript" ⟨[.ref x, v], []⟩) := by intro _ _; with_unfolding_all rfl) :
    PE X (.Subscript o i pos) (tOp (yIxO C sp E) to ti) := by
  refine ⟨fun pins s σ H Q I h => ?_⟩
  refine Subscript_ (thn (ho.run pins s σ H _ I h) fun v s1 ⟨x, H1, I1, r1, q1⟩ => thn (hi.run pins s1 σ H1 _ I1 q1) fun u s2 ⟨y, H2, I2, r2, q2⟩ => ?_)
  obtain ⟨a, dx, fs, rfl, ha, hsp⟩ := q2
  cases r1
  obtain ⟨mA, J, _⟩ := ins_get I2.hok ha
  obtain ⟨od, J, _⟩ := J.look
  obtain ⟨m, hF⟩ := I2.fr
  refine PySem.W.sub_K hF I2.ok.mod.kin J hs hf hfn ?_ (hsl _ _)
  have hl : ([Value.ref a, u] ++ []).length = ps.length := F.len _ _ _ _ hsp
  refine wpAny_call (codeAny_mono (F.run X.A.in1 X.stack s2 H2 ⟨[.ref a, u], []⟩ [.ref a, u] [.ref a, y] Q E hr.in1 I2.env0.in1 (hb s2 [.ref a, u] I2.kIn hl) (.cons rfl (.cons r2 .nil)) hsp) fun r s' hq => ?_)
  cases r with
  | error e => exact hx pins σ H2 s2 e s' I2 hq
  | ok fl =>
    cases fl with
    | ret u => exact I2.after hq
    | next => exact False.elim hq
    | brk => exact False.elim hq
    | cont => exact False.elim hq
def yStO (C : Addr) (sp : Sp) (E : XK) : TSet := fun x y v H Q => ∃ a dx fs, x = .ref a ∧ H a = some (.ins C dx fs) ∧ sp [.ref a, y, v] H (fun _ H' => Q H') E
theorem set_own (F : FnOk X.prog X.w X.K X.mg X.base CX n f fd ps sp) (hq : PySem.W.noSeq X.K C = true) (hs : PySem.W.findIn X.K (.ref C) "__setitem__" = some (some (.ref f))) (hfn : PySem.W.isFn X.K (.ref f) = true)
    (hb : Binds X.K fd ps []) (hx : Passes CX X E) (hr : Room n X.A) : PSet X (yStO C sp E) := by
  intro pins s σ H x y v xv yv vv Q I rx ry rv h
  obtain ⟨a, dx, fs, rfl, ha, hsp⟩ := h
  cases rx
  obtain ⟨mA, J, _⟩ := ins_get I.hok ha
  obtain ⟨od, J, _⟩ := J.look
  obtain ⟨m, hF⟩ := I.fr
  refine PySem.W.ksp_setItem hF I.ok.mod.kin J hq hs hfn ?_
  refine wpAny_mono (run_fn (us := [.ref a, yv, vv]) (vs := [.ref a, y, v]) (dvs := []) F hr hb .nil hx I (.cons rfl (.cons ry (.cons rv .nil))) hsp) (fun r s' q => ?_) fun _ _ e => e
  obtain ⟨z, H', I', rz, q⟩ := q
  exact ⟨H', I', q⟩
end
end XL
set_option Elab.async false
set_option linter.all false
set_option maxRecDepth 100000
set_option maxHeartbeats 4000000
/-! XTup: tuples made by a display or by +, as objects without a dict. -/
namespace XL
open PySem PySem.Spec PyProof.Rows L2
section
variable {X : Cx} {es : List Expr} {t : TA} {pos : Pos}
def tTupF (t : TA) : TE := fun σ H Q => t σ H fun xs H1 => xs.length ≤ sizeLine ∧ ∀ p ob, H1 p = none → ob.dict = none → Q (.ref p) (upd H1 p (.frz ob (.tup xs)))
theorem pe_tupF {x1} (h : PA X es t) : PE X (.Tuple es x1 pos) (tTupF t) := by
  refine ⟨fun pins s σ H Q I hq => ?_⟩
  refine wpAny_Tuple_spliced (thn (h.run pos pins s σ H _ I hq) fun us s1 ⟨xs, H1, I1, r, z, q⟩ => ⟨by rw [← r.length]; exact z, ?_⟩)
  have hf : H1 s1.heap.objs.size = none := I1.hok.fresh (Nat.le_refl _)
  refine ⟨.ref s1.heap.objs.size, _, I1.laid (t' := s1.toks) (o := .frz { cls := .type "tuple", data := .seq us.toArray } (.tup xs)) (fun b u e => Heap.get?_push_of_some _ e) (Nat.le_refl _) ?_, rfl, q _ _ hf rfl⟩
  exact ⟨Heap.get?_push_size _ rfl, z, us, r, ⟨_, Heap.get?_push_size _ rfl, rfl, _, rfl⟩⟩
def rCatF (K : PySem.W.Frag) : R2 := fun x y H Q => ∃ a b xs ys, x = .ref a ∧ y = .ref b ∧ SqT K H a xs ∧ SqT K H b ys ∧ xs.length + ys.length ≤ sizeLine ∧
  (xs = [] → Q (.ref b) H) ∧ (xs ≠ [] → ys = [] → Q (.ref a) H) ∧ (xs ≠ [] → ys ≠ [] → ∀ p ob, H p = none → ob.dict = none → Q (.ref p) (upd H p (.frz ob (.tup (xs ++ ys)))))
theorem op_catFK (K : PySem.W.Frag) (h : X.K = K := by rfl) : OpR X (binaryOp .Add) (rCatF K) := by
  subst h
  intro pins s σ H x y v u Q I rx ry h
  obtain ⟨a, b, xs, ys, rfl, rfl, ha, hb, hz, q0, q1, q2⟩ := h
  by_cases hx : xs = []
  · exact op_catA pins s σ H _ _ v u Q I rx ry ⟨a, b, xs, ys, rfl, rfl, ha, hb, hz, q0, fun z => absurd hx z, fun z => absurd hx z⟩
  · cases rx
    cases ry
    obtain ⟨its, r1, p1, _⟩ := I.tuple ha
    obtain ⟨its2, r2, p2, _⟩ := I.tuple hb
    refine HT.cat_tup p1 p2 (fun z => hx (r1.nil_iff.mp z)) (fun z => ⟨.ref a, H, I, rfl, q1 hx (r2.nil_iff.mp z)⟩) (fun z => ?_) (by rw [← r1.length, ← r2.length]; exact hz)
    refine ⟨.ref s.heap.objs.size, _, I.laid (t' := s.toks) (o := .frz { cls := .type "tuple", data := .seq (its ++ its2).toArray } (.tup (xs ++ ys))) (fun b ob q => Heap.get?_push_of_some _ q) (Nat.le_refl _) ?_, rfl, q2 hx (fun w => z (r2.nil_iff.mpr w)) _ _ (I.hok.fresh (Nat.le_refl _)) rfl⟩
    exact ⟨Heap.get?_push_size _ rfl, by rw [List.length_append]; exact hz, _, r1.append r2, IsTup.new _ _⟩
end
section
variable {K : PySem.W.Frag} {a : Addr} {xs : List V} {Qd : Hp → Prop} {B : V → Hp → (Hp → Prop) → Prop} {H0 : Hp}
/-- a clause of a comprehension over a list -/
theorem loopL (Pv : Nat → Hp → Prop) (h0 : Pv 0 H0) (hl : ∀ k H, Pv k H → SqL K H a xs) (hs : ∀ k x H, xs[k]? = some x → Pv k H → B x H (Pv (k + 1))) (hd : ∀ H, Pv xs.length H → Qd H) :
    ∃ W : Nat → Nat → Hp → Prop, (∃ m, W 0 m H0) ∧ ∀ i m H, W i m H → ((Itl K a).stop i H ∧ Qd H) ∨ ((Itl K a).go i H ∧ ∃ Nx : Hp → Prop, (∀ H', Nx H' → ∃ m', m' < m ∧ W (i + 1) m' H') ∧ ∀ x H', (Itl K a).yld i H x H' → B x H' Nx) := by
  refine ⟨fun i m H => m = xs.length - i ∧ i ≤ xs.length ∧ Pv i H, ⟨xs.length, by simp, Nat.zero_le _, h0⟩, ?_⟩
  rintro i m H ⟨rfl, hi, p⟩
  have q := hl i H p
  by_cases hlt : i < xs.length
  · refine .inr ⟨⟨xs, xs[i], q, by simp [hlt]⟩, Pv (i + 1), fun H' p' => ⟨xs.length - (i + 1), by omega, rfl, hlt, p'⟩, fun x H' y => ?_⟩
    obtain ⟨e, y⟩ := y
    subst e
    exact hs i x _ (y xs q) p
  · have e : i = xs.length := by omega
    subst e
    exact .inl ⟨⟨xs, q, Nat.le_refl _⟩, hd H p⟩
/-- a clause of a comprehension over a range -/
theorem loopR {lo : Int} {n : Nat} (Pv : Nat → Hp → Prop) (h0 : Pv 0 H0) (hs : ∀ k H, k < n → Pv k H → B (.int (lo + k)) H (Pv (k + 1))) (hd : ∀ H, Pv n H → Qd H) :
    ∃ W : Nat → Nat → Hp → Prop, (∃ m, W 0 m H0) ∧ ∀ i m H, W i m H → ((Itr lo n).stop i H ∧ Qd H) ∨ ((Itr lo n).go i H ∧ ∃ Nx : Hp → Prop, (∀ H', Nx H' → ∃ m', m' < m ∧ W (i + 1) m' H') ∧ ∀ x H', (Itr lo n).yld i H x H' → B x H' Nx) := by
  refine ⟨fun i m H => m = n - i ∧ i ≤ n ∧ Pv i H, ⟨n, by simp, Nat.zero_le _, h0⟩, ?_⟩
  rintro i m H ⟨rfl, hi, p⟩
  by_cases hlt : i < n
  · refine .inr ⟨hlt, Pv (i + 1), fun H' p' => ⟨n - (i + 1), by omega, rfl, hlt, p'⟩, fun x H' y => ?_⟩
    obtain ⟨e, y⟩ := y
    subst e y
    exact hs i _ hlt p
  · have e : i = n := by omega
    subst e
    exact .inl ⟨Nat.le_refl _, hd H p⟩
/-- row + (item,) -/
theorem cat_one {G H : Hp} {M : List (Addr × HO)} {r : Addr} {n : List Int} {i : Int} {Q : VK} (S : Sep G M H) (hr : TupF G r (n.map V.int)) (hl : n.length ≤ 1000)
    (q : ∀ (p : Addr) (G' H' : Hp), Same G G' → Sep G' M H' → TupF G' p ((n ++ [i]).map V.int) → Q (.ref p) H') :
    [V.int i].length ≤ sizeLine ∧ ∀ p ob, H p = none → ob.dict = none → rCatF K (.ref r) (.ref p) (upd H p (.frz ob (.tup [.int i]))) Q := by
  refine ⟨sz, fun p ob np hob => ?_⟩
  have S1 := S.newG (o := .frz ob (.tup [.int i])) np
  have s1 := S.grow (o := .frz ob (.tup [.int i])) np
  have h1 : TupF (upd G p (.frz ob (.tup [.int i]))) p [.int i] := ⟨ob, hob, upd_same⟩
  refine ⟨r, p, n.map V.int, [.int i], rfl, rfl, ((hr.same s1).same S1.1).tu.sq, (h1.same S1.1).tu.sq, small (by rw [List.length_map]; simp; omega), fun e => ?_, fun _ e => (nomatch e), fun _ _ p2 ob2 np2 hob2 => ?_⟩
  · have e2 : n = [] := List.map_eq_nil_iff.mp e
    subst e2
    exact q p _ _ s1 S1 h1
  · have e3 : n.map V.int ++ [V.int i] = (n ++ [i]).map V.int := by rw [List.map_append]; rfl
    rw [e3]
    exact q p2 _ _ (s1.trans (S1.grow np2)) (S1.newG np2) ⟨ob2, hob2, upd_same⟩
end
end XL
set_option Elab.async false
set_option linter.all false
set_option maxRecDepth 100000
set_option maxHeartbeats 4000000
/-! XExc: an error of the program's own, class E(ScreenError): __init__(self, x): super().__init__(f'..{x!r}'); self.x = x: made, raised, caught. -/
namespace PySem
namespace XExc
open PySem.W PySem.Calls PyProof.Rows PySem.HandSPX
/-! ### the text of __init__ -/
def iA (fld : Str) (p1 p2 : Pos) : Arguments := { posonlyargs := [], args := [{ arg := "self", annotation := none, pos := p1 }, { arg := fld, annotation := none, pos := p2 }], vararg := none, kwonlyargs := [], kw_defaults := [], kwarg := none, defaults := [] }
structure Ps where
  a : Pos
  b : Pos
  c : Pos
  d : Pos
  e : Pos
  f : Pos
  g : Pos
  h : Pos
  i : Pos
  j : Pos
  k : Pos
  l : Pos
  m : Pos
  cv : Int
  cp : cv = 114 ∨ cv = -1
def iSup (q : Ps) : Expr := .Call (.Name "super" q.a) [] [] q.b
def iArg (fld : Str) (msg : Str) (q : Ps) : Expr := .JoinedStr [.Constant (.str msg) 0 q.d, .FormattedValue (.Name fld q.e) q.cv none q.f] q.g
def iCall (fld : Str) (msg : Str) (q : Ps) : Expr := .Call (.Attribute (iSup q) "__init__" q.c) [iArg fld msg q] [] q.h
def iB (fld : Str) (msg : Str) (q : Ps) : List Stmt := [.Expr (iCall fld msg q) q.i, .Assign [.Attribute (.Name "self" q.j) fld q.k] (.Name fld q.l) q.m]
/-- how the call is evaluated (the positions decide nothing here) -/
def Evals (fld msg : Str) (q : Ps) : Prop := ∃ pl : Env → Sem Bool, ∀ env : Env, eval (iCall fld msg q) env = (do
  let ov ← attributeBase (iSup q) "__init__" env (eval (iSup q) env)
  standAt q.c.atName
  let (f, first) ← holding [ov] (getMethod ov "__init__" (pl env))
  callWith q.h f first (backTo q.h (starEach [iArg fld msg q] env)) [])
def iN (fld : Str) : List (Str × NameKind) := [(PySem.Str.ofString "self", .local), (fld, .local), (PySem.Str.ofString "__class__", .free), (PySem.Str.ofString "super", .globalImplicit)]
def iS (fld : Str) : Scope := { kind := .function, names := iN fld, isGenerator := false, isCoroutine := false, more := [] }
/-- what the written part says of the class at C and of its __init__ at fI -/
structure ExTxt (P : Program) (K : Frag) (mg : Str → Option Value) (nm fld msg : Str) (C fI : Addr) : Prop where
  gC : mg nm = some (.ref C)
  cls : ∃ nm q N bs bm sn sub ab col dd k0 k1 k2 k3 k5, K.lookup C = some (excClassObj nm q C N bs bm true sn sub ab col dd k0 k1 k2 k3 k5 "ValueError.__new__") ∧ refsVE bm = true
  sa : findIn K (.ref C) "__setattr__" = some (some (.builtin "object.__setattr__"))
  ga : findIn K (.ref C) "__getattribute__" = some (some (.builtin "BaseException.__getattribute__"))
  gg : findIn K (.ref C) "__getattr__" = some none
  noN : findIn K (.ref C) fld = some none
  iC : findIn K (.ref C) "__init__" = some (some (.ref fI))
  tC : typeIn K (.ref fI) = some (.type "function")
  kC : keepIn K (.ref C) = true
  exC : subIn K (.ref C) (.type "BaseException") = some true
  tyC : typeIn K (.ref C) = some (.type "type")
  hdC : hasDictIn K C = true
  fn : ∃ (oc kV doc pm ct : Value) (od an : Option Addr) (osl : Array (Option Value)) (qual : Str) (cda cc : Addr) (p1 p2 : Pos) (q : Ps) (vs : Array Value) (file : Str) (tf : Tok) (ccl cl : Value) (cdd cld : Option Addr) (ccs csl : Array (Option Value)),
    K.lookup fI = some ⟨oc, od, .func (ksFn "__init__" qual (iA fld p1 p2) (iB fld msg q) (iS fld) .none kV doc pm an (.ref cda) ct cc), osl⟩ ∧ codeIn K (.ref cda) qual = true ∧ K.lookup cda = some ⟨ccl, cdd, .fields vs, ccs⟩ ∧ vs[2]? = some (.str file tf) ∧
    ((P.main.file : Str) == file) = true ∧ K.lookup cc = some ⟨cl, cld, .cell (some (.ref C)), csl⟩ ∧ Evals fld msg q ∧
    ∀ x v : Value, bindArgs (ksFn "__init__" qual (iA fld p1 p2) (iB fld msg q) (iS fld) .none kV doc pm an (.ref cda) ct cc) ⟨[x, v], []⟩ = pure [(("self" : Str), x), (fld, v)]
  sup : ks_superIn K C C "__init__" = some (some (.builtin "ValueError.__init__"))
  subV : subIn K (.ref C) (.type "ValueError") = some true
  mroS : mroIn K C (.ref C) = some true
  opq : nsIn K cStatics "thirdparty.any" = some none
  htop : (P.main.scope.names.lookup ("super" : Str)).isSome = false
  hsup : mg "super" = none
  f1 : fld ≠ "self"
  f2 : fld ≠ "__class__"
  f3 : fld ≠ "super"
  f4 : (fld == ("__debug__" : Str)) = false
  ml : msg.length ≤ 1000
/-- where the program stands -/
def PF (P : Program) (fl : Str) : Prop := ((P.main.file : Str) == fl) = true ∧ (P.main.scope.names.lookup ("super" : Str)).isSome = false
/-- what can be told in the message -/
def Rp (v : Value) : Prop := (∃ (y : Str) (t : Tok), v = .str y t ∧ (reprText y).length ≤ 100000) ∨ ∃ (i : Int) (t : Tok), v = .int i t ∧ i.natAbs.log2 < 1920
structure InitEnd (h h' : Heap) (x C dx : Addr) (fld : Str) (v : Value) : Prop where
  keep : ∀ b o, b ≠ x → h.get? b = some o → h'.get? b = some o
  obj : ∃ t1 : Addr, h'.get? x = some { cls := .ref C, dict := some dx, data := .fields #[.ref t1, .none, .none, .none, .bool false, .none] }
  dbig : h.objs.size ≤ dx
  dne : dx ≠ x
  ns : h'.Ns1 dx (fun y => if y = fld then some v else none)
structure OwnMade (h h' : Heap) (e C d : Addr) (fld : Str) (v : Value) : Prop where
  keep : ∀ b o, h.get? b = some o → h'.get? b = some o
  new : h.objs.size ≤ e
  obj : ∃ oe vs, h'.get? e = some oe ∧ oe.cls = .ref C ∧ oe.dict = some d ∧ oe.data = .fields vs ∧ vs[1]? = some .none
  dbig : h.objs.size ≤ d
  dne : d ≠ e
  ns : h'.Ns1 d (fun y => if y = fld then some v else none)
section
variable {prog : Program} {w : World} {A : Around} {E : Value → Shared → Prop} {h : Heap} {g : Array GenState} {d : Drawn} {t : Nat} {os : OsState}
variable {nm q : Str} {C N : Addr} {bs bm : List Value} {hdct : Bool} {sn : List Str} {sub : List Value} {ab : Bool} {col : Option Bool} {dd : Option Addr} {k0 k1 k2 k3 k5 : Option Value}
theorem call_mw {u e t0 : Addr} {rest : List Value} {Q : Value → Shared → Prop}
    (hC : h.get? C = some (excClassObj nm q C N bs bm hdct sn sub ab col dd k0 k1 k2 k3 k5 "ValueError.__new__")) (he : h.get? e = some (excO C t0)) (hu : h.get? u = some (kxs_mw "ValueError.__init__" e)) (hrest : rest.length ≤ sizeLine)
    (hq : ∀ h' t1, (∀ b o, b ≠ e → h.get? b = some o → h'.get? b = some o) → h.objs.size ≤ h'.objs.size → h'.get? e = some (excO C t1) → Q .none ⟨h', g, d, t, os⟩) :
    wpAny (model prog w) A (call (.ref u) rest) Q E ⟨h, g, d, t, os⟩ := by
  refine wpAny_call (codeAny_of_tree ?_)
  show wpAny _ A.in1 (callAny (.ref u) ⟨rest, []⟩) _ _ _
  simp only [callAny]
  refine wpAny_bind (wpAny_load hu ?_)
  simp only [kxs_mw, show (Value.type "method-wrapper" == Value.type "method" || Value.type "method-wrapper" == Value.type "builtin_function_or_method" || Value.type "method-wrapper" == Value.type "method-wrapper") = true by decide, if_true]
  refine W.KFB.if_so (by decide) ?_
  refine wpAny_bind (check_bound_init F.excBase_ValueError.toExcCallFacts hC he rfl ?_)
  refine wpAny_bind (wpAny_pure (wpAny_pure ?_))
  refine ⟨plainId_quiet F.excBase_ValueError.init.plain _, codeAny_builtin F.excBase_ValueError.initEntry ?_⟩
  rw [Around.under_plainId F.excBase_ValueError.init.plain _]
  wp_walk
  refine hq _ h.objs.size (fun b o hb ho => ?_) ?_ ?_
  · rw [Heap.get?_update_other _ _ (Ne.symm hb)]
    exact Heap.get?_push_of_some _ ho
  · simp [Heap.size_push]
  · rw [Heap.get?_update_self _ (Heap.get?_push_of_some _ he) rfl]
    rfl
end
section
variable {prog : Program} {w : World} {A : Around} {E : Value → Shared → Prop} {R : Result → Shared → Prop} {s : Shared} {K : Frag} {mg mb : Str → Option Value} {nm fld msg : Str} {C fI : Addr}
theorem one_size (v : Value) : [v].length ≤ sizeLine := by
  rw [sizeLine_eq]
  exact (by decide : 1 ≤ 16777216)
theorem reprChar_ge (q c : Nat) : 1 ≤ (Builtin.Str.reprChar q c).length := by
  unfold Builtin.Str.reprChar
  dsimp only
  repeat' split
  all_goals simp only [List.length_append, List.length_cons, List.length_nil]
  all_goals omega
theorem foldl_repr_ge1 (q : Nat) : ∀ (l : List Nat) (acc : Array Nat), acc.size + l.length ≤ (l.foldl (fun out c => out ++ (Builtin.Str.reprChar q c).toArray) acc).size
  | [], acc => Nat.le_refl _
  | c :: r, acc => by
    have ih := foldl_repr_ge1 q r (acc ++ (Builtin.Str.reprChar q c).toArray)
    have hc := reprChar_ge q c
    simp only [List.foldl_cons, List.length_cons]
    simp only [Array.size_append, List.size_toArray] at ih
    omega
theorem reprText_ge (x : Str) : x.length ≤ (reprText x).length := by
  unfold reprText
  show x.length ≤ ((x.cps.foldl (fun out c => out ++ (Builtin.Str.reprChar (reprQuote x) c).toArray) #[reprQuote x]).push (reprQuote x)).size
  rw [Array.size_push, ← Array.foldl_toList]
  have := foldl_repr_ge1 (reprQuote x) x.cps.toList #[reprQuote x]
  have e : x.cps.toList.length = x.length := by simp [Str.length]
  rw [e] at this
  omega
/-- f'..{v!r}' -/
theorem told_ok {env : Env} {q : Ps} {m : Str → Option Value} {v : Value} {Q : Value → Shared → Prop} (hn : s.heap.Ns env.locals m) (hv : m fld = some v) (hr : Rp v) (hml : msg.length ≤ 1000) (hk : env.scope.kind = .function) (hl : env.kindOf fld = some .local) (hd : (fld == ("__debug__" : Str)) = false)
    (h : ∀ u tk, Q u { s with toks := tk }) : wpAny (model prog w) A (eval (iArg fld msg q) env) Q E s := by
  unfold iArg
  have sm : ∀ n : Nat, n ≤ 200000 → n ≤ sizeLine := fun n hn => Nat.le_trans hn (by decide)
  rcases q.cp with ecv | ecv
  · rw [ecv]
    refine wpAny_JoinedStr ?_
    have e0 : evalEach [Expr.Constant (.str msg) 0 q.d, .FormattedValue (.Name fld q.e) 114 none q.f] env = [eval (.Constant (.str msg) 0 q.d) env, eval (.FormattedValue (.Name fld q.e) 114 none q.f) env] := by first | rfl | simp [evalEach]
    rw [e0]
    refine Calls.Constant_str ⟨msg, _, rfl, ?_, ?_⟩
    · rw [Str.length_append]
      exact sm _ (by show 0 + msg.length ≤ _; omega)
    refine wpAny_FormattedValue_repr (ESX.ldL hn hv ?_ hk hl hd)
    rcases hr with ⟨y, t, rfl, hz⟩ | ⟨i, t, rfl, hz⟩
    · have hz' : (reprText y).length ≤ sizeLine := sm _ (by omega)
      have out : ∀ (tk : Tok) (tt : Nat), ∃ (y' : Str) (t' : Tok), Value.str (reprText y) tk = .str y' t' ∧ (Str.empty ++ msg ++ y').length ≤ sizeLine ∧ Joins (model prog w) A E [] (Str.empty ++ msg ++ y') (fun out s₁ => out.length ≤ sizeLine ∧ Q (.str out s₁.toks) { s₁ with toks := s₁.toks + 1 }) { s with toks := tt } := fun tk tt => by
        have hl : (Str.empty ++ msg ++ reprText y).length ≤ sizeLine := by
          rw [Str.length_append, Str.length_append]
          exact sm _ (by show 0 + msg.length + _ ≤ _; omega)
        exact ⟨_, _, rfl, hl, hl, h _ _⟩
      exact pyReprObj_str (wpAny_formatField_str (out _ _) (out _ _) hz') hz'
    · have hz' := int_text_fits hz
      have ln : (toString i : Str).length ≤ 100000 := by
        have e := int_text_length_le (k := 1920) (by decide) hz
        show (Str.ofString (toString i)).length ≤ 100000
        rw [ofString_length]
        omega
      have out : ∀ (tk : Tok) (tt : Nat), ∃ (y' : Str) (t' : Tok), Value.str (toString i) tk = .str y' t' ∧ (Str.empty ++ msg ++ y').length ≤ sizeLine ∧ Joins (model prog w) A E [] (Str.empty ++ msg ++ y') (fun out s₁ => out.length ≤ sizeLine ∧ Q (.str out s₁.toks) { s₁ with toks := s₁.toks + 1 }) { s with toks := tt } := fun tk tt => by
        have hl : (Str.empty ++ msg ++ (toString i : Str)).length ≤ sizeLine := by
          rw [Str.length_append, Str.length_append]
          exact sm _ (by show 0 + msg.length + _ ≤ _; omega)
        exact ⟨_, _, rfl, hl, hl, h _ _⟩
      exact pyReprObj_int hz (wpAny_formatField_str (out _ _) (out _ _) hz')
  · rw [ecv]
    refine wpAny_JoinedStr ?_
    have e0 : evalEach [Expr.Constant (.str msg) 0 q.d, .FormattedValue (.Name fld q.e) (-1) none q.f] env = [eval (.Constant (.str msg) 0 q.d) env, eval (.FormattedValue (.Name fld q.e) (-1) none q.f) env] := by first | rfl | simp [evalEach]
    rw [e0]
    refine Calls.Constant_str ⟨msg, _, rfl, ?_, ?_⟩
    · rw [Str.length_append]
      exact sm _ (by show 0 + msg.length ≤ _; omega)
    refine wpAny_FormattedValue_plain (ESX.ldL hn hv ?_ hk hl hd)
    rcases hr with ⟨y, t, rfl, hz⟩ | ⟨i, t, rfl, hz⟩
    · have hy := reprText_ge y
      have hl : (Str.empty ++ msg ++ y).length ≤ sizeLine := by
        rw [Str.length_append, Str.length_append]
        exact sm _ (by show 0 + msg.length + _ ≤ _; omega)
      have out : ∀ (tk : Tok) (tt : Nat), ∃ (y' : Str) (t' : Tok), Value.str y tk = .str y' t' ∧ (Str.empty ++ msg ++ y').length ≤ sizeLine ∧ Joins (model prog w) A E [] (Str.empty ++ msg ++ y') (fun out s₁ => out.length ≤ sizeLine ∧ Q (.str out s₁.toks) { s₁ with toks := s₁.toks + 1 }) { s with toks := tt } := fun tk tt => ⟨_, _, rfl, hl, hl, h _ _⟩
      exact wpAny_formatField_str (out _ _) (out _ _) (sm _ (by omega))
    · have hz' := int_text_fits hz
      have ln : (toString i : Str).length ≤ 100000 := by
        have e := int_text_length_le (k := 1920) (by decide) hz
        show (Str.ofString (toString i)).length ≤ 100000
        rw [ofString_length]
        omega
      have hl : (Str.empty ++ msg ++ (toString i : Str)).length ≤ sizeLine := by
        rw [Str.length_append, Str.length_append]
        exact sm _ (by show 0 + msg.length + _ ≤ _; omega)
      exact wpAny_formatField_int hz ⟨_, _, rfl, hl, hl, h _ _⟩
end
section
variable {prog : Program} {w : World} {A : Around} {E : Value → Shared → Prop} {R : Result → Shared → Prop} {K : Frag} {mg mb : Str → Option Value} {nm fld msg : Str} {C fI : Addr}
theorem kept_but {K : Frag} {h h' : Heap} {x : Addr} (X : K.In h) (hx : K.lookup x = none) (k : ∀ b o, b ≠ x → h.get? b = some o → h'.get? b = some o) : K.In h' := fun a o e =>
  k a o (fun z => by rw [z, hx] at e; cases e) (X a o e)
theorem exc_init (T : ExTxt prog K mg nm fld msg C fI) {x t0 : Addr} {v : Value} {hp : Heap} {g : Array GenState} {dr : Drawn} {tk : Nat} {os : OsState} (X : K.In hp) (hlim : hp.NoLimit) (hG : hp.Ns mainGlobals mg) (hB : hp.Ns builtinsNs mb) (hbb : ∀ x : Str, x ≠ "__name__" → mb x = bootBuiltins x)
    (hx : hp.get? x = some (excO C t0)) (hnx : K.lookup x = none) (hroom : A.depth < recursionLimit) (hr : Rp v)
    (hq : ∀ h' tk' dx, InitEnd hp h' x C dx fld v → R (.ok (.ret .none)) ⟨h', g, dr, tk', os⟩) :
    codeAny (model prog w) A (.call (.ref fI) ⟨[.ref x, v], []⟩) R ⟨hp, g, dr, tk, os⟩ := by
  obtain ⟨oc, kV, doc, pm, ct, od, an, osl, qual, cda, cc, p1, p2, q, vs, file, tf, ccl, cl, cdd, cld, ccs, csl, ho, hcd, hcda, hvs, hfile, hcc, ⟨pl, hev⟩, hbind⟩ := T.fn
  obtain ⟨nm', q', N, bs, bm, sn, sub, ab, col, dd, k0, k1, k2, k3, k5, hC, hbm⟩ := T.cls
  have hcl : clsIn K C = some { name := nm', bases := bs, mro := .ref C :: bm, ns := N, qualname := q', hasDict := true, slotNames := sn, subclasses := sub, abstract := ab, collection := col, hasDel := false } := by unfold clsIn; rw [hC] <;> rfl
  have e1 : (iS fld).names.lookup fld = some .local := by
    show (iN fld).lookup fld = _
    unfold iN
    have z : (fld == PySem.Str.ofString "self") = false := by simpa using T.f1
    simp [List.lookup, z]
  have e2 : (iS fld).names.lookup ("self" : Str) = some .local := rfl
  have e3 : (iS fld).names.lookup ("__class__" : Str) = some .free := by
    show (iN fld).lookup ("__class__" : Str) = _
    unfold iN
    have z : (("__class__" : Str) == fld) = false := by simpa using Ne.symm T.f2
    have z2 : (("__class__" : Str) == PySem.Str.ofString "self") = false := by decide
    simp [List.lookup, z, z2]
  have e4 : (iS fld).names.lookup ("super" : Str) = some .globalImplicit := by
    show (iN fld).lookup ("super" : Str) = _
    unfold iN
    have z : (("super" : Str) == fld) = false := by simpa using Ne.symm T.f3
    have z2 : (("super" : Str) == PySem.Str.ofString "self") = false := by decide
    have z3 : (("super" : Str) == PySem.Str.ofString "__class__") = false := by decide
    simp [List.lookup, z, z2, z3]
  refine ks_codeAny_call_defAt (fd := ksFn "__init__" qual (iA fld p1 p2) (iB fld msg q) (iS fld) .none kV doc pm an (.ref cda) ct cc) (body := iB fld msg q) (binds := [("self", .ref x), (fld, v)]) hroom (X _ _ ho) rfl hlim (codeRec_of X hcd) rfl (BindsTo.of_eq (hbind _ _)) ?_ ?_ (fun h₁ hn k => ?_) rfl rfl rfl
  · intro y hy
    have hy : y ∈ iN fld := hy
    unfold iN at hy
    simp only [List.mem_cons, List.not_mem_nil, or_false] at hy
    rcases hy with rfl | rfl | rfl | rfl <;> exact fun z => nomatch z
  · intro y hy
    simp only [List.mem_cons, List.not_mem_nil, or_false] at hy
    rcases hy with rfl | rfl
    · exact e2
    · exact e1
  have X₁ : K.In h₁ := X.keeps k
  have hxL : hp.objs.size ≠ x := Nat.ne_of_gt (Heap.lt_size hx)
  have hx₁ := k _ _ hx
  have mS : List.lookup ("self" : Str) (List.reverse [(("self" : Str), Value.ref x), (fld, v)]) = some (.ref x) := by
    show List.lookup ("self" : Str) [(fld, v), (("self" : Str), Value.ref x)] = _
    have z : (("self" : Str) == fld) = false := by simpa using Ne.symm T.f1
    simp [List.lookup, z]
  have mF : List.lookup fld (List.reverse [(("self" : Str), Value.ref x), (fld, v)]) = some v := by
    show List.lookup fld [(fld, v), (("self" : Str), Value.ref x)] = _
    simp [List.lookup]
  refine ks_wpAt_execs_cons (ks_wpAt_Expr_any (ks_wpAt_MethodCall (o := iSup q) (name := "__init__") (he := hev _) ?_))
  have oC := X₁ _ _ hC
  refine ks_wpAt_super_base (env := callEnv (ksFn "__init__" qual (iA fld p1 p2) (iB fld msg q) (iS fld) .none kV doc pm an (.ref cda) ct cc) hp.objs.size fI) e4 e3 (by decide) rfl (X₁ _ _ ho) rfl rfl rfl (X₁ _ _ hcda) rfl hvs hfile T.htop ?_
  refine ks_loadName_global rfl e4 (loadGlobal_builtin (hG.keeps k) T.hsup (hB.keeps k) ((hbb _ (by decide +kernel)).trans (by first | boot_by_name | rfl | kernel_rfl)) ⟨rfl, ?_⟩)
  refine wpAny_loadName_free rfl e3 rfl ⟨_, X₁ _ _ hcc, rfl⟩ ?_
  refine wpAny_loadName_local rfl e2 hn mS ?_
  refine ks_wpAny_isType_cls oC rfl ⟨rfl, ?_⟩
  refine ks_wpAny_call_super oC rfl hx₁ rfl (fun c e => (nomatch e)) (looks_mroIn X₁ T.mroS) (fun h₂ hso k₂ => ?_)
  have X₂ : K.In h₂ := X₁.keeps k₂
  have hx₂ := k₂ _ _ hx₁
  have hsup : alongIn K "__init__" (((Value.ref C :: bm).dropWhile (· != .ref C)).drop 1) = some (some (.builtin "ValueError.__init__")) := by
    have z := T.sup
    unfold ks_superIn at z
    rw [hcl] at z
    exact z
  have I₂ : InstAt h₂ x (excO C t0) C none := ⟨hx₂, rfl, rfl, trivial⟩
  refine kxs_getMethod kxs_ValueError hso (looks_opaque X₂ T.opq) (l₀ := .ref C :: bm) ?_ rfl X₂ hsup (I₂.type.andThen (looks_subIn X₂ T.subV)) (ks_ne X₂ I₂ hcl) (by decide) ?_
  · exact fun A Q E s k q => wpAny_bind ((looks_clsIn X₂ hcl) A _ E s k (wpAny_pure q))
  have hu : (h₂.push (kxs_mw "ValueError.__init__" x)).get? h₂.objs.size = some (kxs_mw "ValueError.__init__" x) := Heap.get?_push_at rfl rfl
  have k₃ : ∀ b o, h₂.get? b = some o → (h₂.push (kxs_mw "ValueError.__init__" x)).get? b = some o := fun b o e => Heap.get?_push_of_some _ e
  have X₃ := X₂.keeps k₃
  have hn₃ : (h₂.push (kxs_mw "ValueError.__init__" x)).Ns hp.objs.size _ := (hn.keeps k₂).keeps k₃
  refine kxs_callWith (i := "ValueError.__init__") (x := x) rfl (evalArgs_plain ?_)
  show wpAny _ _ (spliced ((false, eval (iArg fld msg q) _) :: backTo q.h (starEach [] _))) _ _ _
  refine Calls.spliced_cons (told_ok hn₃ mF hr T.ml rfl e1 T.f4 fun u tk' => Calls.spliced_nil ⟨hu, ?_⟩)
  show wpAny _ _ (call (.ref h₂.objs.size) [u]) _ _ _
  refine call_mw (X₃ _ _ hC) (k₃ _ _ hx₂) hu (one_size _) fun h₄ t1 k₄ sz₄ hx₄ => ?_
  show wpAt _ _ _ (execs _ _) _ _ _
  refine wpAt_of_wpAny ?_
  have X₄ : K.In h₄ := kept_but X₃ hnx k₄
  have hn₄ : h₄.Ns hp.objs.size (fun x_1 => List.lookup x_1 (List.reverse [(("self" : Str), Value.ref x), (fld, v)])) := by
    obtain ⟨oL, es, ep, hL, r⟩ := hn₃
    exact ⟨oL, es, ep, k₄ _ _ hxL hL, r⟩
  refine wpAny_execs_cons (plainObj_wpAny_Assign_Attribute ?_)
  refine ESX.ldL hn₄ mF (ESX.ldL hn₄ mS ?_ rfl e2) rfl e1 T.f4
  refine set_plain X₄ (ox := excO C t1) (od := none) ⟨hx₄, rfl, rfl, trivial⟩ T.sa ?_
  refine exc_osa X₄ hx₄ hcl (show refsVE (.ref C :: bm) = true from hbm) rfl T.noN (fun h₅ tk₅ dx k₅ dn dne hx₅ hn₅ => ?_)
  show wpAny _ _ (execs _ _) _ _ _
  have z : hp.objs.size < h₄.objs.size := hn₄.lt
  exact wpAny_execs_nil (hq h₅ tk₅ dx ⟨fun b o hb e => k₅ b o hb (k₄ b o hb (k₃ b o (k₂ b o (k b o e)))), ⟨t1, hx₅⟩, Nat.le_of_lt (Nat.lt_of_lt_of_le z dn), dne, hn₅⟩)
end
section
variable {prog : Program} {w : World} {A : Around} {R : Result → Shared → Prop} {K : Frag} {mg mb : Str → Option Value} {nm fld msg : Str} {C fI : Addr}
theorem exc_made (T : ExTxt prog K mg nm fld msg C fI) {v : Value} {hp : Heap} {g : Array GenState} {dr : Drawn} {tk : Nat} {os : OsState} (X : K.In hp) (hlim : hp.NoLimit) (hG : hp.Ns mainGlobals mg) (hB : hp.Ns builtinsNs mb) (hbb : ∀ x : Str, x ≠ "__name__" → mb x = bootBuiltins x) (hroom : A.depth + 1 < recursionLimit) (hr : Rp v)
    (hq : ∀ h' tk' e d, OwnMade hp h' e C d fld v → R (.ok (.ret (.ref e))) ⟨h', g, dr, tk', os⟩) :
    codeAny (model prog w) A (.call (.ref C) ⟨[v], []⟩) R ⟨hp, g, dr, tk, os⟩ := by
  obtain ⟨nm', q', N, bs, bm, sn, sub, ab, col, dd, k0, k1, k2, k3, k5, hC, hbm⟩ := T.cls
  have k : ∀ b o, hp.get? b = some o → ((hp.push (kdv_tup [v])).push (excO C hp.objs.size)).get? b = some o := fun b o e => Heap.get?_push_of_some _ (Heap.get?_push_of_some _ e)
  have hget : ((hp.push (kdv_tup [v])).push (excO C hp.objs.size)).get? (hp.objs.size + 1) = some (excO C hp.objs.size) := by heap_get
  have hnx : K.lookup (hp.objs.size + 1) = none := by
    cases e : K.lookup (hp.objs.size + 1) with
    | none => rfl
    | some o =>
      have z : hp.get? (hp.objs.size + 1) = some o := X _ _ e
      exact absurd (Nat.lt_of_succ_lt (Heap.lt_size z)) (Nat.lt_irrefl _)
  refine call_own F.excBase_ValueError (fun X => refsVE_contains X bm hbm) (X _ _ hC) (looks_findIn X T.iC) (fun self => bind_fn X self T.tC) (one_size v) ?_
  refine exc_init (tk := tk) T (X.keeps k) (hlim.keeps k) (hG.keeps k) (hB.keeps k) hbb hget hnx ?_ hr fun h' tk' dx ⟨k', ⟨t1, hx⟩, dn, dne, hns⟩ => ?_
  · show A.depth + 1 < recursionLimit
    exact hroom
  · have old : ∀ b o, hp.get? b = some o → h'.get? b = some o := fun b o e => k' b o (Nat.ne_of_lt (Nat.lt_succ_of_lt (Heap.lt_size e))) (k b o e)
    have z : hp.objs.size + 1 + 1 ≤ dx := by
      first
        | (simpa only [Heap.size_push] using dn)
        | exact dn
        | (have q := dn; rw [Heap.size_push, Heap.size_push] at q; exact q)
    exact ⟨rfl, hq h' tk' (hp.objs.size + 1) dx ⟨old, Nat.le_succ _, ⟨_, _, hx, rfl, rfl, rfl, rfl⟩, Nat.le_trans (Nat.le_trans (Nat.le_succ _) (Nat.le_succ _)) z, dne, hns⟩⟩
end
end XExc
end PySem
namespace XL
open PySem PySem.Spec PyProof.Rows L2
/-! ### the error, over the abstract heap -/
def RpV (v : V) : Prop := (∃ y : Str, v = .str y ∧ (reprText y).length ≤ 100000) ∨ ∃ i : Int, v = .int i ∧ i.natAbs.log2 < 1920
theorem RpV.rp {v : V} {u : Value} (h : RpV v) (r : RelV v u) : PySem.XExc.Rp u := by
  rcases h with ⟨y, rfl, hz⟩ | ⟨i, rfl, hz⟩
  · obtain ⟨t, rfl⟩ := r
    exact .inl ⟨y, t, rfl, hz⟩
  · obtain ⟨t, rfl⟩ := r
    exact .inr ⟨i, t, rfl, hz⟩
theorem relO_one {fld : Str} {v : V} {v' : Value} (r : RelV v v') (f : Str) : RelO (List.lookup f [(fld, v)]) (if f = fld then some v' else none) := by
  by_cases hw : f = fld
  · subst hw
    rw [if_pos rfl]
    have q : List.lookup f [(f, v)] = some v := by simp [List.lookup]
    rw [q]
    exact r
  · rw [if_neg hw]
    have qw : (f == fld) = false := by simpa using hw
    have q2 : List.lookup f [(fld, v)] = none := by simp [List.lookup, qw]
    rw [q2]
    trivial
section
variable {X : Cx} {C fI : Addr} {nm fld msg : Str}
def tMkX (C : Addr) (fld : Str) (ta : TA) : L2.St → Hp → XK → Prop := fun σ H Q => ta σ H fun vs H1 => ∃ v, vs = [v] ∧ RpV v ∧ ∀ d, H1 d = none → Q (.ref C) (some d) (upd H1 d (.xd [(fld, v)]))
theorem pmk_x {a : Expr} {ta : TA} {p pos : Pos} {k : Nat} (T : PySem.XExc.ExTxt X.prog X.K X.mg nm fld msg C fI) (hr : Room (k + 1) X.A) (ha : PA X [a] ta) (hg : Gl X nm := by rfl) (hd : (nm == ("__debug__" : Str)) = false := by decide)
    (he : starEach (a :: []) X.env = (false, eval a X.env) :: starEach [] X.env := by rfl) (hpl : (backTo pos (starEach [] X.env)).any (·.1) = false := by rfl) :
    PMk X (.Call (.Name nm p) [a] [] pos) (tMkX C fld ta) := by
  intro pins s σ H Q I h
  refine wpAny_Call_Name_kw (ld_glob I hg T.gC ?_ hd)
  refine PySem.W.callWith_K (h₀ := X.base) I.ok.mod.kin T.kC (thn (ha.run pos pins s σ H _ I h) fun us s1 hh => ?_) he hpl
  obtain ⟨vs, H1, I1, r1, v, ev, rp, q1⟩ := hh
  subst ev
  refine ⟨I1.kIn, ?_⟩
  cases r1 with
  | cons rv rn =>
    rename_i v' us'
    cases rn
    show wpAny _ _ (call (.ref C) [v']) _ _ _
    have hlim := I1.nolimit
    have hG := I1.mod.glob.keeps I1.bk
    obtain ⟨mb, hB, hbb⟩ := I1.mod.blt
    have hB := hB.keeps I1.bk
    obtain ⟨hp, g, dr, tk, os⟩ := s1
    refine wpAny_call (PySem.XExc.exc_made T I1.kIn hlim hG hB hbb (by have := hr.dp; omega) (rp.rp rv) fun h' tk' e d M => ?_)
    show MkP X pins σ Q (.ref e) ⟨h', g, dr, tk', os⟩
    obtain ⟨oe, fv, hoe, hc, hd, hdat, h1⟩ := M.obj
    have hns := M.ns
    obtain ⟨G', g1, g2⟩ := restrict h' fun b => decide (b ≠ e)
    have gk : ∀ b, b ≠ e → G'.get? b = h'.get? b := fun b hb => g1 b (decide_eq_true hb)
    have ge : G'.get? e = none := g2 e (by simp)
    have old : ∀ b o, hp.get? b = some o → G'.get? b = some o := fun b o q => (gk b (Nat.ne_of_lt (Nat.lt_of_lt_of_le (Heap.lt_size q) M.new))).trans (M.keep b o q)
    have ob : ObjOk X.prog X.w (upd H1 d (.xd [(fld, v)])) G' d (.xd [(fld, v)]) :=
      ⟨_, hns.at (fun o q => (gk d M.dne).trans q), fun f => relO_one rv f⟩
    have J : Inv X pins σ (upd H1 d (.xd [(fld, v)])) ⟨G', g, dr, tk', os⟩ := I1.laid (t' := tk') old M.dbig ob
    refine ⟨e, oe, fv, ⟨G', g, dr, tk', os⟩, _, .ref C, some d, rfl, J, fun b o q => ?_, ge, hoe, ⟨hc, hd⟩, hdat, h1, ?_, rfl, I1.bare, raises_own T.exC T.tyC, q1 d (I1.hok.fresh M.dbig)⟩
    · by_cases hb : b = e
      · have q' : G'.get? b = some o := q
        rw [hb, ge] at q'; cases q'
      · exact (gk b hb).symm.trans q
    · rw [upd_ne (Ne.symm M.dne)]
      exact I1.hok.fresh M.new
def tRaiseX (C : Addr) (fld : Str) (W : WX) (ta : TA) : TS := fun _ σ H => tMkX C fld ta σ H fun cls d H' => W cls d σ H'
theorem ps_raiseX {a : Expr} {ta : TA} {W : WX} {p pos pos2 : Pos} {k : Nat} (hc : X.calm = true) (T : PySem.XExc.ExTxt X.prog X.K X.mg nm fld msg C fI) (hr : Room (k + 1) X.A) (tk : Takes X W) (ha : PA X [a] ta) (hg : Gl X nm := by rfl) (hd : (nm == ("__debug__" : Str)) = false := by decide)
    (he : starEach (a :: []) X.env = (false, eval a X.env) :: starEach [] X.env := by rfl) (hpl : (backTo pos (starEach [] X.env)).any (·.1) = false := by rfl) :
    PS X (.Raise (some (.Call (.Name nm p) [a] [] pos)) none pos2) (tRaiseX C fld W ta) := ps_raise hc tk (pmk_x T hr ha hg hd he hpl)
end
/-! ### isinstance(e, c), isinstance(e, (c, ..)) of a caught error -/
section
variable {X : Cx} {a : Addr} {oe : Obj} {cls : Value} {d : Option Addr} {pn : List (Addr × Obj)}
inductive ClsRs : List V → List Value → Prop where
  | nil : ClsRs [] []
  | cons {c : Addr} {cs : List V} {us : List Value} (h : ClsRs cs us) : ClsRs (.ref c :: cs) (.ref c :: us)
theorem ClsRs.eq : ∀ {cs : List V} {us : List Value}, ClsRs cs us → ∀ {ws : List Value}, Vals cs ws → ws = us
  | _, _, .nil, _, .nil => rfl
  | _, _, .cons h, _, .cons r rs => by
    cases r
    rw [h.eq rs]
def rIsX (K : PySem.W.Frag) (cls : Value) (d : Option Addr) (a : Addr) : List V → Hp → VK → Prop := fun xs H Q => ∃ (D dd : Addr) (fs : List (Str × V)) (b : Bool), cls = .ref D ∧ d = some dd ∧ H dd = some (.xd fs) ∧ ExcC K D ∧
  ((∃ (c : V) (cv : Value), xs = [.ref a, c] ∧ (∀ u, RelV c u → u = cv) ∧ PySem.W.kitOne K (.ref D) cv = some b) ∨ ∃ (p : Addr) (cs : List V) (us : List Value), xs = [.ref a, .ref p] ∧ H p = some (.tup cs) ∧ ClsRs cs us ∧ PySem.W.kitAny K (.ref D) us = some b) ∧ Q (.bl b) H
theorem call_isX (hz : Zc cls d oe) (hf : ∃ vs, oe.data = .fields vs) : CallR (X.suite a ((a, oe) :: pn)) (.builtin "isinstance") (rIsX X.K cls d a) := by
  intro pins s σ H xs us Q I r h
  obtain ⟨D, dd, fs, b, rfl, rfl, hd, C, hcs, q⟩ := h
  obtain ⟨hget, _⟩ := I.pin (a, oe) (List.mem_append.mpr (.inl List.mem_cons_self))
  obtain ⟨vs, hv⟩ := hf
  have hx : ObjOk X.prog X.w H s.heap dd (.xd fs) := I.hok dd _ hd
  obtain ⟨mA, hns, _⟩ := hx
  obtain ⟨od, ho, _⟩ := lookIn_ns hns
  have J : PySem.W.InstAt s.heap a oe D (some od) := ⟨hget, hz.1, by unfold PySem.W.notCls; rw [hv] <;> rfl, by rw [hz.2]; exact ho⟩
  have cl : (PySem.W.clsIn X.K D).isSome = true := by
    obtain ⟨cd, hc, _⟩ := PySem.W.any_some C.hd
    rw [hc]
    rfl
  have Z := PySem.W.kitx_exc (x := a) (ox := oe) (od := some od) cl C.hg C.hk C.hs C.ha C.hn C.ht C.hm
  rcases hcs with ⟨c, cv, rfl, hcv, e⟩ | ⟨p, cs, us2, rfl, hp, hc, e⟩
  · cases r with
    | cons rx rr =>
      cases rr with
      | cons rt rr =>
        cases rr
        cases rx
        have ec := hcv _ rt
        subst ec
        exact PySem.W.kia_one Z I.kIn J e (fun z => nomatch z) fun tk => ⟨.bl b, H, I.kept (t' := tk) fun _ _ z => z, rfl, q⟩
  · cases r with
    | cons rx rr =>
      cases rr with
      | cons rt rr =>
        cases rr
        cases rx
        cases rt
        obtain ⟨_, its, rv, o, h1, h2, n, h3⟩ := (show ObjOk X.prog X.w H s.heap p (.tup cs) from I.hok p _ hp)
        have ei := hc.eq rv
        subst ei
        obtain ⟨oc, od', oda, osl⟩ := o
        dsimp only at h2 h3
        subst h2 h3
        exact PySem.W.kia_tup Z I.kIn J h1 e (fun z => nomatch z) fun tk => ⟨.bl b, H, I.kept (t' := tk) fun _ _ z => z, rfl, q⟩
end
/-! ### own [ ] and [ ] = within a try -/
section
variable {X : Cx} {CX : CXT} {C f : Addr} {fd : FuncData} {ps : List Str} {sp : Sp} {E : L2.St → XK} {n : Nat} {o i e : Expr} {to ti te : TE} {pos pos' : Pos}
def tIxOS (C : Addr) (sp : Sp) (E : L2.St → XK) (to ti : TE) : TE := fun σ H Q => to σ H fun x H1 => ti σ H1 fun y H2 => ∃ a dx fs, x = .ref a ∧ H2 a = some (.ins C dx fs) ∧ sp [.ref a, y] H2 Q (E σ)
theorem pe_ixOS (ho : PE X o to) (hi : PE X i ti) (F : FnOk X.prog X.w X.K X.mg X.base CX n f fd ps sp) (hs : PySem.W.findIn X.K (.ref C) "__getitem__" = some (some (.ref f))) (hf : PySem.W.fnIn X.K f = true) (hfn : PySem.W.isFn X.K (.ref f) = true)
    (hb : Binds X.K fd ps []) (hx : ∀ σ, PassesAt CX X σ (E σ)) (hr : Room (n + 1) X.A) (hsl : ∀ x v, subscripted i true (.ref x) v = runValue (.builtin "lifetime.subscript" ⟨[.ref x, v], []⟩) := by intro _ _; with_unfolding_all rfl) :
    PE X (.Subscript o i pos) (tIxOS C sp E to ti) := by
  refine ⟨fun pins s σ H Q I h => ?_⟩
  refine Subscript_ (thn (ho.run pins s σ H _ I h) fun v s1 ⟨x, H1, I1, r1, q1⟩ => thn (hi.run pins s1 σ H1 _ I1 q1) fun u s2 ⟨y, H2, I2, r2, q2⟩ => ?_)
  obtain ⟨a, dx, fs, rfl, ha, hsp⟩ := q2
  cases r1
  obtain ⟨mA, J, _⟩ := ins_get I2.hok ha
  obtain ⟨od, J, _⟩ := J.look
  obtain ⟨m, hF⟩ := I2.fr
  refine PySem.W.sub_K hF I2.ok.mod.kin J hs hf hfn ?_ (hsl _ _)
  have hl : ([Value.ref a, u] ++ []).length = ps.length := F.len _ _ _ _ hsp
  refine wpAny_call (codeAny_mono (F.run X.A.in1 X.stack s2 H2 ⟨[.ref a, u], []⟩ [.ref a, u] [.ref a, y] Q (E σ) hr.in1 I2.env0.in1 (hb s2 [.ref a, u] I2.kIn hl) (.cons rfl (.cons r2 .nil)) hsp) fun r s' hq => ?_)
  cases r with
  | error e => exact hx σ pins H2 s2 e s' I2 hq
  | ok fl =>
    cases fl with
    | ret u => exact I2.after hq
    | next => exact False.elim hq
    | brk => exact False.elim hq
    | cont => exact False.elim hq
def gSubS (C : Addr) (sp : Sp) (E : L2.St → XK) (to ti : TE) : TG := fun v σ H Q => to σ H fun x H1 => ti σ H1 fun y H2 => ∃ a dx fs, x = .ref a ∧ H2 a = some (.ins C dx fs) ∧ sp [.ref a, y, v] H2 (fun _ H' => Q σ H') (E σ)
theorem pg_subOS (ho : PE X o to) (hi : PE X i ti) (F : FnOk X.prog X.w X.K X.mg X.base CX n f fd ps sp) (hq : PySem.W.noSeq X.K C = true) (hs : PySem.W.findIn X.K (.ref C) "__setitem__" = some (some (.ref f))) (hfn : PySem.W.isFn X.K (.ref f) = true)
    (hb : Binds X.K fd ps []) (hx : ∀ σ, PassesAt CX X σ (E σ)) (hr : Room n X.A)
    (ha : ∀ v, assign (.Subscript o i pos) X.env v = (do
      let ov ← holding [v] (eval o X.env)
      let iv ← holding [v, ov] (eval i X.env)
      standAt pos
      holding [v, ov, iv] (setItem ov iv v)
      release [v, ov, iv] []) := by intro _; rfl) : PG X (.Subscript o i pos) (gSubS C sp E to ti) := by
  refine ⟨fun pins s σ H v u Q I r h => ?_⟩
  rw [ha]
  refine wpAny_bind (wpAny_holding (thn (ho.run pins s σ H _ I h) fun ov s1 ⟨x, H1, I1, r1, q1⟩ => ?_))
  refine wpAny_bind (wpAny_holding (thn (hi.run pins s1 σ H1 _ I1 q1) fun iv s2 ⟨y, H2, I2, r2, q2⟩ => ?_))
  obtain ⟨a, dx, fs, rfl, ha2, hsp⟩ := q2
  cases r1
  obtain ⟨mA, J, _⟩ := ins_get I2.hok ha2
  obtain ⟨od, J, _⟩ := J.look
  obtain ⟨m, hF⟩ := I2.fr
  refine wpAny_bind (wpAny_standAt (wpAny_bind (wpAny_holding (PySem.W.ksp_setItem hF I2.ok.mod.kin J hq hs hfn ?_))))
  refine wpAny_mono (run_fnS (us := [.ref a, iv, u]) (vs := [.ref a, y, v]) (E := E) F hr hb (hx σ) I2 (.cons rfl (.cons r2 (.cons r .nil))) hsp) (fun r s' q => ?_) fun _ _ e => e
  obtain ⟨z, H', I', rz, q⟩ := q
  exact wpAny_release ⟨σ, H', I', q⟩
end
end XL
set_option Elab.async false
set_option linter.all false
set_option maxRecDepth 100000
set_option maxHeartbeats 4000000
/-! XOwnIt: list(o), o an object whose own __iter__ hands on iter(t), t a tuple. -/
namespace XL
open PySem PySem.Spec PyProof.Rows L2
/-- an iterator over the tuple at t, the next place is i -/
def ItT (t it : Addr) (i : Nat) : HO := .ext fun h => IsTupIter h it t i
/-- .. that has ended -/
def ItTE (it : Addr) : HO := .ext fun h => ∃ o, h.get? it = some o
theorem itT_ok {P : Program} {w : World} {H : Hp} {h : Heap} {t it : Addr} {i : Nat} (e : IsTupIter h it t i) : ObjOk P w H h it (ItT t it i) := by
  obtain ⟨o, h1, h2⟩ := e
  exact ⟨⟨o, h1, h2⟩, ⟨_, h1⟩, fun g1 g2 ⟨o', q1, q2⟩ k => ⟨o', k _ q1, q2⟩⟩
theorem itTE_ok {P : Program} {w : World} {H : Hp} {h : Heap} {it : Addr} {o : Obj} (e : h.get? it = some o) : ObjOk P w H h it (ItTE it) := ⟨⟨o, e⟩, ⟨_, e⟩, fun g1 g2 ⟨o', q1⟩ k => ⟨o', k _ q1⟩⟩
section
variable {X : Cx} {pins : List (Addr × Obj)} {σ : L2.St} {H : Hp} {s : Shared}
theorem itT_get {t it : Addr} {i : Nat} (I : Inv X pins σ H s) (e : H it = some (ItT t it i)) : IsTupIter s.heap it t i := (I.hok it _ e).1
theorem call_iter_tup {M : Program} {w : World} {A : Around} {E : Value → Shared → Prop} {s : Shared} {t : Addr} {items : Array Value} {Q : Value → Shared → Prop} (ht : IsTup s.heap t items)
    (h : Q (.ref s.heap.objs.size) { s with heap := s.heap.push { cls := .type "tuple_iterator", data := .fields #[.ref t, .int 0 0] } }) : wpAny (model M w) A (call (.builtin "iter") [.ref t]) Q E s := by
  refine Calls.call_function_entry (by decide +kernel) (by decide +kernel) PySem.W.kdk_entry_iter (PySem.W.kdk_args_iter _) ?_
  unfold Builtin.«iter»
  refine wpAny_bind (m := someArgs "iter" 1 2 _) (wpAny_of_eq (a := [Value.ref t]) (by first | rfl | kernel_rfl!) ?_)
  show wpAny _ _ (pyIter (.ref t) >>= _) _ _ _
  refine wpAny_bind (iter_tuple ht ?_)
  exact wpAny_pure ⟨_, rfl, h⟩
/-- iter(t) -/
def rIterT (K : PySem.W.Frag) : List V → Hp → VK → Prop := fun xs H Q => ∃ (t : Addr) (zs : List V), xs = [.ref t] ∧ SqT K H t zs ∧ ∀ it, H it = none → Q (.ref it) (upd H it (ItT t it 0))
theorem call_iterT : CallR X (.builtin "iter") (rIterT X.K) := by
  intro pins s σ H xs us Q I r h
  obtain ⟨t, zs, rfl, hq, q⟩ := h
  obtain rfl := Vals.ref1 r
  obtain ⟨its, rv, pl, hz⟩ := I.tuple hq
  refine call_iter_tup pl ?_
  exact ⟨.ref s.heap.objs.size, _, I.laid (t' := s.toks) (fun b u e => Heap.get?_push_of_some _ e) (Nat.le_refl _) (itT_ok ⟨_, Heap.get?_push_size _ rfl, rfl, rfl⟩), rfl, q _ (I.hok.fresh (Nat.le_refl _))⟩
theorem call_iterTK (K : PySem.W.Frag) (h : X.K = K := by rfl) : CallR X (.builtin "iter") (rIterT K) := h ▸ call_iterT
theorem sqT_upd {K : PySem.W.Frag} {H : Hp} {t x : Addr} {zs : List V} {o : HO} (h : SqT K H t zs) (hx : ∀ o' xs, H x ≠ some (.tup xs) ∧ H x ≠ some (.frz o' (.tup xs))) : SqT K (upd H x o) t zs := by
  rcases h with (h | ⟨ob, h⟩) | h
  · have ne : t ≠ x := fun z => (hx default zs).1 (by rw [← z]; exact h)
    exact .inl (.inl (by rw [upd_ne ne]; exact h))
  · have ne : t ≠ x := fun z => (hx ob zs).2 (by rw [← z]; exact h)
    exact .inl (.inr ⟨ob, by rw [upd_ne ne]; exact h⟩)
  · exact .inr h
/-- the end of a tuple: the iterator itself stays there -/
theorem next_tup_end {P : Program} {w : World} {A : Around} {E : Value → Shared → Prop} {s : Shared} {it t : Addr} {i : Nat} {items : Array Value} {Q : Option Value → Shared → Prop} (hh : A.handled = none)
    (hit : IsTupIter s.heap it t i) (ht : IsTup s.heap t items) (hx : items[i]? = none)
    (hQ : ∀ h', Heap.ExtBut it s.heap h' → (∃ o, h'.get? it = some o) → Q none { s with heap := h' }) : wpAny (model P w) A (pyNext (.ref it)) Q E s := by
  obtain ⟨o, ho, hc, hd⟩ := id hit
  obtain ⟨ol, hol, _, nl, hdl⟩ := ht
  unfold pyNext
  refine wpAny_bind (wpAny_attempt (wpAny_callSpecial?_slot (name := Str.ofString "__next__") hit.typeIs slot_tupleiter_next (wpAny_call_entry slot_tupleiter_next hit.typeIs entry_tupleiter_next ?_ (args_tupleiter_next _))))
  show wpAny _ _ (field (.ref it) 0 >>= _) _ _ s
  refine wpAny_bind (wpAny_field ho hd (x := .ref t) rfl (PySem.W.KFB.if_not rfl ?_))
  show wpAny _ _ (field (.ref it) 1 >>= _) _ _ s
  refine wpAny_bind (wpAny_field ho hd (x := .int i 0) rfl ?_)
  show wpAny _ _ (seqItems? (.ref t) >>= _) _ _ s
  refine wpAny_bind (wpAny_seqItems hol hdl ?_)
  simp only [Int.toNat_natCast, hx]
  refine wpAny_bind (wpAny_rule (wpAny_bind (wpAny_setField ho hd (by simp) ?_)))
  show wpAny _ _ (newExc (.type "StopIteration") [] >>= _) _ _ _
  refine wpAny_bind ?_
  simp only [newExc, newTuple]
  refine wpAny_bind (wpAny_newObj_type ?_ (by size_fits))
  refine wpAny_bind (m := firstArgMember _ _) (wpAny_of_eq (a := Value.none) (by first | rfl | (simp only [firstArgMember]; rfl)) ?_)
  refine wpAny_newObj_type ?_ (by size_fits)
  simp only [raiseNew]
  refine wpAny_bind (wpAny_handled ?_)
  first | rw [show A.in1.handled = none from hh] | rw [hh]
  refine wpAny_bind (wpAny_pure (wpAny_throw ?_))
  refine wpAny_bind (wpAny_isInstance (T := "StopIteration") (b := true) ⟨_, Heap.get?_push_size _ rfl, rfl⟩ isSubtype_stop ?_)
  exact wpAny_pure (hQ _ (((Heap.SameBut.update ..).extBut.push _).push _) ⟨_, Heap.get?_push_of_some _ (Heap.get?_push_of_some _ (Heap.get?_update_self _ ho (Obj.isFreed_of_fields (Obj.data_mapFields hd _))))⟩)
/-- the loop that fills the list at q -/
theorem loop_tup {A1 : Around} {Rs : Result → Shared → Prop} {q it t : Addr} {zs : List V} (hd : A1.in1.handled = none) (hne : q ≠ it) :
    ∀ (k i : Nat) (H : Hp) (s : Shared), zs.length - i = k → i ≤ zs.length → Inv X pins σ H s → H it = some (ItT t it i) → SqT X.K H t zs → H q = some (.lst (zs.take i)) →
      (∀ s', Inv X pins σ (upd (upd H it (ItTE it)) q (.lst zs)) s' → Rs (.ok (.ret .none)) s') → codeAny (model X.prog X.w) A1 (.builtin "list.extend.loop" ⟨[.ref q, .ref it, .none], []⟩) Rs s := by
  intro k
  induction k with
  | zero =>
    intro i H s hk hi I hit ht hq hR
    obtain ⟨its, rv, pl, hz⟩ := I.tuple ht
    have hin : zs.length = its.length := rv.length
    have mu : Mut (H it) := by rw [hit]; exact True.intro
    refine codeAny_builtin PySem.F.entry_extend_loop ?_
    rw [Around.under_plainId PySem.F.plain_extend_loop _]
    show wpAny _ A1.in1 (pyNext (.ref it) >>= _) _ _ s
    have ei : i = zs.length := by omega
    refine wpAny_bind (next_tup_end hd (itT_get I hit) pl (by rw [List.getElem?_toArray]; exact List.getElem?_eq_none (by omega)) fun h' eb ⟨o, ho⟩ => wpAny_pure ?_)
    have I2 : Inv X pins σ (upd H it (ItTE it)) { s with heap := h' } := I.write (x := it) (e := it) (t' := s.toks) mu (.inl rfl) (fun b o nb z => eb b o nb z) ⟨_, ho⟩ (itTE_ok ho)
    refine hR _ ?_
    have e : upd (upd H it (ItTE it)) q (.lst zs) = upd H it (ItTE it) := by
      funext b
      by_cases hb : b = q
      · rw [hb, upd_same, upd_ne hne, hq, ei, List.take_length]
      · rw [upd_ne hb]
    rw [e]
    exact I2
  | succ k ih =>
    intro i H s hk hi I hit ht hq hR
    obtain ⟨its, rv, pl, hz⟩ := I.tuple ht
    have hin : zs.length = its.length := rv.length
    have mu : Mut (H it) := by rw [hit]; exact True.intro
    have hlt : i < zs.length := by omega
    have hzi := List.getElem?_eq_getElem hlt
    obtain ⟨u, hu, ru⟩ := rv.get hzi
    refine codeAny_builtin PySem.F.entry_extend_loop ?_
    rw [Around.under_plainId PySem.F.plain_extend_loop _]
    show wpAny _ A1.in1 (pyNext (.ref it) >>= _) _ _ s
    refine wpAny_bind (next_tuple_item (itT_get I hit) pl (by rw [List.getElem?_toArray]; exact hu) fun h' hit' sb => ?_)
    obtain ⟨o, ho, _⟩ := id hit'
    have I2 : Inv X pins σ (upd H it (ItT t it (i + 1))) { s with heap := h' } := I.write (x := it) (e := it) (t' := s.toks) mu (.inl rfl) (fun b o nb z => (sb.2 b nb).trans z) ⟨_, ho⟩ (itT_ok hit')
    have hq2 : upd H it (ItT t it (i + 1)) q = some (.lst (zs.take i)) := by rw [upd_ne hne]; exact hq
    show wpAny _ A1.in1 (updateSeq q (·.push u) >>= _) _ _ _
    obtain ⟨z, its2, c, r2, hl, e⟩ := I2.lstM hq2
    have l2 : its2.length ≤ 16777215 := by
      rw [← hl, List.length_take]
      have := hz
      rw [sizeLine_eq] at this
      omega
    refine wpAny_bind (wpAny_updateSeq e rfl (wpAny_pure ⟨plainId_quiet PySem.F.plain_extend_loop _, ?_⟩) (by rw [List.size_toArray, sizeLine_eq]; omega) (by show (its2.toArray.push u).size ≤ sizeLine + 1; rw [Array.size_push, List.size_toArray, sizeLine_eq]; omega))
    have I3 := I2.lset (f := (·.push u)) (its' := its2 ++ [u]) (ys := zs.take i ++ [zs[i]]) (t' := s.toks) hq2 e (by simp) (r2.append (.cons ru .nil)) (by rw [List.length_append, List.length_singleton, List.length_take, sizeLine_eq]; rw [sizeLine_eq] at hz; omega)
    refine ih (i + 1) _ _ (by omega) (by omega) I3 ?_ ?_ ?_ fun s' I4 => hR s' ?_
    · rw [upd_ne (Ne.symm hne), upd_same]
    · exact sqT_upd (sqT_upd ht fun o' xs => ⟨by rw [hit]; exact fun z => (nomatch z), by rw [hit]; exact fun z => (nomatch z)⟩) fun o' xs => ⟨by rw [hq2]; exact fun z => (nomatch z), by rw [hq2]; exact fun z => (nomatch z)⟩
    · rw [upd_same, take_snoc hzi]
    · have e4 : upd (upd (upd (upd H it (ItT t it (i + 1))) q (.lst (zs.take i ++ [zs[i]]))) it (ItTE it)) q (.lst zs) = upd (upd H it (ItTE it)) q (.lst zs) := by
        funext b
        by_cases hb : b = q
        · rw [hb, upd_same, upd_same]
        · rw [upd_ne hb, upd_ne hb]
          by_cases hb2 : b = it
          · rw [hb2, upd_same, upd_same]
          · rw [upd_ne hb2, upd_ne hb2, upd_ne hb, upd_ne hb2]
      rw [← e4]
      exact I4
/-- list(o) -/
def rListIt (K : PySem.W.Frag) (C : Addr) (sp : Sp) (E : XK) : List V → Hp → VK → Prop := fun xs H Q => ∃ a dx fs, xs = [.ref a] ∧ H a = some (.ins C dx fs) ∧
  ∀ q, H q = none → sp [.ref a] (upd H q (.lst [])) (fun v H1 => ∃ (it t : Addr) (zs : List V), v = .ref it ∧ H1 it = some (ItT t it 0) ∧ SqT K H1 t zs ∧ H1 q = some (.lst []) ∧ (∃ dx' fs', H1 a = some (.ins C dx' fs')) ∧ Q (.ref q) (upd (upd H1 it (ItTE it)) q (.lst zs))) E
theorem hint_own {M : Model} {A : Around} {E : Value → Shared → Prop} {s : Shared} {Q : Bool → Shared → Prop} {K : PySem.W.Frag} {C a : Addr} {ox : Obj} {od : Option Obj} (h1 : PySem.W.findIn K (.ref C) "__len__" = some none) (h2 : PySem.W.findIn K (.ref C) "__length_hint__" = some none)
    (hK : K.In s.heap) (J : PySem.W.InstAt s.heap a ox C od) (h : Q true s) : wpAny M A (Builtin.List.listLengthHint (.ref a)) Q E s := by
  unfold Builtin.List.listLengthHint
  refine wpAny_bind (wpAny_bind (J.type.here ((PySem.W.looks_findIn hK h1).here (PySem.W.KFB.if_not rfl (PySem.W.KFB.if_not rfl ?_)))))
  exact wpAny_bind (wpAny_bind (J.type.here ((PySem.W.looks_findIn hK h2).here (wpAny_pure h))))
theorem call_listIt {C f : Addr} {fd : FuncData} {ps : List Str} {sp : Sp} {E : XK} {n : Nat} {CX : CXT} (hs : PySem.W.findIn X.K (.ref C) "__iter__" = some (some (.ref f))) (hfn : PySem.W.isFn X.K (.ref f) = true) (n1 : PySem.W.findIn X.K (.ref C) "__len__" = some none) (n2 : PySem.W.findIn X.K (.ref C) "__length_hint__" = some none)
    (F : FnOk X.prog X.w X.K X.mg X.base CX n f fd ps sp) (hb : Binds X.K fd ps []) (hx : Passes CX X E) (hr : Room (n + 2) X.A) : CallR X (.type "list") (rListIt X.K C sp E) := by
  intro pins s σ H xs us Q I rv h
  obtain ⟨a, dx, fs, rfl, ha, hq⟩ := h
  obtain ⟨u, rfl, ru⟩ := rv.one
  cases ru
  have sb : Sub X n X.A.in1.in1 := (Sub.in1 (Sub.in1 (⟨hr, rfl⟩ : Sub X (n + 2) X.A)))
  refine callType_codes (Q₁ := fun obj s₁ => obj = .ref s.heap.objs.size ∧ s₁ = { s with heap := s.heap.push { cls := .type "list", data := .seq #[] } }) PySem.F.called_list (PySem.F.typeCall_list_1 _) PySem.F.entry_list_init
    (code_list_new _ ⟨rfl, rfl⟩) fun obj s₁ h₁ => ?_
  obtain ⟨rfl, rfl⟩ := h₁
  have hS : (s.heap.push { cls := .type "list", data := .seq #[] }).get? s.heap.objs.size = some { cls := .type "list", data := .seq #[] } := Heap.get?_push_size _ rfl
  refine ⟨⟨_, hS, rfl⟩, PySem.F.args_list_init_2 _ _, ?_⟩
  have fr : H s.heap.objs.size = none := I.hok.fresh (Nat.le_refl _)
  have hsp := hq _ fr
  have I1 : Inv X pins σ (upd H s.heap.objs.size (.lst [])) { s with heap := s.heap.push { cls := .type "list", data := .seq #[] } } := I.lnew (its := []) (t' := s.toks) .nil (Nat.zero_le _)
  show wpAny _ _ (do let old ← Builtin.List.listItems (.ref s.heap.objs.size); Builtin.List.listUpdate (.ref s.heap.objs.size) (fun _ => #[]); letGo old.toList.reverse; Builtin.List.listExtendWith (.ref s.heap.objs.size) (.ref a) .none) _ _ _
  refine wpAny_bind ?_
  unfold Builtin.List.listItems
  refine wpAny_bind (wpAny_seqItems hS rfl (wpAny_pure ?_))
  show wpAny _ _ (updateSeq s.heap.objs.size (fun _ => #[]) >>= fun _ => letGo (#[] : Array Value).toList.reverse >>= fun _ => Builtin.List.listExtendWith (.ref s.heap.objs.size) (.ref a) .none) _ _ _
  refine wpAny_bind (wpAny_updateSeq hS rfl ?_)
  have I2 := I1.lset (f := fun _ => #[]) (its := []) (its' := []) (ys := []) (t' := s.toks) upd_same hS rfl .nil (Nat.zero_le _)
  rw [upd_upd] at I2
  refine wpAny_bind (wpAny_letGo ?_)
  have ha2 : upd H s.heap.objs.size (.lst []) a = some (.ins C dx fs) := by rw [upd_ne (ne_of_none ha fr)]; exact ha
  have hne : s.heap.objs.size ≠ a := Ne.symm (ne_of_none ha fr)
  generalize hH2 : upd H s.heap.objs.size (.lst []) = H2 at *
  generalize s.heap.objs.size = q at *
  obtain ⟨mA, J, _⟩ := ins_get I2.hok ha2
  obtain ⟨od, J, _⟩ := J.look
  obtain ⟨m0, hF⟩ := I2.fr
  unfold Builtin.List.listExtendWith
  refine wpAny_bind (J.type.here ?_)
  have h1 : Builtin.List.listSameRef (.ref q) (.ref a) = false := by simp [Builtin.List.listSameRef, hne]
  have h2 : (Value.ref C == Value.type "list") = false := rfl
  have h3 : (Value.ref C == Value.type "tuple") = false := rfl
  simp only [h1, h2, h3, Bool.or_false, Bool.false_eq_true, if_false]
  refine wpAny_bind (PySem.W.owit_iter hF I2.ok.mod.kin J hs hfn ?_)
  have e0 : ∀ {s : Shared} {H : Hp}, Inv X pins σ H s → Env0 X.prog X.w X.K X.mg X.base X.A.in1.in1 X.stack s H := fun {s H} I => by
    have e := I.env0
    exact ⟨by rw [sb.fr]; exact e.frames, e.mod, e.bs, e.bsz, e.funs, e.frf, e.hok, e.bare⟩
  have hl := F.len _ _ _ _ hsp
  have r2 : Vals [V.ref a] [Value.ref a] := .cons rfl .nil
  refine wpAny_call (codeAny_mono (F.run X.A.in1.in1 X.stack _ _ ⟨[.ref a], []⟩ [.ref a] [.ref a] _ E sb.room (e0 I2) (by
    have := hb _ [.ref a] I2.kIn (by simpa using hl)
    simpa using this) r2 hsp) fun r s' hq' => ?_)
  cases r with
  | error e => exact hx pins σ _ _ e s' I2 hq'
  | ok fl =>
    cases fl with
    | next => exact False.elim hq'
    | brk => exact False.elim hq'
    | cont => exact False.elim hq'
    | ret u =>
      obtain ⟨v, H', I', rv, it, t, zs, ev, hit, ht, hqq, ⟨dx', fs', ha'⟩, hQ⟩ := I2.after hq'
      subst ev
      cases rv
      have hT : s'.TypeIs (.ref it) "tuple_iterator" := (itT_get I' hit).typeIs
      have hqi : q ≠ it := fun z => by
        rw [z, hit] at hqq
        exact (nomatch hqq)
      show wpAny _ _ (specialOf (.ref it) "__next__") _ _ _
      refine wpAny_specialOf hT slot_tupleiter_next.lookup ?_
      obtain ⟨mA', J', _⟩ := ins_get I'.hok ha'
      obtain ⟨od', J', _⟩ := J'.look
      refine wpAny_bind (wpAny_holding (hint_own n1 n2 I'.kIn J' ?_))
      have go : ∀ s'', Inv X pins σ H' s'' → codeAny (model X.prog X.w) X.A.in1 (.builtin "list.extend.loop" ⟨[.ref q, .ref it, .none], []⟩) (wants (fun r s₂ => r = .none ∧ EP X pins σ Q (.ref q) s₂) X.xe) s'' := fun s'' I'' =>
        loop_tup (t := t) (zs := zs) sb.room.hd hqi zs.length 0 H' s'' (by simp) (Nat.zero_le _) I'' hit ht (by rw [hqq]; rfl) fun s3 I3 => ⟨rfl, .ref q, _, I3, rfl, hQ⟩
      obtain ⟨z, its, k, r3, hl3, e3⟩ := I'.lstM hqq
      cases r3
      refine wpAny_ite_split (fun _ => ?_) (fun _ => wpAny_pure ⟨plainId_quiet PySem.F.plain_extend_loop _, go s' I'⟩)
      refine wpAny_bind (wpAny_rule ?_)
      refine wpAny_bind ?_
      show wpAny _ _ (updateSeq q (·.push .none) >>= fun _ => updateSeq q (·.pop)) _ _ _
      refine wpAny_bind (wpAny_updateSeq e3 rfl ?_)
      have I3 := I'.lset (f := (·.push Value.none)) (its' := [Value.none]) (ys := [.non]) (t' := s'.toks) hqq e3 (by simp) (.cons rfl .nil) (by rw [List.length_singleton, sizeLine_eq]; decide)
      obtain ⟨z4, its4, k4, r4, hl4, e4⟩ := I3.lstM upd_same
      obtain ⟨u4, rfl, ru4⟩ := r4.one
      refine wpAny_updateSeq e4 rfl ?_ (by show 1 ≤ sizeLine; rw [sizeLine_eq]; decide) (by show 0 ≤ sizeLine + 1; exact Nat.zero_le _)
      have I4 := I3.lset (f := (·.pop)) (its := [u4]) (its' := []) (ys := []) (t' := s'.toks) upd_same e4 (by rfl) .nil (Nat.zero_le _)
      rw [upd_upd] at I4
      have hH : upd H' q (.lst []) = H' := by
        funext b
        by_cases hb : b = q
        · rw [hb, upd_same, hqq]
        · rw [upd_ne hb]
      rw [hH] at I4
      exact wpAny_pure ⟨plainId_quiet PySem.F.plain_extend_loop _, go _ I4⟩
end
end XL
set_option Elab.async false
set_option linter.all false
set_option maxRecDepth 100000
set_option maxHeartbeats 4000000
/-! XOr: two rules for one piece of text; what classes say of an own error. -/
namespace XL
open PySem PySem.Spec PyProof.Rows L2
section
variable {X : Cx}
theorem pe_or {e : Expr} {t u : TE} (h : PE X e t) (k : PE X e u) : PE X e (fun σ H Q => t σ H Q ∨ u σ H Q) := ⟨fun pins s σ H Q I q => q.elim (h.run pins s σ H Q I) (k.run pins s σ H Q I)⟩
theorem pg_or {e : Expr} {t u : TG} (h : PG X e t) (k : PG X e u) : PG X e (fun v σ H Q => t v σ H Q ∨ u v σ H Q) := ⟨fun pins s σ H v w Q I r q => q.elim (h.run pins s σ H v w Q I r) (k.run pins s σ H v w Q I r)⟩
theorem cr_or {f : Value} {t u : List V → Hp → VK → Prop} (h : CallR X f t) (k : CallR X f u) : CallR X f (fun xs H Q => t xs H Q ∨ u xs H Q) := fun pins s σ H xs us Q I r q => q.elim (h pins s σ H xs us Q I r) (k pins s σ H xs us Q I r)
end
section
variable {P : Program} {w : World} {K : PySem.W.Frag} {mg : Str → Option Value} {base : Heap} {CX : CXT} {k : Nat} {f : Addr} {fd : FuncData} {ps : List Str} {sp sq : Sp}
theorem fn_or (h : FnOk P w K mg base CX k f fd ps sp) (h2 : FnOk P w K mg base CX k f fd ps sq) : FnOk P w K mg base CX k f fd ps (fun vs H Q E => sp vs H Q E ∨ sq vs H Q E) :=
  ⟨fun vs H Q E q => q.elim (h.len vs H Q E) (h2.len vs H Q E), fun A outer s H args us vs Q E hr he hb hv q => q.elim (h.run A outer s H args us vs Q E hr he hb hv) (h2.run A outer s H args us vs Q E hr he hb hv)⟩
end
theorem kit_of {K : PySem.W.Frag} {D C : Addr} {b : Bool} (hne : (Value.ref D == Value.ref C) = false) (h2 : PySem.W.isClsIn K C = true) (h3 : PySem.W.typeIn K (.ref C) = some (.type "type")) (h4 : PySem.W.subIn K (.ref D) (.ref C) = some b) : PySem.W.kitOne K (.ref D) (.ref C) = some b := by
  have e2 : ((PySem.W.clsIn K C).isSome && PySem.W.typeIn K (.ref C) == some (.type "type")) = true := by
    have h2' : (PySem.W.clsIn K C).isSome = true := h2
    rw [h2', h3]
    rfl
  show (if (Value.ref D == Value.ref C) = true then some true else (if ((PySem.W.clsIn K C).isSome && PySem.W.typeIn K (.ref C) == some (.type "type")) = true then PySem.W.subIn K (.ref D) (.ref C) else none)) = some b
  rw [if_neg (by rw [hne]; decide), if_pos e2]
  exact h4
theorem exm_of {K : PySem.W.Frag} {S : Addr} {cls : Value} {b : Bool} (h1 : PySem.W.subIn K (.ref S) (.type "BaseException") = some true) (h2 : PySem.W.isClsIn K S = true) (h3 : PySem.W.typeIn K (.ref S) = some (.type "type")) (h4 : PySem.W.subIn K cls (.ref S) = some b) : PySem.W.exmOne K cls (.ref S) = some b := by
  have e1 : (PySem.W.subIn K (.ref S) (.type "BaseException") == some true) = true := by rw [h1] <;> rfl
  have e2 : ((PySem.W.clsIn K S).isSome && PySem.W.typeIn K (.ref S) == some (.type "type")) = true := by
    have h2' : (PySem.W.clsIn K S).isSome = true := h2
    rw [h2', h3] <;> rfl
  show (if (PySem.W.subIn K (.ref S) (.type "BaseException") == some true) = true then (if ((PySem.W.clsIn K S).isSome && PySem.W.typeIn K (.ref S) == some (.type "type")) = true then PySem.W.subIn K cls (.ref S) else none) else none) = some b
  rw [if_pos e1, if_pos e2]
  exact h4
end XL
set_option Elab.async false
set_option linter.all false
set_option maxRecDepth 100000
set_option maxHeartbeats 4000000
/-! XTxt: texts of small letters; a name that is not used. -/
namespace XL
open PySem PySem.Spec PyProof.Rows L2
def LS : Str := "abcdefghijklmnopqrstuvwxyz"
structure Lt (a b : Nat) (z : Str) : Prop where
  lo : a ≤ z.length
  hi : z.length ≤ b
  ch : ∀ c ∈ z.cps.toList, c ∈ LS.cps.toList
theorem len_tl (z : Str) : z.length = z.cps.toList.length := by
  show z.cps.size = _
  rw [Array.length_toList]
theorem Lt.one {c : Nat} (h : c ∈ LS.cps.toList) : Lt 1 1 ⟨#[c]⟩ := ⟨Nat.le_refl _, Nat.le_refl _, fun d hd => by
  have : d = c := by simpa using hd
  rw [this]
  exact h⟩
theorem Lt.wide {a b a' b' : Nat} {z : Str} (h : Lt a b z) (h1 : a' ≤ a) (h2 : b ≤ b') : Lt a' b' z := ⟨Nat.le_trans h1 h.lo, Nat.le_trans h.hi h2, h.ch⟩
theorem app_len (x y : Str) : (x ++ y).length = x.length + y.length := Str.length_append x y
theorem app_tl (x y : Str) : (x ++ y).cps.toList = x.cps.toList ++ y.cps.toList := by
  rw [Str.cps_append]
  simp
theorem Lt.app {a b c d : Nat} {x y : Str} (h : Lt a b x) (k : Lt c d y) : Lt (a + c) (b + d) (x ++ y) := by
  have h1 := h.lo; have h2 := h.hi; have h3 := k.lo; have h4 := k.hi
  refine ⟨by rw [app_len]; omega, by rw [app_len]; omega, fun e he => ?_⟩
  rw [app_tl] at he
  rcases List.mem_append.mp he with z | z
  · exact h.ch e z
  · exact k.ch e z
theorem cut_mem {z : Str} {lo hi : Option Int} {c : Nat} (h : c ∈ (cutS z lo hi).cps.toList) : c ∈ z.cps.toList := by
  have h2 : c ∈ (z.cps.toList.drop (HT.sIx z.length 0 lo)).take (HT.sIx z.length z.length hi - HT.sIx z.length 0 lo) := by simpa [cutS] using h
  exact List.mem_of_mem_drop (List.mem_of_mem_take h2)
theorem cut_to_len (z : Str) (k : Nat) : (cutS z none (some (k : Int))).length = min k z.length := by
  rw [len_tl]
  show ((z.cps.toList.drop (HT.sIx z.length 0 none)).take (HT.sIx z.length z.length (some (k : Int)) - HT.sIx z.length 0 none)).toArray.toList.length = _
  rw [HT.sIx_nat, HT.sIx_none]
  rw [Nat.sub_zero, List.drop_zero, List.length_take, ← len_tl]
  omega
theorem cut_from_len (z : Str) (k : Nat) (h : k ≤ z.length) : (cutS z (some (k : Int)) none).length = z.length - k := by
  rw [len_tl]
  show ((z.cps.toList.drop (HT.sIx z.length 0 (some (k : Int)))).take (HT.sIx z.length z.length none - HT.sIx z.length 0 (some (k : Int)))).toArray.toList.length = _
  rw [HT.sIx_nat, HT.sIx_none, List.length_take, List.length_drop, ← len_tl]
  omega
theorem Lt.to {a b : Nat} {z : Str} (h : Lt a b z) (k : Nat) : Lt (min k a) (min k b) (cutS z none (some (k : Int))) := by
  have h1 := h.lo; have h2 := h.hi
  exact ⟨by rw [cut_to_len]; omega, by rw [cut_to_len]; omega, fun c hc => h.ch c (cut_mem hc)⟩
theorem joinL_nil : ∀ ps : List (List Nat), TL.joinL [] ps = ps.flatten
  | [] => rfl
  | [p] => by simp [TL.joinL]
  | p :: q :: r => by
    show p ++ ([] ++ TL.joinL [] (q :: r)) = _
    rw [joinL_nil (q :: r)]
    simp
theorem Lt.join {ys : List Str} (h : ∀ y ∈ ys, Lt 1 1 y) : Lt ys.length ys.length (Txt.join "" ys) := by
  have e : (Txt.join "" ys).cps.toList = (ys.map fun y => y.cps.toList).flatten := by
    rw [TL.join_eq]
    exact (TL.tl_join "" ys).trans (joinL_nil _)
  have el : ∀ {ys : List Str}, (∀ y ∈ ys, Lt 1 1 y) → ((ys.map fun y => y.cps.toList).flatten).length = ys.length := by
    intro ys
    induction ys with
    | nil => intro _; rfl
    | cons y r ih =>
      intro h
      have h1 := h y List.mem_cons_self
      have z := ih fun y hy => h y (List.mem_cons_of_mem _ hy)
      have l1 := h1.lo; have l2 := h1.hi
      rw [len_tl] at l1 l2
      rw [List.map_cons, List.flatten_cons, List.length_append, z, List.length_cons]
      omega
  have l := el h
  refine ⟨by rw [len_tl, e, l]; exact Nat.le_refl _, by rw [len_tl, e, l]; exact Nat.le_refl _, fun c hc => ?_⟩
  rw [e] at hc
  obtain ⟨p, hp, hcp⟩ := List.mem_flatten.mp hc
  obtain ⟨y, hy, rfl⟩ := List.mem_map.mp hp
  exact (h y hy).ch c hcp
theorem sum_ones : ∀ {ys : List Str}, (∀ y ∈ ys, Lt 1 1 y) → (ys.map (·.length)).sum = ys.length
  | [], _ => rfl
  | y :: r, h => by
    have h1 := h y List.mem_cons_self
    have z := sum_ones fun y hy => h y (List.mem_cons_of_mem _ hy)
    have l1 := h1.lo; have l2 := h1.hi
    rw [List.map_cons, List.sum_cons, z, List.length_cons]
    omega
/-! ### one that is not used -/
theorem nd_sub {α : Type} [DecidableEq α] : ∀ {xs ys : List α}, xs.Nodup → (∀ x ∈ xs, x ∈ ys) → xs.length ≤ ys.length
  | [], _, _, _ => Nat.zero_le _
  | x :: r, ys, nd, h => by
    have hx := h x List.mem_cons_self
    have nd' := List.nodup_cons.mp nd
    have z := nd_sub (ys := ys.erase x) nd'.2 fun y hy => (List.mem_erase_of_ne (fun e : y = x => nd'.1 (by rw [← e]; exact hy))).mpr (h y (List.mem_cons_of_mem _ hy))
    rw [List.length_erase_of_mem hx] at z
    have : 0 < ys.length := List.length_pos_of_mem hx
    rw [List.length_cons]
    omega
def letter (k : Nat) : Nat := LS.cps.toList.getD k 0
theorem letter_at {k : Nat} (h : k < 26) : LS.cps.toList[k]? = some (letter k) := by
  have z : ∀ j : Nat, j < 26 → LS.cps.toList[j]? = some (letter j) := by decide +kernel
  exact z k h
theorem letter_inj {i j : Nat} (hi : i < 26) (hj : j < 26) (h : letter i = letter j) : i = j := by
  have z : ∀ i : Nat, i < 26 → ∀ j : Nat, j < 26 → letter i = letter j → i = j := by decide +kernel
  exact z i hi j hj h
def tail2 (k : Nat) : Str := (⟨#[letter (k / 26)]⟩ : Str) ++ ⟨#[letter (k % 26)]⟩
theorem tail2_inj {p : Str} {i j : Nat} (hi : i < 676) (hj : j < 676) (h : p ++ tail2 i = p ++ tail2 j) : i = j := by
  have e := congrArg (fun z : Str => z.cps.toList) h
  simp only [app_tl, tail2] at e
  have e2 := List.append_cancel_left e
  have e3 : [letter (i / 26), letter (i % 26)] = [letter (j / 26), letter (j % 26)] := by simpa using e2
  injection e3 with h1 h2
  injection h2 with h2 _
  have a := letter_inj (by omega) (by omega) h1
  have b := letter_inj (by omega) (by omega) h2
  omega
theorem tail2_lt {k : Nat} (h : k < 676) : Lt 2 2 (tail2 k) :=
  (Lt.one (List.mem_of_getElem? (letter_at (by omega)))).app (Lt.one (List.mem_of_getElem? (letter_at (by omega))))
theorem unused (p : Str) (us : List Str) (h : us.length < 676) : ∃ k, k < 676 ∧ p ++ tail2 k ∉ us := by
  apply Classical.byContradiction
  intro no
  have all : ∀ z ∈ (List.range 676).map (fun k => p ++ tail2 k), z ∈ us := fun z hz => by
    obtain ⟨k, hk, rfl⟩ := List.mem_map.mp hz
    apply Classical.byContradiction
    intro q
    exact no ⟨k, List.mem_range.mp hk, q⟩
  have nd : ((List.range 676).map (fun k => p ++ tail2 k)).Nodup := by
    unfold List.Nodup
    rw [List.pairwise_map]
    refine List.Pairwise.imp_of_mem ?_ (List.nodup_range (n := 676))
    intro a b ha hb hab e
    exact hab (tail2_inj (List.mem_range.mp ha) (List.mem_range.mp hb) e)
  have z := nd_sub nd all
  rw [List.length_map, List.length_range] at z
  omega
theorem inV_str {x : Str} (xs : List Str) : inV (.str x) (xs.map V.str) = decide (x ∈ xs) := by
  unfold inV
  induction xs with
  | nil => rfl
  | cons y r ih =>
    rw [List.map_cons, List.any_cons, ih]
    show ((y == x) || decide (x ∈ r)) = decide (x ∈ y :: r)
    by_cases e : x = y
    · subst e; simp
    · have e2 : ¬ y = x := fun q => e q.symm
      simp [e, e2]
theorem strs_flat (xs : List Str) : (xs.map V.str).all flatV = true := by
  rw [List.all_eq_true]
  intro x hx
  obtain ⟨n, _, rfl⟩ := List.mem_map.mp hx
  rfl
end XL
set_option Elab.async false
set_option linter.all false
set_option maxRecDepth 100000
set_option maxHeartbeats 4000000
/-! XLine: C(*row), a method within a try, zip with K said, classes of an own error. -/
namespace XL
open PySem PySem.Spec PyProof.Rows L2
section
variable {X : Cx} {CX : CXT} {k : Nat} {f C : Addr} {fd : FuncData} {ps : List Str} {ds : List Value} {dvs : List V} {sp : Sp} {x m : Str} {p pos apos sp_ : Pos} {e o : Expr} {es : List Expr} {te ta : TE} {t : TA}
def tMakeS (K : PySem.W.Frag) (C : Addr) (sp : Sp) (dvs : List V) (E : XK) (te : TE) : TE := fun σ H Q => te σ H fun y H1 => ∃ a xs, y = V.ref a ∧ (SqT K H1 a xs ∨ SqL K H1 a xs) ∧
  ∀ x dx, H1 x = none → H1 dx = none → dx ≠ x → sp (.ref x :: (xs ++ dvs)) (upd (upd H1 dx (.own x)) x (.ins C dx [])) (fun v H2 => v = .non ∧ Q (.ref x) H2) E
/-- C(*row) -/
theorem pe_makeS {E : XK} (K : PySem.W.Frag) (M : Mk X.K C f) (F : FnOk X.prog X.w X.K X.mg X.base CX k f fd ps sp) (hr : Room (k + 1) X.A) (hg : Gl X x) (hm : X.mg x = some (.ref C)) (hb : Binds X.K fd ps ds) (hd : Vals dvs ds) (hx : Passes CX X E) (he : PE X e te) (hK : X.K = K := by rfl) (hdb : (x == ("__debug__" : Str)) = false := by decide)
    (hst : starEach [.Starred e sp_] X.env = [(true, eval e X.env)] := by rfl) : PE X (.Call (.Name x p) [.Starred e sp_] [] pos) (tMakeS K C sp dvs E te) := by
  subst hK
  refine ⟨fun pins s σ H Q I h => ?_⟩
  refine wpAny_Call_Name_kw (ld_glob I hg hm ?_ hdb)
  refine PySem.W.callWith_S (h₀ := X.base) I.ok.mod.kin M.kp (thn (he.run pins s σ H _ I h) fun v s1 ⟨y, H1, I1, ry, a, xs, ey, hxs, q⟩ => ?_) hst
  subst ey
  obtain rfl : v = Value.ref a := ry
  exact StX.star_any I1 hxs fun us s2 I2 rv => ⟨I2.kIn, run_make M F hr hb hd hx I2 rv q⟩
def tMethS (C : Addr) (m : Str) (sp : Sp) (E : L2.St → XK) (ta : TE) (t : TA) : TE := fun σ H Q => ta σ H fun x H1 => ∃ a dx fs, x = .ref a ∧ H1 a = some (.ins C dx fs) ∧ fs.lookup m = none ∧
  t σ H1 fun vs H2 => sp (x :: vs) H2 Q (E σ)
/-- o.m(..) within a try -/
theorem pe_methT {E : L2.St → XK} {pl : Sem Bool} (he : PE X o ta) (c : Cls X.K C) (hm : Meth X.K C m f) (F : FnOk X.prog X.w X.K X.mg X.base CX k f fd ps sp) (hr : Room k X.A) (hb : Binds X.K fd ps []) (hx : ∀ σ, PassesAt CX X σ (E σ)) (ha : PA X (e :: es) t)
    (hst : starEach (e :: es) X.env = (false, eval e X.env) :: starEach es X.env := by rfl) (hpl : (backTo pos (starEach es X.env)).any (·.1) = false := by rfl)
    (ht : eval (.Call (.Attribute o m apos) (e :: es) [] pos) X.env = (do
      let ov ← eval o X.env
      standAt apos.atName
      let (f, first) ← holding [ov] (getMethod ov m pl)
      callWith pos f first (backTo pos (starEach (e :: es) X.env)) (backToKw pos (keywordEach [] X.env))) := by rfl) :
    PE X (.Call (.Attribute o m apos) (e :: es) [] pos) (tMethS C m sp E ta t) := by
  refine ⟨fun pins s σ H Q I h => ?_⟩
  refine PySem.W.methodCall_KW (pl := pl) (thn (he.run pins s σ H _ I h) fun u s1 ⟨x, H1, I1, rx, a, dx, fs, ex, ea, l, q⟩ => ?_) ht
  subst ex
  obtain rfl : u = Value.ref a := rx
  refine getmeth_ok I1 ea c hm l ?_
  refine PySem.W.callWith_K (first := [.ref a]) (h₀ := X.base) I.ok.mod.kin hm.kp (thn (ha.run pos pins s1 σ H1 _ I1 q) fun us s2 ⟨vs, H2, I2, r, q2⟩ => ⟨I2.kIn, ?_⟩) hst hpl
  exact run_fnS (us := .ref a :: us) (vs := .ref a :: vs) (E := E) F hr hb (hx σ) I2 (.cons rfl r) q2
theorem pe_methT0 {E : L2.St → XK} {pl : Sem Bool} (he : PE X o ta) (c : Cls X.K C) (hm : Meth X.K C m f) (F : FnOk X.prog X.w X.K X.mg X.base CX k f fd ps sp) (hr : Room k X.A) (hb : Binds X.K fd ps []) (hx : ∀ σ, PassesAt CX X σ (E σ))
    (ht : eval (.Call (.Attribute o m apos) [] [] pos) X.env = (do
      let ov ← eval o X.env
      standAt apos.atName
      let (f, first) ← holding [ov] (getMethod ov m pl)
      callWith pos f first (backTo pos (starEach [] X.env)) (backToKw pos (keywordEach [] X.env))) := by rfl) :
    PE X (.Call (.Attribute o m apos) [] [] pos) (tMethS C m sp E ta tNil) := by
  refine ⟨fun pins s σ H Q I h => ?_⟩
  refine PySem.W.methodCall_KW (pl := pl) (thn (he.run pins s σ H _ I h) fun u s1 ⟨x, H1, I1, rx, a, dx, fs, ex, ea, l, q⟩ => ?_) ht
  subst ex
  obtain rfl : u = Value.ref a := rx
  refine getmeth_ok I1 ea c hm l ?_
  exact PySem.W.callWith_K0 (first := [.ref a]) I1.kIn hm.kp (run_fnS (us := [.ref a]) (vs := [.ref a]) (E := E) F hr hb (hx σ) I1 (.cons rfl .nil) q)
theorem pi_zipK {e e2 : Expr} {ta : TA} {p pos tpos : Pos} {elts : List Expr} {kk : Nat} (K : PySem.W.Frag) (hg : Gl X "zip") (hm : X.mg "zip" = none) (ha : PA X [e, e2] ta) (hK : X.K = K := by rfl)
    (hs : starEach [e, e2] X.env = (false, eval e X.env) :: starEach [e2] X.env := by rfl) (hpl : (backTo pos (starEach [e2] X.env)).any (·.1) = false := by rfl) :
    PI X (.Tuple elts kk tpos) (.Call (.Name "zip" p) [e, e2] [] pos) (iZip K ta) := hK ▸ pi_zip hg hm ha hs hpl
end
theorem kit_ty_of {K : PySem.W.Frag} {D : Addr} {T : String} {b : Bool} (h1 : PySem.W.kitMeta T = true) (h2 : PySem.W.subIn K (.ref D) (.type T) = some b) : PySem.W.kitOne K (.ref D) (.type T) = some b := by
  show (if (Value.ref D == Value.type T) = true then some true else (if PySem.W.kitMeta T = true then PySem.W.subIn K (.ref D) (.type T) else none)) = some b
  rw [if_neg (fun h => by cases h), if_pos h1]
  exact h2
end XL
set_option Elab.async false
set_option linter.all false
set_option maxRecDepth 100000
set_option maxHeartbeats 4000000
/-! XHot: a def that raises nothing and walks nothing, called within an except suite. -/
namespace XL
open PySem PySem.Spec PyProof.Rows L2 L2H
/-- what a def promises there -/
structure FnQ (P : Program) (w : World) (K : PySem.W.Frag) (mg : Str → Option Value) (base : Heap) (k : Nat) (f : Addr) (fd : FuncData) (ps : List Str) (sp : Sp) : Prop where
  len : ∀ vs H Q E, sp vs H Q E → vs.length = ps.length
  run : ∀ (A : Around) (outer : List Env) (s : Shared) (H : Hp) (args : Args) (us : List Value) (vs : List V) (Q : VK) (E : XK) (p : Addr × Obj), RoomH k A → PinOk outer H s p → Env0 P w K mg base A outer s H → BindsTo s fd args (ps.zip us) → Vals vs us → sp vs H Q E →
    codeAny (model P w) A (.call (.ref f) args) (CR CX0 outer P w H s Q E) s
theorem okQ {P : Program} {w : World} {K : PySem.W.Frag} {mg : Str → Option Value} {base : Heap} {x qual : Str} {st : Stmt} {f : Addr} {fd : FuncData} {N ps : List Str} {k : Nat} {sp : Sp} (F : Fun K x qual st f fd) (S : FnScope N ps (defScope st)) (len : ∀ vs H Q E, sp vs H Q E → vs.length = ps.length)
    (hbody : ∀ (cdv : Value) (A : Around) (outer : List Env) (s : Shared) (H : Hp) (vs : List V) (Q : VK) (E : XK) (p : Addr × Obj), RoomH k (A.deeper (envOfC qual (defScope st) s.heap.objs.size f cdv)) → sp vs H Q E →
      ∃ t, PSs (cxH CX0 P w K mg base N qual (defScope st) f cdv A outer s H E p) (defBody st) t ∧ t { nx := fun _ H' => Q .non H', rt := Q } (L2.start N vs) H) : FnQ P w K mg base (k + 1) f fd ps sp := by
  obtain ⟨oc, od, kV, doc, pm, an, cdv, ct, osl, rfl, lk, hcd⟩ := F.ex
  refine ⟨len, fun A outer s H args us vs Q E p hr hpin e0 hb r hsp => ?_⟩
  have hl := len _ _ _ _ hsp
  have KX : K.In s.heap := e0.mod.kin.keeps fun b o e => (e0.bs b o e).1
  have lim : s.heap.NoLimit := e0.mod.nolimit.keeps fun b o e => (e0.bs b o e).1
  have hkind : ∀ y ∈ ps.zip us, (defScope st).names.lookup y.1 = some .local ∨ ((defScope st).names.lookup y.1 = some .cell ∧ ((cellsFrom (s.heap.objs.size + 1) (defScope st).names []).lookup y.1).isSome = true) := fun ⟨n, v⟩ hy => by
    rcases S.par n (List.of_mem_zip hy).1 with q | q
    · exact .inl q
    · exact .inr ⟨q, PySem.W.cellsFrom_some _ _ _ (.inl q)⟩
  refine codeAny_call_function hr.depth (KX _ _ lk) rfl S.co S.gen rfl (PySem.W.codeRec_of KX hcd) (hb _ _ _ _ ?_)
  refine wpAny_newFunctionEnv_cells S.kind hkind fun env he s1 x => ?_
  subst he
  refine ⟨lim.keeps x.toInCall.keep, codeAny_func ?_⟩
  obtain ⟨t, ht, hq⟩ := hbody cdv A outer s H vs Q E p (hr.deeper _) hsp
  have I : Inv (cxH CX0 P w K mg base N qual (defScope st) f cdv A outer s H E p) [] (L2.start N vs) H s1 := inv_startH S hpin e0 hl r x
  refine wpAny_mono (ht.run [] s1 (L2.start N vs) H _ I hq) (fun fl s' hs => ?_) fun e s' hs => hs
  have fin : ∀ {σ' : L2.St} {H' : Hp} {v : V} {u : Value}, Inv (cxH CX0 P w K mg base N qual (defScope st) f cdv A outer s H E p) [] σ' H' s' → RelV v u → Q v H' → CE outer P w H s Q u s' :=
    fun {σ' H' v u} J rv q => ⟨v, H', J.os, J.bare, J.base, J.hok, rv, q⟩
  cases fl with
  | ret u =>
    obtain ⟨v, σ', H', J, rv, q⟩ := hs
    exact fin J rv q
  | next =>
    obtain ⟨σ', H', J, q⟩ := hs
    exact fin (v := V.non) (u := Value.none) J rfl q
  | brk =>
    obtain ⟨_, _, _, q⟩ := hs
    exact False.elim q
  | cont =>
    obtain ⟨_, _, _, q⟩ := hs
    exact False.elim q
section
variable {X : Cx} {k : Nat} {f : Addr} {fd : FuncData} {ps : List Str} {sp : Sp} {E : XK} {x : Str} {q pos : Pos} {e : Expr} {es : List Expr} {t : TA}
theorem pe_callQ (F : FnQ X.prog X.w X.K X.mg X.base k f fd ps sp) (hr : RoomH k X.A) (hc : ∃ p, p ∈ X.pn) (hg : Gl X x) (hm : X.mg x = some (.ref f)) (hk : PySem.W.keepIn X.K (.ref f) = true) (hb : Binds X.K fd ps []) (hx : Passes CX0 X E)
    (ha : PA X (e :: es) t) (hdb : (x == ("__debug__" : Str)) = false := by decide) (he : starEach (e :: es) X.env = (false, eval e X.env) :: starEach es X.env := by rfl) (hpl : (backTo pos (starEach es X.env)).any (·.1) = false := by rfl) :
    PE X (.Call (.Name x q) (e :: es) [] pos) (fun σ H Q => t σ H fun vs H1 => sp vs H1 Q E) := by
  refine ⟨fun pins s σ H Q I h => ?_⟩
  refine wpAny_Call_Name_kw (ld_glob I hg hm ?_ hdb)
  refine PySem.W.callWith_K (h₀ := X.base) I.ok.mod.kin hk (thn (ha.run pos pins s σ H _ I h) fun us s1 ⟨vs, H1, I1, r, q⟩ => ⟨I1.kIn, ?_⟩) he hpl
  obtain ⟨p, hp⟩ := hc
  have hl : us.length = ps.length := by rw [← r.length]; exact F.len _ _ _ _ q
  have b := hb s1 us I1.kIn (by rw [List.append_nil]; exact hl)
  rw [List.append_nil] at b
  have P1 := I1.pin p (List.mem_append_left _ hp)
  have hpin : PinOk X.stack H1 s1 p := ⟨P1.1, P1.2.1, fun hm => (List.mem_cons.mp (I1.stkSub p.1 hm)).elim P1.2.2.1 P1.2.2.2.1, P1.2.2.2.2⟩
  refine wpAny_call (codeAny_mono (F.run X.A X.stack s1 H1 ⟨us, []⟩ us vs Q E p hr hpin I1.env0 b r q) fun r s' hq => ?_)
  cases r with
  | error e => exact hx pins σ _ _ e s' I1 hq
  | ok fl =>
    cases fl with
    | ret u => exact I1.after hq
    | next => exact False.elim hq
    | brk => exact False.elim hq
    | cont => exact False.elim hq
end
theorem roomQ {X : Cx} {k j : Nat} {a : Addr} {pn : List (Addr × Obj)} (hr : Room k X.A) (h : j ≤ k) : RoomH j (X.suite a pn).A := ⟨(hr.mono h).dp, (hr.mono h).un⟩
end XL
set_option Elab.async false
set_option linter.all false
set_option maxRecDepth 100000
set_option maxHeartbeats 4000000
/-! XGuard: defs that are called while no repr is under way (Around.guards is known to be empty); repr of data there. -/
namespace XL
open PySem PySem.Spec PyProof.Rows L2
/-- what a def promises when no repr is under way -/
structure FnG (P : Program) (w : World) (K : PySem.W.Frag) (mg : Str → Option Value) (base : Heap) (CX : CXT) (k : Nat) (f : Addr) (fd : FuncData) (ps : List Str) (sp : Sp) : Prop where
  len : ∀ vs H Q E, sp vs H Q E → vs.length = ps.length
  run : ∀ (A : Around) (outer : List Env) (s : Shared) (H : Hp) (args : Args) (us : List Value) (vs : List V) (Q : VK) (E : XK), Room k A → A.guards = some [] → Env0 P w K mg base A outer s H → BindsTo s fd args (ps.zip us) → Vals vs us → sp vs H Q E →
    codeAny (model P w) A (.call (.ref f) args) (CR CX outer P w H s Q E) s
section
variable {P : Program} {w : World} {K : PySem.W.Frag} {mg : Str → Option Value} {base : Heap} {CX : CXT}
theorem FnG.of {k : Nat} {f : Addr} {fd : FuncData} {ps : List Str} {sp : Sp} (F : FnOk P w K mg base CX k f fd ps sp) : FnG P w K mg base CX k f fd ps sp := ⟨F.len, fun A outer s H args us vs Q E hr _ => F.run A outer s H args us vs Q E hr⟩
theorem fnG_of {x qual : Str} {st : Stmt} {f : Addr} {fd : FuncData} {N ps : List Str} {k : Nat} {sp : Sp} (F : Fun K x qual st f fd) (S : FnScope N ps (defScope st)) (len : ∀ vs H Q E, sp vs H Q E → vs.length = ps.length)
    (hbody : ∀ (cdv : Value) (A : Around) (outer : List Env) (s : Shared) (H : Hp) (vs : List V) (Q : VK) (E : XK), Room k (A.deeper (envOfC qual (defScope st) s.heap.objs.size f cdv)) → A.guards = some [] → sp vs H Q E →
      ∃ t, PSs (cxOf CX P w K mg base N qual (defScope st) f cdv A outer s H E) (defBody st) t ∧ t { nx := fun _ H' => Q .non H', rt := Q } (L2.start N vs) H) : FnG P w K mg base CX (k + 1) f fd ps sp := by
  obtain ⟨oc, od, kV, doc, pm, an, cdv, ct, osl, rfl, lk, hcd⟩ := F.ex
  refine ⟨len, fun A outer s H args us vs Q E hr hg e0 hb r hsp => ?_⟩
  have hl := len _ _ _ _ hsp
  have KX : K.In s.heap := e0.mod.kin.keeps fun b o e => (e0.bs b o e).1
  have lim : s.heap.NoLimit := e0.mod.nolimit.keeps fun b o e => (e0.bs b o e).1
  have hkind : ∀ y ∈ ps.zip us, (defScope st).names.lookup y.1 = some .local ∨ ((defScope st).names.lookup y.1 = some .cell ∧ ((cellsFrom (s.heap.objs.size + 1) (defScope st).names []).lookup y.1).isSome = true) := fun ⟨n, v⟩ hy => by
    rcases S.par n (List.of_mem_zip hy).1 with q | q
    · exact .inl q
    · exact .inr ⟨q, PySem.W.cellsFrom_some _ _ _ (.inl q)⟩
  refine codeAny_call_function hr.depth (KX _ _ lk) rfl S.co S.gen rfl (PySem.W.codeRec_of KX hcd) (hb _ _ _ _ ?_)
  refine wpAny_newFunctionEnv_cells S.kind hkind fun env he s1 x => ?_
  subst he
  refine ⟨lim.keeps x.toInCall.keep, codeAny_func ?_⟩
  obtain ⟨t, ht, hq⟩ := hbody cdv A outer s H vs Q E (hr.deeper _) hg hsp
  have I : Inv (cxOf CX P w K mg base N qual (defScope st) f cdv A outer s H E) [] (L2.start N vs) H s1 := inv_start S hr.hd e0 hl r x
  refine wpAny_mono (ht.run [] s1 (L2.start N vs) H _ I hq) (fun fl s' hs => ?_) fun e s' hs => hs
  cases fl with
  | ret u =>
    obtain ⟨v, σ', H', J, rv, q⟩ := hs
    exact ⟨v, H', J.os, J.bare, J.base, J.hok, rv, q⟩
  | next =>
    obtain ⟨σ', H', J, q⟩ := hs
    exact ⟨V.non, H', J.os, J.bare, J.base, J.hok, rfl, q⟩
  | brk =>
    obtain ⟨_, _, _, q⟩ := hs
    exact False.elim q
  | cont =>
    obtain ⟨_, _, _, q⟩ := hs
    exact False.elim q
/-- a def that raises nothing -/
theorem okG {x qual : Str} {st : Stmt} {f : Addr} {fd : FuncData} {N ps : List Str} {k : Nat} {sp : Sp} (F : Fun K x qual st f fd) (S : FnScope N ps (defScope st)) (len : ∀ vs H Q E, sp vs H Q E → vs.length = ps.length)
    (hbody : ∀ (cdv : Value) (A : Around) (outer : List Env) (s : Shared) (H : Hp) (vs : List V) (Q : VK) (E : XK), Room k (A.deeper (envOfC qual (defScope st) s.heap.objs.size f cdv)) → A.guards = some [] → sp vs H Q E →
      ∃ t, PSs (cxOf CX0 P w K mg base N qual (defScope st) f cdv A outer s H E).nox (defBody st) t ∧ t { nx := fun _ H' => Q .non H', rt := Q } (L2.start N vs) H) : FnG P w K mg base CX0 (k + 1) f fd ps sp :=
  fnG_of F S len fun cdv A outer s H vs Q E hr hg hsp => let ⟨t, h, q⟩ := hbody cdv A outer s H vs Q E hr hg hsp; ⟨t, h.nox, q⟩
end
section
variable {X : Cx} {CX : CXT} {k : Nat} {f : Addr} {fd : FuncData} {ps : List Str} {sp : Sp} {E : XK} {x : Str} {p pos : Pos} {e : Expr} {es : List Expr} {t : TA}
theorem run_fnG {pins : List (Addr × Obj)} {σ : L2.St} {H : Hp} {s : Shared} {Q : VK} {us : List Value} {vs : List V} (F : FnG X.prog X.w X.K X.mg X.base CX k f fd ps sp) (hr : Room k X.A) (hg : X.A.guards = some []) (hb : Binds X.K fd ps []) (hx : Passes CX X E)
    (I : Inv X pins σ H s) (r : Vals vs us) (h : sp vs H Q E) : wpAny (model X.prog X.w) X.A (call (.ref f) us) (EP X pins σ Q) X.xe s := by
  have hl : us.length = ps.length := by rw [← r.length]; exact F.len _ _ _ _ h
  have b := hb s us I.kIn (by rw [List.append_nil]; exact hl)
  rw [List.append_nil] at b
  refine wpAny_call (codeAny_mono (F.run X.A X.stack s H ⟨us, []⟩ us vs Q E hr hg I.env0 b r h) fun r s' hq => ?_)
  cases r with
  | error e => exact hx pins σ _ _ e s' I hq
  | ok fl =>
    cases fl with
    | ret u => exact I.after hq
    | next => exact False.elim hq
    | brk => exact False.elim hq
    | cont => exact False.elim hq
theorem pe_callG (F : FnG X.prog X.w X.K X.mg X.base CX k f fd ps sp) (hr : Room k X.A) (hg : X.A.guards = some []) (hgl : Gl X x) (hm : X.mg x = some (.ref f)) (hk : PySem.W.keepIn X.K (.ref f) = true) (hb : Binds X.K fd ps []) (hx : Passes CX X E)
    (ha : PA X (e :: es) t) (hdb : (x == ("__debug__" : Str)) = false := by decide) (he : starEach (e :: es) X.env = (false, eval e X.env) :: starEach es X.env := by rfl) (hpl : (backTo pos (starEach es X.env)).any (·.1) = false := by rfl) :
    PE X (.Call (.Name x p) (e :: es) [] pos) (fun σ H Q => t σ H fun vs H1 => sp vs H1 Q E) := by
  refine ⟨fun pins s σ H Q I h => ?_⟩
  refine wpAny_Call_Name_kw (ld_glob I hgl hm ?_ hdb)
  refine PySem.W.callWith_K (h₀ := X.base) I.ok.mod.kin hk (thn (ha.run pos pins s σ H _ I h) fun us s1 ⟨vs, H1, I1, r, q⟩ => ⟨I1.kIn, ?_⟩) he hpl
  exact run_fnG F hr hg hb hx I1 r q
theorem u70 {k : Nat} {A : Around} (r : Room k A) : A.units + 70 < cLine := by have := r.un; omega
/-- repr of data -/
def rRepr (K : PySem.W.Frag) : List V → Hp → VK → Prop := fun xs H Q => ∃ v d, xs = [v] ∧ Dp K H v d ∧ d.showable = true ∧ d.hasDict = false ∧ d.depth ≤ 64 ∧ d.shown.length ≤ sizeLine ∧ Q (.str d.shown) H
theorem call_reprG (K : PySem.W.Frag) (hg : X.A.guards = some []) (hu : X.A.units + 70 < cLine) (hK : X.K = K := by rfl) : CallR X (.builtin "repr") (rRepr K) := by
  subst hK
  intro pins s σ H xs us Q I r h
  obtain ⟨v, d, rfl, hd, h1, h2, h3, h4, q⟩ := h
  obtain ⟨u, rfl, ru⟩ : ∃ u, us = [u] ∧ RelV v u := by
    cases r with
    | cons a b =>
      cases b
      exact ⟨_, rfl, a⟩
  obtain ⟨as, rd⟩ := Dp.reads I d v u hd ru
  have big : ∀ a : Addr, u = .ref a → wpAny (model X.prog X.w) X.A (call (.builtin "repr") [u]) (EP X pins σ Q) X.xe s := by
    rintro a rfl
    exact repr_of_reads' rd h1 (PyData.noDict_hsm h2) hg (by omega) (fun _ _ e => e) (fun h' t tk hk => ⟨.str d.shown, H, I.kept hk, ⟨_, rfl⟩, q⟩) h4
  cases hd with
  | non =>
    cases ru
    exact PySem.P.repr_of_none ⟨.str _, H, I.tok _, ⟨_, rfl⟩, by simpa only [PyData.shown] using q⟩
  | bl b =>
    cases ru
    exact PySem.P.repr_of_bool ⟨.str _, H, I.tok _, ⟨_, rfl⟩, by simpa only [PyData.shown] using q⟩
  | int i =>
    obtain ⟨t, rfl⟩ := ru
    exact PySem.P.repr_of_int (by simpa [PyData.showable] using h1) ⟨.str _, H, I.tok _, ⟨_, rfl⟩, by simpa only [PyData.shown] using q⟩
  | str x =>
    obtain ⟨t, rfl⟩ := ru
    exact PySem.P.repr_of_str ⟨.str _, H, I.tok _, ⟨_, rfl⟩, by simpa only [PyData.shown] using q⟩ (by simpa only [PyData.shown] using h4)
  | lst _ _ => exact big _ ru
  | tup _ _ => exact big _ ru
end
/-! ### the law's own call -/
theorem law_callG {P : Program} {w : World} {K : PySem.W.Frag} {mg mb : Str → Option Value} {CX : CXT} {k : Nat} {fa a : Addr} {fd : FuncData} {x : Str} {sp : Sp} {s₁ : Shared} {vs : List Value} {ns : List Int}
    (KX : K.In s₁.heap) (hns : s₁.heap.Ns mainGlobals mg) (hb : s₁.heap.Ns builtinsNs mb) (hbb : ∀ x : Str, x ≠ "__name__" → mb x = bootBuiltins x) (hlim : s₁.heap.NoLimit) (hg : s₁.gens = #[])
    (ha : s₁.heap.get? a = some { cls := .type "list", data := .seq vs.toArray }) (hi : IntsAre vs ns) (hl : ns.length ≤ sizeLine) (hr : Room k callerA)
    (F : ∀ base : Heap, K.In base → base.Ns mainGlobals mg → FnG P w K mg base CX k fa fd [x] sp) (hbind : ∀ (s : Shared) (u : Value), BindsTo s fd ⟨[u], []⟩ [(x, u)])
    (hsp : ∀ H : Hp, Only H → SqL K H a (ns.map V.int) → sp [.ref a] H (fun v _ => v = .bl true) fun _ _ _ => False)
    (hCX : ∀ H e s', CX [] H s₁ (fun _ _ _ => False) e s' → False) :
    codeAny (model P w) callerA (.call (.ref fa) ⟨[.ref a], []⟩) (fun r s' => r = .ok (.ret (.bool true)) ∧ OldK s₁.heap s'.heap ∧ s'.os = s₁.os ∧ AllBare s'.gens) s₁ := by
  have rv := vals_ints hi
  have lenV := hi.length
  -- nothing is tracked but the script
  have main : ∀ H : Hp, (∀ b, H b = none ∨ (b = a ∧ K.lookup a = none ∧ H b = some (.frz { cls := .type "list", data := .seq vs.toArray } (.lst (ns.map V.int))))) → SqL K H a (ns.map V.int) → HOk P w H s₁.heap →
      codeAny (model P w) callerA (.call (.ref fa) ⟨[.ref a], []⟩) (fun r s' => r = .ok (.ret (.bool true)) ∧ OldK s₁.heap s'.heap ∧ s'.os = s₁.os ∧ AllBare s'.gens) s₁ := by
    intro H hH hS hok
    have nsK : ∀ {b : Addr} {m : Str → Option Value}, s₁.heap.Ns b m → (hidT s₁.heap H).Ns b m := fun {b m} ⟨o, es, ep, e, d, r⟩ => by
      refine ⟨o, es, ep, hidT_get e ?_, d, r⟩
      rcases hH b with z | ⟨z, _⟩
      · exact z
      · rw [z, ha] at e
        cases e
        cases d
    have hKb : K.In (hidT s₁.heap H) := fun b o e => hidT_get (KX b o e) (by
      rcases hH b with z | ⟨z, z2, _⟩
      · exact z
      · rw [z, z2] at e
        cases e)
    have hM : Mod K mg (hidT s₁.heap H) := ⟨hKb, nsK hns, ⟨mb, nsK hb, hbb⟩, let ⟨mc, h1, h2⟩ := hlim; ⟨mc, nsK h1, h2⟩⟩
    have e0 : Env0 P w K mg (hidT s₁.heap H) callerA [] s₁ H := ⟨rfl, hM, fun b o e => of_hidT e, Nat.le_of_eq (hidT_size _ _), trivial, fun b hb => (nomatch hb), hok, .of_eq hg⟩
    have hO : Only H := fun b => (hH b).imp id fun z => ⟨_, _, z.2.2⟩
    refine codeAny_mono ((F _ hKb (nsK hns)).run callerA [] s₁ H ⟨[.ref a], []⟩ [.ref a] [.ref a] _ _ hr rfl e0 (hbind s₁ (.ref a)) (.cons rfl .nil) (hsp H hO hS)) fun r s' h => ?_
    cases r with
    | error e => exact (hCX H e s' h).elim
    | ok fl =>
      cases fl with
      | next => exact False.elim h
      | brk => exact False.elim h
      | cont => exact False.elim h
      | ret u =>
        obtain ⟨v, H', os, bare, un, hok', r', q⟩ := h
        have q' : v = .bl true := q
        subst q'
        obtain rfl : u = Value.bool true := r'
        refine ⟨rfl, OldK.of_keep fun b o e => ?_, os, bare⟩
        rcases hH b with z | ⟨_, _, z⟩
        · exact un.keep b o e z (fun y => nomatch y) (by simp)
        · obtain ⟨e1, _⟩ := hok b _ z
          obtain ⟨e2, _⟩ := hok' b _ (un.frzs b _ _ z)
          rw [e] at e1
          cases e1
          exact e2
  cases hk : K.lookup a with
  | some o =>
    have e := KX a o hk
    rw [ha] at e
    cases e
    exact main (fun _ => none) (fun _ => .inl rfl) (.inr ⟨_, vs.toArray, _, hk, rfl, rfl, rfl, by rw [List.size_toArray, lenV]; exact hl, by simpa using rv⟩) (fun b u z => nomatch z)
  | none =>
    refine main (fun b => if b = a then some (.frz { cls := .type "list", data := .seq vs.toArray } (.lst (ns.map V.int))) else none) (fun b => ?_) (.inl (.inr ⟨{ cls := .type "list", data := .seq vs.toArray }, if_pos rfl⟩)) (fun b u z => ?_)
    · by_cases hb : b = a
      · exact .inr ⟨hb, hk, if_pos hb⟩
      · exact .inl (if_neg hb)
    · by_cases hb : b = a
      · have z' := (if_pos hb).symm.trans z
        cases z'
        subst hb
        exact ⟨ha, by rw [List.length_map]; exact hl, vs, _, rv, ha⟩
      · have z' := (if_neg hb).symm.trans z
        cases z'
theorem walk_ofG {l : PySem.W.OpenLaw} {n k : Nat} {q : Program} {loose : List Str} {XP : (Str → Option Value) → Heap → Prop} {YP : World → Heap → Prop} {d : DefRec} {K : Params → PySem.W.Frag} {CX : World → CXT} {sp : World → Sp} {x : Str}
    (hn : l.most = some n) (hn2 : n ≤ sizeLine) (hdf : d.params.defaults = []) (hr : Room k callerA)
    (hY : ∀ (w : World) (h : Heap), YP w h → (K w.params).In h)
    (F : ∀ (w : World) (mg : Str → Option Value) (fa : Addr) (h : Heap), (K w.params).In h → h.Ns mainGlobals mg → mg d.name = some (.ref fa) →
      ∃ fd : FuncData, (∀ (s : Shared) (u : Value), BindsTo s fd ⟨[u], []⟩ [(x, u)]) ∧
        ∀ base : Heap, (K w.params).In base → base.Ns mainGlobals mg → FnG l.prog w (K w.params) mg base (CX w) k fa fd [x] (sp w))
    (hsp : ∀ (w : World) (H : Hp) (a : Addr) (ns : List Int), ns.length ≤ n → Only H → SqL (K w.params) H a (ns.map V.int) → sp w [.ref a] H (fun v _ => v = .bl true) fun _ _ _ => False)
    (hCX : ∀ (w : World) (H : Hp) (s : Shared) (e : Value) (s' : Shared), CX w [] H s (fun _ _ _ => False) e s' → False) :
    PySem.W.WalkO q loose XP YP l.row.toRowW d [] (fun f vs => PySem.call f vs) := by
  refine Att.attach_call hn hdf fun w s₀ s₁ mg mb fa o pm cd doc a vs ns G Y ho hd hcd hmg hobj hints hlen hg => ?_
  have KX := hY w _ Y
  obtain ⟨fd, hb, hF⟩ := F w mg fa _ KX G.T.g hmg
  exact law_callG KX G.T.g G.T.b G.T.builtins G.T.nolimit hg hobj hints (Nat.le_trans hlen hn2) hr hF hb (fun H hO hS => hsp w H a ns hlen hO hS) fun H e s' => hCX w H s₁ e s'
end XL
set_option Elab.async false
set_option linter.all false
set_option maxRecDepth 100000
set_option maxHeartbeats 4000000
/-! XStar: defs with a star parameter, called with plain arguments. -/
namespace XL
open PySem PySem.Spec PyProof.Rows L2
/-! ### list.extend of a tuple -/
theorem ext_tup (l : Addr) (items : Array Value) (n : Nat) (b : Addr) (items2 : Array Value) (n2 : Nat) (dc : Option Addr) (sl : Array (Option Value)) (hs0 : ¬(!items.isEmpty && Builtin.List.listTooLong (items.size + items2.size)) = true) (hs1 : items.size ≤ sizeLine) (hs2 : items.size + items2.size ≤ sizeLine + 1) :
    Meets (Builtin.«list.extend» ⟨[.ref l, .ref b], []⟩) (fun _ R s => s.heap.get? l = some { cls := .type "list", dict := none, data := .seq items n, slots := #[] } ∧ s.heap.get? b = some { cls := .type "tuple", dict := dc, data := .seq items2 n2, slots := sl } ∧ R (.ok (.ret Value.none)) { s with heap := s.heap.update l (Obj.mapSeq fun x => x ++ items2), toks := s.toks }) :=
  .of_wp fun prog w A R s h => by
    obtain ⟨hp, g, d, tk, os⟩ := s
    obtain ⟨hl, hb, h⟩ := h
    have f1 := AutoSeq1.idx_int; have f2 := AutoSeq1.sub_tuple_tuple; have f3 := AutoSeq1.sub_list_list; have f4 := AutoSeq1.sub_tuple_list; have f5 := AutoSeq1.sub_list_tuple
    have hz' : (items ++ items2).size ≤ sizeLine + 1 := by rw [Array.size_append]; exact hs2
    wp_walk using (wpAny_updateSeq hl rfl (hz := hs1) (_hz' := hz')), wpAny_loadPart' hl, wpAny_loadPart' hb
    exact ⟨_, rfl, h⟩
def rExtT (K : PySem.W.Frag) : V → List V → Hp → VK → Prop := fun x vs H Q => ∃ l b xs zs, x = .ref l ∧ vs = [.ref b] ∧ H l = some (.lst xs) ∧ SqT K H b zs ∧ xs.length + zs.length ≤ sizeLine ∧ Q .non (upd H l (.lst (xs ++ zs)))
theorem mt_extT {X : Cx} (K : PySem.W.Frag) (hK : X.K = K := by rfl) : MtM X "list.extend" (rExtT K) := by
  subst hK
  intro pins s σ H x vs v us Q I rx rv h
  obtain ⟨l, b, xs, zs, rfl, rfl, hH, hB, hz, q⟩ := h
  cases rx
  obtain ⟨u, rfl, ru⟩ := rv.one
  cases ru
  obtain ⟨z, its, n, r, hl, e⟩ := I.lstM hH
  obtain ⟨its2, r2, ⟨o2, e2, c2, n2, d2⟩, z2⟩ := I.tuple hB
  have hl2 := r2.length
  obtain ⟨oc, od, odt, osl⟩ := o2
  simp only at c2 d2
  subst c2 d2
  have hsz : its.toArray.size + its2.toArray.size ≤ sizeLine := by rw [List.size_toArray, List.size_toArray]; omega
  have hlong : ¬ (!its.toArray.isEmpty && Builtin.List.listTooLong (its.toArray.size + its2.toArray.size)) = true := by
    rw [notLongL hsz, Bool.and_false]
    exact Bool.false_ne_true
  refine call_meets F.slot_list_extend ⟨_, e, rfl⟩ F.entry_list_extend (F.args_list_extend_2 _ _)
    (ext_tup l its.toArray n b its2.toArray n2 od osl hlong (by rw [List.size_toArray]; omega) (by omega)) ⟨e, e2, ?_⟩
  refine ⟨.non, _, I.lset (its' := its ++ its2) hH e (by simp) (r.append r2) ?_, rfl, q⟩
  rw [List.length_append]
  omega
/-- what a def with a star parameter binds -/
def BindsS (fd : FuncData) (ps : List Str) (pv : Str) : Prop := ∀ us rest : List Value, us.length = ps.length → bindArgs fd ⟨us ++ rest, []⟩ = (newTuple rest >>= fun t => pure (ps.zip us ++ [(pv, t)]))
/-- the promise of a def with a star parameter, from that of its body -/
def spS (n : Nat) (sp : Sp) : Sp := fun vs H Q E => ∃ ws rest, vs = ws ++ rest ∧ ws.length = n ∧ rest.length ≤ sizeLine ∧ ∀ p, H p = Option.none → sp (ws ++ [V.ref p]) (upd H p (.tup rest)) Q E
section
variable {P : Program} {w : World} {K : PySem.W.Frag} {mg : Str → Option Value} {base : Heap}
theorem okS {x qual : Str} {st : Stmt} {f : Addr} {fd : FuncData} {N ps : List Str} {pv : Str} {k : Nat} {sp : Sp} (F : Fun K x qual st f fd) (S : FnScope N (ps ++ [pv]) (defScope st)) (hb : BindsS fd ps pv)
    (hbody : ∀ (cdv : Value) (A : Around) (outer : List Env) (s : Shared) (H : Hp) (vs : List V) (Q : VK) (E : XK), Room k (A.deeper (envOfC qual (defScope st) s.heap.objs.size f cdv)) → sp vs H Q E →
      ∃ t, PSs (cxOf CX0 P w K mg base N qual (defScope st) f cdv A outer s H E).nox (defBody st) t ∧ t { nx := fun _ H' => Q .non H', rt := Q } (L2.start N vs) H) : FnR P w K mg base CX0 (k + 1) f (spS ps.length sp) := by
  obtain ⟨oc, od, kV, doc, pm, an, cdv, ct, osl, rfl, lk, hcd⟩ := F.ex
  refine StX.fn_star (pv := pv) (ps := ps) lk hcd S StX.cxUp_none hb fun A outer s H vs Q E hr hsp => ?_
  obtain ⟨t, h, q⟩ := hbody cdv A outer s H vs Q E hr hsp
  exact ⟨t, h.nox, q⟩
end
section
variable {X : Cx} {CX : CXT} {k : Nat} {f : Addr} {sp : Sp} {E : XK} {x : Str} {p pos : Pos} {e : Expr} {es : List Expr} {t : TA}
/-- x(e, ..) by a positional promise -/
theorem pe_callP (F : FnR X.prog X.w X.K X.mg X.base CX k f sp) (hr : Room k X.A) (hgl : Gl X x) (hm : X.mg x = some (.ref f)) (hk : PySem.W.keepIn X.K (.ref f) = true) (hx : Passes CX X E)
    (ha : PA X (e :: es) t) (hdb : (x == ("__debug__" : Str)) = false := by decide) (he : starEach (e :: es) X.env = (false, eval e X.env) :: starEach es X.env := by rfl) (hpl : (backTo pos (starEach es X.env)).any (·.1) = false := by rfl) :
    PE X (.Call (.Name x p) (e :: es) [] pos) (fun σ H Q => t σ H fun vs H1 => sp vs H1 Q E) := by
  refine ⟨fun pins s σ H Q I h => ?_⟩
  refine wpAny_Call_Name_kw (ld_glob I hgl hm ?_ hdb)
  refine PySem.W.callWith_K (h₀ := X.base) I.ok.mod.kin hk (thn (ha.run pos pins s σ H _ I h) fun us s1 ⟨vs, H1, I1, r, q⟩ => ⟨I1.kIn, ?_⟩) he hpl
  exact wpAny_call (run_fnR F hr hx I1 r q)
/-- x() -/
theorem pe_callP0 (F : FnR X.prog X.w X.K X.mg X.base CX k f sp) (hr : Room k X.A) (hgl : Gl X x) (hm : X.mg x = some (.ref f)) (hk : PySem.W.keepIn X.K (.ref f) = true) (hx : Passes CX X E) (hdb : (x == ("__debug__" : Str)) = false := by decide) :
    PE X (.Call (.Name x p) [] [] pos) (fun _ H Q => sp [] H Q E) := by
  refine ⟨fun pins s σ H Q I h => ?_⟩
  refine wpAny_Call_Name_kw (ld_glob I hgl hm ?_ hdb)
  exact PySem.W.callWith_K0 I.kIn hk (wpAny_call (run_fnR (us := []) F hr hx I .nil h))
end
section
variable {B : List Value → Sem (List (Str × Value))} {p1 p2 p3 p4 pv : Str}
theorem bindS0 (h0 : B [] = (newTuple [] >>= fun t => pure [(pv, t)])) (h1 : ∀ r rs, B (r :: rs) = (newTuple (r :: rs) >>= fun t => pure [(pv, t)])) :
    ∀ us rest : List Value, us.length = ([] : List Str).length → B (us ++ rest) = (newTuple rest >>= fun t => pure (([] : List Str).zip us ++ [(pv, t)]))
  | [], [], _ => h0
  | [], r :: rs, _ => h1 r rs
theorem bindS1 (h0 : ∀ a, B [a] = (newTuple [] >>= fun t => pure [(p1, a), (pv, t)])) (h1 : ∀ a r rs, B (a :: r :: rs) = (newTuple (r :: rs) >>= fun t => pure [(p1, a), (pv, t)])) :
    ∀ us rest : List Value, us.length = [p1].length → B (us ++ rest) = (newTuple rest >>= fun t => pure ([p1].zip us ++ [(pv, t)]))
  | [a], [], _ => h0 a
  | [a], r :: rs, _ => h1 a r rs
theorem bindS4 (h0 : ∀ a b c d, B [a, b, c, d] = (newTuple [] >>= fun t => pure [(p1, a), (p2, b), (p3, c), (p4, d), (pv, t)])) (h1 : ∀ a b c d r rs, B (a :: b :: c :: d :: r :: rs) = (newTuple (r :: rs) >>= fun t => pure [(p1, a), (p2, b), (p3, c), (p4, d), (pv, t)])) :
    ∀ us rest : List Value, us.length = [p1, p2, p3, p4].length → B (us ++ rest) = (newTuple rest >>= fun t => pure ([p1, p2, p3, p4].zip us ++ [(pv, t)]))
  | [a, b, c, d], [], _ => h0 a b c d
  | [a, b, c, d], r :: rs, _ => h1 a b c d r rs
end
end XL
set_option Elab.async false
set_option linter.all false
set_option maxRecDepth 100000
set_option maxHeartbeats 4000000
/-! XTree: t[::-1] of a tuple; == of data of more levels; objects whose own __iter__ hands on iter(l), l a list. -/
namespace XL
open PySem PySem.Spec PyProof.Rows L2
section
variable {prog : Program} {w : World} {A : Around} {E : Value → Shared → Prop} {s : Shared}
theorem applied_rev {sl : Addr} {t : Tok} {n : Nat} {Q : Int × Int × Nat → Shared → Prop} (hs : s.heap.IsSliceOf sl .none .none (.int (-1) t)) (h : Q ((n : Int) - 1, -1, n) s) :
    wpAny (model prog w) A (Builtin.Slice.sliceApplied (.ref sl) (pure (n : Int))) Q E s := by
  obtain ⟨os, hos, hcs, hds⟩ := id hs
  unfold Builtin.Slice.sliceApplied Builtin.Slice.sliceFields
  refine wpAny_bind (wpAny_bind (wpAny_field hos hds (x := .none) rfl (wpAny_bind (wpAny_field hos hds (x := .none) rfl (wpAny_bind (wpAny_field hos hds (x := .int (-1) t) rfl (wpAny_pure ?_)))))))
  refine wpAny_bind (HT.slicePart_ (.int (-1) t) ?_)
  show wpAny _ _ (if ((-1 : Int) == 0) = true then _ else _) _ _ s
  rw [if_neg (by decide)]
  refine wpAny_bind (HT.slicePart_ .none (wpAny_bind (HT.slicePart_ .none (wpAny_bind (wpAny_pure ?_)))))
  show wpAny _ _ (pure ((n : Int) - 1, (-1 : Int), Builtin.Slice.slicePlaces ((n : Int) - 1) (-1) (-1))) _ _ s
  have e : Builtin.Slice.slicePlaces ((n : Int) - 1) (-1) (-1) = n := by
    unfold Builtin.Slice.slicePlaces
    have h1 : ¬ ((-1 : Int) > 0) := by decide
    simp only [h1, if_false]
    split
    · rw [show (- -1 : Int) = 1 by decide, Int.ediv_one]
      omega
    · omega
  rw [e]
  exact wpAny_pure h
theorem fm_congr {α β : Type} {f g : α → Option β} : ∀ {l : List α}, (∀ x ∈ l, f x = g x) → l.filterMap f = l.filterMap g
  | [], _ => rfl
  | x :: l, h => by
    rw [List.filterMap_cons, List.filterMap_cons, h x List.mem_cons_self, fm_congr (l := l) fun y hy => h y (List.mem_cons_of_mem _ hy)]
theorem pick_rev (xs : Array Value) : ((List.range xs.size).filterMap fun (k : Nat) => xs[(((xs.size : Int) - 1) + (k : Int) * (-1)).toNat]?).toArray = xs.toList.reverse.toArray := by
  have z := PySem.W.krv_pick xs
  rw [← z]
  unfold slicePick
  rw [PySem.W.krv_bounds]
  show _ = ((sliceRange ((xs.size : Int) - 1) (-1) (-1)).filterMap (xs[·]?)).toArray
  rw [PySem.W.krv_sliceRange, List.filterMap_map]
  congr 1
  refine fm_congr fun k hk => ?_
  have := List.mem_range.mp hk
  have e : (((xs.size : Int) - 1) + (k : Int) * (-1)).toNat = xs.size - 1 - k := by omega
  show xs[_]? = xs[xs.size - 1 - k]?
  rw [e]
theorem getItem_tuple_rev {t sl : Addr} {tk : Tok} {items : Array Value} {Q : Value → Shared → Prop} (ht : IsTup s.heap t items) (hs : s.heap.IsSliceOf sl .none .none (.int (-1) tk))
    (h : Q (.ref s.heap.objs.size) { s with heap := s.heap.push { cls := .type "tuple", data := .seq items.toList.reverse.toArray } }) (hsz : items.size ≤ sizeLine) : wpAny (model prog w) A (getItem (.ref t) (.ref sl)) Q E s := by
  have htake : sizeOk (.seq items.toList.reverse.toArray) := by
    show items.toList.reverse.toArray.size ≤ sizeLine
    rw [List.size_toArray, List.length_reverse, Array.length_toList]
    exact hsz
  obtain ⟨os, hos, hcs, hds⟩ := id hs
  have hTs : s.TypeIs (.ref sl) "slice" := ⟨os, hos, hcs⟩
  unfold getItem
  try with_reducible refine wpAny_holding ?_
  first | refine wpAny_bind (wpAny_pure ?_) | skip
  refine wpAny_bind (wpAny_sequenceKey ht.typeIs (by decide) ?_)
  refine wpAny_bind (wpAny_callSpecial?_slot (name := Str.ofString "__getitem__") ht.typeIs PyProof.Rows.slot_tuple_getitem
    (wpAny_call_entry PyProof.Rows.slot_tuple_getitem ht.typeIs entry_tuple_getitem ?_ (args_tuple_getitem _ _)))
  show wpAny _ _ (Builtin.Tuple.tupleItemsOf (.ref t) >>= _) _ _ s
  refine wpAny_bind (tupleItemsOf_ ht ?_)
  refine wpAny_bind (wpAny_typeOf hTs ?_)
  rw [if_pos (by decide)]
  refine wpAny_bind (applied_rev hs ?_)
  have hno : ¬ (((items.size : Int) - 1 == 0 && (-1 : Int) == 1 && items.size == items.size) = true) := by
    intro q
    rw [Bool.and_eq_true, Bool.and_eq_true] at q
    exact absurd q.1.2 (by decide)
  show wpAny _ _ (if ((items.size : Int) - 1 == 0 && (-1 : Int) == 1 && items.size == items.size) = true then _ else _) _ _ s
  rw [if_neg hno, pick_rev]
  first
    | exact wpAny_bind (m := Builtin.Tuple.tupleExact _) (wpAny_newObj_type (wpAny_pure ⟨_, rfl, wpAny_pure h⟩) htake)
    | exact wpAny_bind (m := Builtin.Tuple.tupleExact _) (wpAny_newObj_type (wpAny_bind (wpAny_pure (wpAny_pure ⟨_, rfl, wpAny_pure h⟩))) htake)
    | exact wpAny_bind (wpAny_bind (m := Builtin.Tuple.tupleExact _) (wpAny_newObj_type (wpAny_pure (wpAny_pure ⟨_, rfl, wpAny_pure h⟩)) htake))
    | exact wpAny_bind (wpAny_bind (m := Builtin.Tuple.tupleExact _) (wpAny_newObj_type (wpAny_pure ⟨_, rfl, wpAny_pure h⟩) htake))
end
def tRevT (K : PySem.W.Frag) (te : TE) : TE := fun σ H Q => te σ H fun x H1 => ∃ a xs, x = .ref a ∧ SqT K H1 a xs ∧ ∀ p, H1 p = none → Q (.ref p) (upd H1 p (.tup xs.reverse))
theorem pe_revT {X : Cx} {e m : Expr} {te : TE} {p2 pos : Pos} (he : PE X e te) (hm : PE X m (tC (.int (-1)))) : PE X (.Subscript e (.Slice none none (some m) p2) pos) (tRevT X.K te) := by
  refine ⟨fun pins s σ H Q I h => ?_⟩
  refine Subscript_ (thn (he.run pins s σ H _ I h) fun v s1 ⟨x, H1, I1, r1, q1⟩ => ?_)
  refine wpAny_Slice (wpAny_evalPart_none (wpAny_evalPart_none (wpAny_evalPart_some (thn (hm.run pins s1 σ H1 (fun y H2 => y = .int (-1) ∧ H2 = H1) I1 ⟨rfl, rfl⟩) fun vm s3 ⟨y, H3, I3, r3, ey, eH⟩ => ?_))))
  subst ey eH
  obtain ⟨t, rfl⟩ := r3
  obtain ⟨a, xs, rfl, hx, q⟩ := q1
  cases r1
  have I4 : L2.Inv X pins σ H3 { s3 with heap := s3.heap.push { cls := .type "slice", data := .fields #[.none, .none, .int (-1) t] } } := I3.kept (t' := s3.toks) fun b ob q => Heap.get?_push_of_some _ q
  obtain ⟨its, r, ht, hz⟩ := I4.tuple hx
  have hlen := r.length
  show wpAny (model X.prog X.w) X.A (subscriptTail e (.Slice none none (some m) p2) (.ref a) (.ref s3.heap.objs.size)) (EP X pins σ Q) X.xe { s3 with heap := s3.heap.push { cls := .type "slice", data := .fields #[.none, .none, .int (-1) t] } }
  refine tail_any (ops := [.ref a, .ref s3.heap.objs.size]) ht.typeIs PyProof.Rows.slot_tuple_getitem.lookup ?_ (by with_unfolding_all rfl)
  refine getItem_tuple_rev ht (Heap.IsSliceOf.new ..) ?_ (by rw [List.size_toArray] <;> omega)
  refine ⟨.ref _, _, I4.laid (t' := s3.toks) (o := .tup xs.reverse) (fun b ob q => Heap.get?_push_of_some _ q) (Nat.le_refl _) ?_, rfl, q _ (I4.hok.fresh (Nat.le_refl _))⟩
  exact ⟨by rw [List.length_reverse]; exact hz, its.reverse, r.reverse, ⟨_, Heap.get?_push_size _ rfl, rfl, _, rfl⟩⟩
theorem pe_revTK {X : Cx} {e m : Expr} {te : TE} {p2 pos : Pos} (K : PySem.W.Frag) (he : PE X e te) (hm : PE X m (tC (.int (-1)))) (h : X.K = K := by rfl) : PE X (.Subscript e (.Slice none none (some m) p2) pos) (tRevT K te) := h ▸ pe_revT he hm
/-! ### == of data of up to 190 levels -/
def rEqL (K : PySem.W.Frag) : R2 := fun x y H Q => ∃ d e, Dp K H x d ∧ Dp K H y e ∧ d.canLay0 = true ∧ e.canLay0 = true ∧ d.depth ≤ 190 ∧ Q (.bl (PyData.eqv d e)) H
theorem op_eqL {X : Cx} (K : PySem.W.Frag) (hu : X.A.units + 190 < cLine) (hK : X.K = K := by rfl) : OpR X (compareOp .Eq) (rEqL K) := by
  subst hK
  intro pins s σ H x y v u Q I rx ry h
  obtain ⟨d, e, hd, he, sd, se, dp, q⟩ := h
  obtain ⟨as, r1⟩ := Dp.reads I d x v hd rx
  obtain ⟨bs, r2⟩ := Dp.reads I e y u he ry
  exact SeqAt.compareEq_reads r1 r2 sd se (by have := Nat.min_le_left d.depth e.depth; omega) ⟨.bl _, H, I, rfl, q⟩
/-! ### a promise that knows how large the heap was -/
structure FnY (P : Program) (w : World) (K : PySem.W.Frag) (mg : Str → Option Value) (base : Heap) (CX : CXT) (k : Nat) (f : Addr) (fd : FuncData) (ps : List Str) (sp : Nat → Sp) : Prop where
  len : ∀ n vs H Q E, sp n vs H Q E → vs.length = ps.length
  run : ∀ (A : Around) (outer : List Env) (s : Shared) (H : Hp) (args : Args) (us : List Value) (vs : List V) (Q : VK) (E : XK), Room k A → Env0 P w K mg base A outer s H → BindsTo s fd args (ps.zip us) → Vals vs us → sp s.heap.objs.size vs H Q E →
    codeAny (model P w) A (.call (.ref f) args) (CR CX outer P w H s Q E) s
section
variable {P : Program} {w : World} {K : PySem.W.Frag} {mg : Str → Option Value} {base : Heap} {CX : CXT}
theorem fnY_of {x qual : Str} {st : Stmt} {f : Addr} {fd : FuncData} {N ps : List Str} {k : Nat} {sp : Nat → Sp} (F : Fun K x qual st f fd) (S : FnScope N ps (defScope st)) (len : ∀ n vs H Q E, sp n vs H Q E → vs.length = ps.length)
    (hbody : ∀ (cdv : Value) (A : Around) (outer : List Env) (s : Shared) (H : Hp) (vs : List V) (Q : VK) (E : XK), Room k (A.deeper (envOfC qual (defScope st) s.heap.objs.size f cdv)) → sp s.heap.objs.size vs H Q E →
      ∃ t, PSs (cxOf CX P w K mg base N qual (defScope st) f cdv A outer s H E) (defBody st) t ∧ t { nx := fun _ H' => Q .non H', rt := Q } (L2.start N vs) H) : FnY P w K mg base CX (k + 1) f fd ps sp := by
  obtain ⟨oc, od, kV, doc, pm, an, cdv, ct, osl, rfl, lk, hcd⟩ := F.ex
  refine ⟨len, fun A outer s H args us vs Q E hr e0 hb r hsp => ?_⟩
  have hl := len _ _ _ _ _ hsp
  have KX : K.In s.heap := e0.mod.kin.keeps fun b o e => (e0.bs b o e).1
  have lim : s.heap.NoLimit := e0.mod.nolimit.keeps fun b o e => (e0.bs b o e).1
  have hkind : ∀ y ∈ ps.zip us, (defScope st).names.lookup y.1 = some .local ∨ ((defScope st).names.lookup y.1 = some .cell ∧ ((cellsFrom (s.heap.objs.size + 1) (defScope st).names []).lookup y.1).isSome = true) := fun ⟨n, v⟩ hy => by
    rcases S.par n (List.of_mem_zip hy).1 with q | q
    · exact .inl q
    · exact .inr ⟨q, PySem.W.cellsFrom_some _ _ _ (.inl q)⟩
  refine codeAny_call_function hr.depth (KX _ _ lk) rfl S.co S.gen rfl (PySem.W.codeRec_of KX hcd) (hb _ _ _ _ ?_)
  refine wpAny_newFunctionEnv_cells S.kind hkind fun env he s1 x => ?_
  subst he
  refine ⟨lim.keeps x.toInCall.keep, codeAny_func ?_⟩
  obtain ⟨t, ht, hq⟩ := hbody cdv A outer s H vs Q E (hr.deeper _) hsp
  have I : Inv (cxOf CX P w K mg base N qual (defScope st) f cdv A outer s H E) [] (L2.start N vs) H s1 := inv_start S hr.hd e0 hl r x
  refine wpAny_mono (ht.run [] s1 (L2.start N vs) H _ I hq) (fun fl s' hs => ?_) fun e s' hs => hs
  cases fl with
  | ret u =>
    obtain ⟨v, σ', H', J, rv, q⟩ := hs
    exact ⟨v, H', J.os, J.bare, J.base, J.hok, rv, q⟩
  | next =>
    obtain ⟨σ', H', J, q⟩ := hs
    exact ⟨V.non, H', J.os, J.bare, J.base, J.hok, rfl, q⟩
  | brk =>
    obtain ⟨_, _, _, q⟩ := hs
    exact False.elim q
  | cont =>
    obtain ⟨_, _, _, q⟩ := hs
    exact False.elim q
theorem okY {x qual : Str} {st : Stmt} {f : Addr} {fd : FuncData} {N ps : List Str} {k : Nat} {sp : Nat → Sp} (F : Fun K x qual st f fd) (S : FnScope N ps (defScope st)) (len : ∀ n vs H Q E, sp n vs H Q E → vs.length = ps.length)
    (hbody : ∀ (cdv : Value) (A : Around) (outer : List Env) (s : Shared) (H : Hp) (vs : List V) (Q : VK) (E : XK), Room k (A.deeper (envOfC qual (defScope st) s.heap.objs.size f cdv)) → sp s.heap.objs.size vs H Q E →
      ∃ t, PSs (cxOf CX0 P w K mg base N qual (defScope st) f cdv A outer s H E).nox (defBody st) t ∧ t { nx := fun _ H' => Q .non H', rt := Q } (L2.start N vs) H) : FnY P w K mg base CX0 (k + 1) f fd ps sp :=
  fnY_of F S len fun cdv A outer s H vs Q E hr hsp => let ⟨t, h, q⟩ := hbody cdv A outer s H vs Q E hr hsp; ⟨t, h.nox, q⟩
end
/-! ### for x in o, o an object whose own __iter__ hands on iter(l) -/
theorem dropH_upd {H : Hp} {a : Addr} {o : HO} (h : H a = none) : ItX.dropH (upd H a o) a = H := by
  funext b
  by_cases e : b = a
  · rw [e, ItX.dropH_same, h]
  · rw [ItX.dropH_ne e, upd_ne e]
def iOwnL (K : PySem.W.Frag) (C : Addr) (sp : Nat → Sp) (E : XK) (te : TE) : TI := fun σ H R => te σ H fun x H1 => ∃ a dx fs, x = .ref a ∧ H1 a = some (.ins C dx fs) ∧
  ∀ n, sp n [.ref a] H1 (fun v H2 => ∃ (it l : Addr), v = .ref it ∧ n ≤ it ∧ H2 it = some (ItO l it 0) ∧ R (Itl K l) (ItX.dropH H2 it)) E
theorem pi_ownL {X : Cx} {CX : CXT} {C f : Addr} {fd : FuncData} {ps : List Str} {sp : Nat → Sp} {E : XK} {n : Nat} {tg e : Expr} {te : TE} (he : PE X e te) (F : FnY X.prog X.w X.K X.mg X.base CX n f fd ps sp)
    (hs : PySem.W.findIn X.K (.ref C) "__iter__" = some (some (.ref f))) (hfn : PySem.W.isFn X.K (.ref f) = true) (hb : Binds X.K fd ps []) (hx : Passes CX X E) (hr : Room n X.A) : PI X tg e (iOwnL X.K C sp E te) := by
  refine ⟨fun pins s σ H R I h => ?_⟩
  refine thn (he.run pins s σ H _ I h) fun u s1 ⟨x, H1, I1, r1, a, dx, fs, ex, ha, hsp0⟩ => ?_
  subst ex
  cases r1
  have hsp := hsp0 s1.heap.objs.size
  obtain ⟨mA, J, _⟩ := ins_get I1.hok ha
  obtain ⟨od, J, _⟩ := J.look
  obtain ⟨m0, hF⟩ := I1.fr
  refine PySem.W.owit_iter hF I1.ok.mod.kin J hs hfn ?_
  have hl := F.len _ _ _ _ _ hsp
  refine wpAny_call (codeAny_mono (F.run X.A X.stack s1 H1 ⟨[.ref a], []⟩ [.ref a] [.ref a] _ E hr I1.env0 (by
    have := hb s1 [.ref a] I1.kIn (by simpa using hl)
    simpa using this) (.cons rfl .nil) hsp) fun r s' hq => ?_)
  cases r with
  | error e => exact hx pins σ _ _ e s' I1 hq
  | ok fl =>
    cases fl with
    | next => exact False.elim hq
    | brk => exact False.elim hq
    | cont => exact False.elim hq
    | ret u =>
      obtain ⟨v, H', I', rv, it, l, ev, young, hit, hR⟩ := I1.after hq
      subst ev
      cases rv
      have eo := itO_get I' hit
      have st : s'.heap.IsListIter it l 0 := ⟨_, eo, rfl, rfl⟩
      show wpAny _ _ (specialOf (.ref it) "__next__") _ _ _
      refine wpAny_specialOf st.typeIs slot_listiter_next.lookup ?_
      have hi' := hit
      unfold ItO at hi'
      refine ⟨it, [it], _, _, ItX.dropH H' it, rfl, ItX.inv_drop I' hi', turn_list l it, st, fun b hb => ?_, hR⟩
      have e : b = it := by simpa using hb
      rw [e]
      exact ItX.inv_fp I' hit (Nat.le_trans I1.sz young)
theorem pi_ownLK {X : Cx} {CX : CXT} {C f : Addr} {fd : FuncData} {ps : List Str} {sp : Nat → Sp} {E : XK} {n : Nat} {tg e : Expr} {te : TE} (K : PySem.W.Frag) (he : PE X e te) (F : FnY X.prog X.w X.K X.mg X.base CX n f fd ps sp)
    (hs : PySem.W.findIn X.K (.ref C) "__iter__" = some (some (.ref f))) (hfn : PySem.W.isFn X.K (.ref f) = true) (hb : Binds X.K fd ps []) (hx : Passes CX X E) (hr : Room n X.A) (h : X.K = K := by rfl) : PI X tg e (iOwnL K C sp E te) := h ▸ pi_ownL he F hs hfn hb hx hr
/-! ### list(o) -/
theorem next_lst_end {P : Program} {w : World} {A : Around} {E : Value → Shared → Prop} {s : Shared} {it t : Addr} {i : Nat} {items : Array Value} {Q : Option Value → Shared → Prop} (hh : A.handled = none)
    (hit : s.heap.IsListIter it t i) (ht : s.heap.IsList t items) (hx : items[i]? = none)
    (hQ : ∀ h', Heap.ExtBut it s.heap h' → (∃ o, h'.get? it = some o) → Q none { s with heap := h' }) : wpAny (model P w) A (pyNext (.ref it)) Q E s := by
  obtain ⟨o, ho, hc, hd⟩ := id hit
  obtain ⟨ol, hol, _, nl, hdl⟩ := ht
  unfold pyNext
  refine wpAny_bind (wpAny_attempt (wpAny_callSpecial?_slot (name := Str.ofString "__next__") hit.typeIs slot_listiter_next (wpAny_call_entry slot_listiter_next hit.typeIs entry_listiter_next ?_ (args_listiter_next _))))
  show wpAny _ _ (field (.ref it) 0 >>= _) _ _ s
  refine wpAny_bind (wpAny_field ho hd (x := .ref t) rfl (PySem.W.KFB.if_not rfl ?_))
  show wpAny _ _ (field (.ref it) 1 >>= _) _ _ s
  refine wpAny_bind (wpAny_field ho hd (x := .int i 0) rfl ?_)
  show wpAny _ _ (seqItems? (.ref t) >>= _) _ _ s
  refine wpAny_bind (wpAny_seqItems hol hdl ?_)
  simp only [Int.toNat_natCast, hx]
  refine wpAny_bind (wpAny_rule (wpAny_bind (wpAny_setField ho hd (by simp) ?_)))
  show wpAny _ _ (newExc (.type "StopIteration") [] >>= _) _ _ _
  refine wpAny_bind ?_
  simp only [newExc, newTuple]
  refine wpAny_bind (wpAny_newObj_type ?_ (by size_fits))
  refine wpAny_bind (m := firstArgMember _ _) (wpAny_of_eq (a := Value.none) (by first | rfl | (simp only [firstArgMember]; rfl)) ?_)
  refine wpAny_newObj_type ?_ (by size_fits)
  simp only [raiseNew]
  refine wpAny_bind (wpAny_handled ?_)
  first | rw [show A.in1.handled = none from hh] | rw [hh]
  refine wpAny_bind (wpAny_pure (wpAny_throw ?_))
  refine wpAny_bind (wpAny_isInstance (T := "StopIteration") (b := true) ⟨_, Heap.get?_push_size _ rfl, rfl⟩ isSubtype_stop ?_)
  exact wpAny_pure (hQ _ (((Heap.SameBut.update ..).extBut.push _).push _) ⟨_, Heap.get?_push_of_some _ (Heap.get?_push_of_some _ (Heap.get?_update_self _ ho (Obj.isFreed_of_fields (Obj.data_mapFields hd _))))⟩)
def ItL (l it : Addr) (i : Nat) : HO := .ext fun h => h.IsListIter it l i
theorem itL_ok {P : Program} {w : World} {H : Hp} {h : Heap} {t it : Addr} {i : Nat} (e : h.IsListIter it t i) : ObjOk P w H h it (ItL t it i) := by
  obtain ⟨o, ho, r⟩ := id e
  exact ⟨e, ⟨_, ho⟩, fun g1 g2 q k => q.at fun o e => k o e⟩
section
variable {X : Cx} {pins : List (Addr × Obj)} {σ : L2.St} {H : Hp} {s : Shared}
theorem itL_get {t it : Addr} {i : Nat} (I : Inv X pins σ H s) (e : H it = some (ItL t it i)) : s.heap.IsListIter it t i := (I.hok it _ e).1
/-- the loop that fills the list at q -/
theorem loop_lst {A1 : Around} {Rs : Result → Shared → Prop} {q it t : Addr} {zs : List V} (hd : A1.in1.handled = none) (hne : q ≠ it) :
    ∀ (k i : Nat) (H : Hp) (s : Shared), zs.length - i = k → i ≤ zs.length → Inv X pins σ H s → H it = some (ItL t it i) → it ≠ t → q ≠ t → H t = some (.lst zs) → H q = some (.lst (zs.take i)) →
      (∀ s', Inv X pins σ (upd (upd H it (ItTE it)) q (.lst zs)) s' → Rs (.ok (.ret .none)) s') → codeAny (model X.prog X.w) A1 (.builtin "list.extend.loop" ⟨[.ref q, .ref it, .none], []⟩) Rs s := by
  intro k
  induction k with
  | zero =>
    intro i H s hk hi I hit nit nqt ht hq hR
    obtain ⟨its, rv, pl, hz⟩ := I.list (SqL.of ht)
    have hin : zs.length = its.length := rv.length
    have mu : Mut (H it) := by rw [hit]; exact True.intro
    refine codeAny_builtin PySem.F.entry_extend_loop ?_
    rw [Around.under_plainId PySem.F.plain_extend_loop _]
    show wpAny _ A1.in1 (pyNext (.ref it) >>= _) _ _ s
    have ei : i = zs.length := by omega
    refine wpAny_bind (next_lst_end hd (itL_get I hit) pl.isList (by rw [List.getElem?_toArray]; exact List.getElem?_eq_none (by omega)) fun h' eb ⟨o, ho⟩ => wpAny_pure ?_)
    have I2 : Inv X pins σ (upd H it (ItTE it)) { s with heap := h' } := I.write (x := it) (e := it) (t' := s.toks) mu (.inl rfl) (fun b o nb z => eb b o nb z) ⟨_, ho⟩ (itTE_ok ho)
    refine hR _ ?_
    have e : upd (upd H it (ItTE it)) q (.lst zs) = upd H it (ItTE it) := by
      funext b
      by_cases hb : b = q
      · rw [hb, upd_same, upd_ne hne, hq, ei, List.take_length]
      · rw [upd_ne hb]
    rw [e]
    exact I2
  | succ k ih =>
    intro i H s hk hi I hit nit nqt ht hq hR
    obtain ⟨its, rv, pl, hz⟩ := I.list (SqL.of ht)
    have hin : zs.length = its.length := rv.length
    have mu : Mut (H it) := by rw [hit]; exact True.intro
    have hlt : i < zs.length := by omega
    have hzi := List.getElem?_eq_getElem hlt
    obtain ⟨u, hu, ru⟩ := rv.get hzi
    refine codeAny_builtin PySem.F.entry_extend_loop ?_
    rw [Around.under_plainId PySem.F.plain_extend_loop _]
    show wpAny _ A1.in1 (pyNext (.ref it) >>= _) _ _ s
    refine wpAny_bind (wpAny_pyNext_list_item (itL_get I hit) pl.isList (by rw [List.getElem?_toArray]; exact hu) fun h' hit' sb => ?_)
    obtain ⟨o, ho, _⟩ := id hit'
    have I2 : Inv X pins σ (upd H it (ItL t it (i + 1))) { s with heap := h' } := I.write (x := it) (e := it) (t' := s.toks) mu (.inl rfl) (fun b o nb z => (sb.2 b nb).trans z) ⟨_, ho⟩ (itL_ok hit')
    have hq2 : upd H it (ItL t it (i + 1)) q = some (.lst (zs.take i)) := by rw [upd_ne hne]; exact hq
    show wpAny _ A1.in1 (updateSeq q (·.push u) >>= _) _ _ _
    obtain ⟨z, its2, c, r2, hl, e⟩ := I2.lstM hq2
    have l2 : its2.length ≤ 16777215 := by
      rw [← hl, List.length_take]
      have := hz
      rw [sizeLine_eq] at this
      omega
    refine wpAny_bind (wpAny_updateSeq e rfl (wpAny_pure ⟨plainId_quiet PySem.F.plain_extend_loop _, ?_⟩) (by rw [List.size_toArray, sizeLine_eq]; omega) (by show (its2.toArray.push u).size ≤ sizeLine + 1; rw [Array.size_push, List.size_toArray, sizeLine_eq]; omega))
    have I3 := I2.lset (f := (·.push u)) (its' := its2 ++ [u]) (ys := zs.take i ++ [zs[i]]) (t' := s.toks) hq2 e (by simp) (r2.append (.cons ru .nil)) (by rw [List.length_append, List.length_singleton, List.length_take, sizeLine_eq]; rw [sizeLine_eq] at hz; omega)
    refine ih (i + 1) _ _ (by omega) (by omega) I3 ?_ nit nqt ?_ ?_ fun s' I4 => hR s' ?_
    · rw [upd_ne (Ne.symm hne), upd_same]
    · rw [upd_ne (Ne.symm nqt), upd_ne (Ne.symm nit)]
      exact ht
    · rw [upd_same, take_snoc hzi]
    · have e4 : upd (upd (upd (upd H it (ItL t it (i + 1))) q (.lst (zs.take i ++ [zs[i]]))) it (ItTE it)) q (.lst zs) = upd (upd H it (ItTE it)) q (.lst zs) := by
        funext b
        by_cases hb : b = q
        · rw [hb, upd_same, upd_same]
        · rw [upd_ne hb, upd_ne hb]
          by_cases hb2 : b = it
          · rw [hb2, upd_same, upd_same]
          · rw [upd_ne hb2, upd_ne hb2, upd_ne hb, upd_ne hb2]
      rw [← e4]
      exact I4
def rListItL (C : Addr) (sp : Nat → Sp) (E : XK) : List V → Hp → VK → Prop := fun xs H Q => ∃ a dx fs, xs = [.ref a] ∧ H a = some (.ins C dx fs) ∧
  ∀ q n, H q = none → sp n [.ref a] (upd H q (.lst [])) (fun v H1 => ∃ (it t : Addr) (zs : List V), v = .ref it ∧ H1 it = some (ItO t it 0) ∧ it ≠ t ∧ q ≠ t ∧ H1 t = some (.lst zs) ∧ H1 q = some (.lst []) ∧ (∃ dx' fs', H1 a = some (.ins C dx' fs')) ∧ Q (.ref q) (upd (upd H1 it (ItTE it)) q (.lst zs))) E
theorem call_listItL {C f : Addr} {fd : FuncData} {ps : List Str} {sp : Nat → Sp} {E : XK} {n : Nat} {CX : CXT} (hs : PySem.W.findIn X.K (.ref C) "__iter__" = some (some (.ref f))) (hfn : PySem.W.isFn X.K (.ref f) = true) (n1 : PySem.W.findIn X.K (.ref C) "__len__" = some none) (n2 : PySem.W.findIn X.K (.ref C) "__length_hint__" = some none)
    (F : FnY X.prog X.w X.K X.mg X.base CX n f fd ps sp) (hb : Binds X.K fd ps []) (hx : Passes CX X E) (hr : Room (n + 2) X.A) : CallR X (.type "list") (rListItL C sp E) := by
  intro pins s σ H xs us Q I rv h
  obtain ⟨a, dx, fs, rfl, ha, hq⟩ := h
  obtain ⟨u, rfl, ru⟩ := rv.one
  cases ru
  have sb : Sub X n X.A.in1.in1 := (Sub.in1 (Sub.in1 (⟨hr, rfl⟩ : Sub X (n + 2) X.A)))
  refine callType_codes (Q₁ := fun obj s₁ => obj = .ref s.heap.objs.size ∧ s₁ = { s with heap := s.heap.push { cls := .type "list", data := .seq #[] } }) PySem.F.called_list (PySem.F.typeCall_list_1 _) PySem.F.entry_list_init
    (code_list_new _ ⟨rfl, rfl⟩) fun obj s₁ h₁ => ?_
  obtain ⟨rfl, rfl⟩ := h₁
  have hS : (s.heap.push { cls := .type "list", data := .seq #[] }).get? s.heap.objs.size = some { cls := .type "list", data := .seq #[] } := Heap.get?_push_size _ rfl
  refine ⟨⟨_, hS, rfl⟩, PySem.F.args_list_init_2 _ _, ?_⟩
  have fr : H s.heap.objs.size = none := I.hok.fresh (Nat.le_refl _)
  have hsp := fun n => hq _ n fr
  have I1 : Inv X pins σ (upd H s.heap.objs.size (.lst [])) { s with heap := s.heap.push { cls := .type "list", data := .seq #[] } } := I.lnew (its := []) (t' := s.toks) .nil (Nat.zero_le _)
  show wpAny _ _ (do let old ← Builtin.List.listItems (.ref s.heap.objs.size); Builtin.List.listUpdate (.ref s.heap.objs.size) (fun _ => #[]); letGo old.toList.reverse; Builtin.List.listExtendWith (.ref s.heap.objs.size) (.ref a) .none) _ _ _
  refine wpAny_bind ?_
  unfold Builtin.List.listItems
  refine wpAny_bind (wpAny_seqItems hS rfl (wpAny_pure ?_))
  show wpAny _ _ (updateSeq s.heap.objs.size (fun _ => #[]) >>= fun _ => letGo (#[] : Array Value).toList.reverse >>= fun _ => Builtin.List.listExtendWith (.ref s.heap.objs.size) (.ref a) .none) _ _ _
  refine wpAny_bind (wpAny_updateSeq hS rfl ?_)
  have I2 := I1.lset (f := fun _ => #[]) (its := []) (its' := []) (ys := []) (t' := s.toks) upd_same hS rfl .nil (Nat.zero_le _)
  rw [upd_upd] at I2
  refine wpAny_bind (wpAny_letGo ?_)
  have ha2 : upd H s.heap.objs.size (.lst []) a = some (.ins C dx fs) := by rw [upd_ne (ne_of_none ha fr)]; exact ha
  have hne : s.heap.objs.size ≠ a := Ne.symm (ne_of_none ha fr)
  generalize hH2 : upd H s.heap.objs.size (.lst []) = H2 at *
  generalize s.heap.objs.size = q at *
  obtain ⟨mA, J, _⟩ := ins_get I2.hok ha2
  obtain ⟨od, J, _⟩ := J.look
  obtain ⟨m0, hF⟩ := I2.fr
  unfold Builtin.List.listExtendWith
  refine wpAny_bind (J.type.here ?_)
  have h1 : Builtin.List.listSameRef (.ref q) (.ref a) = false := by simp [Builtin.List.listSameRef, hne]
  have h2 : (Value.ref C == Value.type "list") = false := rfl
  have h3 : (Value.ref C == Value.type "tuple") = false := rfl
  simp only [h1, h2, h3, Bool.or_false, Bool.false_eq_true, if_false]
  refine wpAny_bind (PySem.W.owit_iter hF I2.ok.mod.kin J hs hfn ?_)
  have e0 : ∀ {s : Shared} {H : Hp}, Inv X pins σ H s → Env0 X.prog X.w X.K X.mg X.base X.A.in1.in1 X.stack s H := fun {s H} I => by
    have e := I.env0
    exact ⟨by rw [sb.fr]; exact e.frames, e.mod, e.bs, e.bsz, e.funs, e.frf, e.hok, e.bare⟩
  have hl := F.len _ _ _ _ _ (hsp 0)
  have r2 : Vals [V.ref a] [Value.ref a] := .cons rfl .nil
  refine wpAny_call (codeAny_mono (F.run X.A.in1.in1 X.stack _ _ ⟨[.ref a], []⟩ [.ref a] [.ref a] _ E sb.room (e0 I2) (by
    have := hb _ [.ref a] I2.kIn (by simpa using hl)
    simpa using this) r2 (hsp _)) fun r s' hq' => ?_)
  cases r with
  | error e => exact hx pins σ _ _ e s' I2 hq'
  | ok fl =>
    cases fl with
    | next => exact False.elim hq'
    | brk => exact False.elim hq'
    | cont => exact False.elim hq'
    | ret u =>
      obtain ⟨v, H', I', rv, it, t, zs, ev, hit, nit, nqt, ht, hqq, ⟨dx', fs', ha'⟩, hQ⟩ := I2.after hq'
      subst ev
      cases rv
      have stt : ∀ s'', Inv X pins σ H' s'' → s''.heap.IsListIter it t 0 := fun s'' I'' => ⟨_, itO_get I'' hit, rfl, rfl⟩
      have hT : s'.TypeIs (.ref it) "list_iterator" := (stt s' I').typeIs
      have hqi : q ≠ it := fun z => by
        rw [z, hit] at hqq
        exact (nomatch hqq)
      show wpAny _ _ (specialOf (.ref it) "__next__") _ _ _
      refine wpAny_specialOf hT slot_listiter_next.lookup ?_
      obtain ⟨mA', J', _⟩ := ins_get I'.hok ha'
      obtain ⟨od', J', _⟩ := J'.look
      refine wpAny_bind (wpAny_holding (hint_own n1 n2 I'.kIn J' ?_))
      have go : ∀ s'', Inv X pins σ H' s'' → codeAny (model X.prog X.w) X.A.in1 (.builtin "list.extend.loop" ⟨[.ref q, .ref it, .none], []⟩) (wants (fun r s₂ => r = .none ∧ EP X pins σ Q (.ref q) s₂) X.xe) s'' := fun s'' I'' =>
by
        have mu : Mut (H' it) := by rw [hit]; exact True.intro
        obtain ⟨oi, ei, _⟩ := id (stt s'' I'')
        have I5 : Inv X pins σ (upd H' it (ItL t it 0)) s'' := I''.write (x := it) (e := it) (t' := s''.toks) mu (.inl rfl) (fun b o nb z => z) ⟨_, ei⟩ (itL_ok (stt s'' I''))
        refine loop_lst (t := t) (zs := zs) sb.room.hd hqi zs.length 0 _ s'' (by simp) (Nat.zero_le _) I5 upd_same nit nqt (by rw [upd_ne (Ne.symm nit)]; exact ht) (by rw [upd_ne hqi, hqq]; rfl) fun s3 I3 => ?_
        rw [upd_upd] at I3
        exact ⟨rfl, .ref q, _, I3, rfl, hQ⟩
      obtain ⟨z, its, k, r3, hl3, e3⟩ := I'.lstM hqq
      cases r3
      refine wpAny_ite_split (fun _ => ?_) (fun _ => wpAny_pure ⟨plainId_quiet PySem.F.plain_extend_loop _, go s' I'⟩)
      refine wpAny_bind (wpAny_rule ?_)
      refine wpAny_bind ?_
      show wpAny _ _ (updateSeq q (·.push .none) >>= fun _ => updateSeq q (·.pop)) _ _ _
      refine wpAny_bind (wpAny_updateSeq e3 rfl ?_)
      have I3 := I'.lset (f := (·.push Value.none)) (its' := [Value.none]) (ys := [.non]) (t' := s'.toks) hqq e3 (by simp) (.cons rfl .nil) (by rw [List.length_singleton, sizeLine_eq]; decide)
      obtain ⟨z4, its4, k4, r4, hl4, e4⟩ := I3.lstM upd_same
      obtain ⟨u4, rfl, ru4⟩ := r4.one
      refine wpAny_updateSeq e4 rfl ?_ (by show 1 ≤ sizeLine; rw [sizeLine_eq]; decide) (by show 0 ≤ sizeLine + 1; exact Nat.zero_le _)
      have I4 := I3.lset (f := (·.pop)) (its := [u4]) (its' := []) (ys := []) (t' := s'.toks) upd_same e4 (by rfl) .nil (Nat.zero_le _)
      rw [upd_upd] at I4
      have hH : upd H' q (.lst []) = H' := by
        funext b
        by_cases hb : b = q
        · rw [hb, upd_same, hqq]
        · rw [upd_ne hb]
      rw [hH] at I4
      exact wpAny_pure ⟨plainId_quiet PySem.F.plain_extend_loop _, go _ I4⟩
end
theorem u190 {k : Nat} {A : Around} (r : Room k A) : A.units + 190 < cLine := by have := r.un; omega
end XL
set_option Elab.async false
set_option linter.all false
set_option maxRecDepth 100000
set_option maxHeartbeats 4000000
/-! XFoc: o.f = v by an own property's setter; C(..) within a try; a call that raises within a def that lets it out; a written tuple. -/
namespace XL
open PySem PySem.Spec PyProof.Rows L2
structure PSet (K : PySem.W.Frag) (C : Addr) (f : Str) (p g : Addr) : Prop where
  tk : PySem.W.takerIn K C f = some (some (.ref p))
  ty : PySem.W.typeIn K (.ref p) = some (.type "property")
  rec_ : ∃ a rest, PySem.W.recIn K p "property" = some (a :: .ref g :: rest)
def sPSet (C : Addr) (sp : Sp) (E : XK) (ta tv : TE) : TS := fun D σ H => tv σ H fun y H1 => ta σ H1 fun x H2 => ∃ a dx fs, x = .ref a ∧ H2 a = some (.ins C dx fs) ∧ sp [.ref a, y] H2 (fun _ H3 => D.nx σ H3) E
section
variable {X : Cx} {CX : CXT} {k : Nat} {C p g : Addr} {f : Str} {fd : FuncData} {ps : List Str} {sp : Sp} {E : XK} {o value : Expr} {pos pos' : Pos} {ta tv : TE}
theorem Room.in2 {k : Nat} {A : Around} (r : Room (k + 2) A) : Room k A.in1.in1 := (Room.in1 (Room.in1 r))
/-- o.f = v, f a property with a setter -/
theorem ps_pset (ha : PE X o ta) (hv : PE X value tv) (c : Cls X.K C) (hp : PSet X.K C f p g) (F : FnOk X.prog X.w X.K X.mg X.base CX k g fd ps sp) (hr : Room (k + 2) X.A) (hb : Binds X.K fd ps []) (hx : Passes CX X E)
    (hs : swapsWith value (some (.Attribute o f pos')) pos.line X.env = pure false) : PS X (.Assign [.Attribute o f pos'] value pos) (sPSet C sp E ta tv) := by
  refine ⟨fun pins s σ H D I h => ?_⟩
  refine plainObj_wpAny_Assign_Attribute (thn (hv.run pins s σ H _ I h) fun u s1 ⟨y, H1, I1, ry, q⟩ => thn (ha.run pins s1 σ H1 _ I1 q) fun ov s2 ⟨x, H2, I2, rx, a, dx, fs, ex, ea, q2⟩ => ?_) hs
  subst ex
  obtain rfl : ov = Value.ref a := rx
  obtain ⟨mA, O, _, _, _, _⟩ := ins_get I2.hok ea
  obtain ⟨od, J, _⟩ := O.look
  obtain ⟨a0, rest, hrec⟩ := hp.rec_
  have I3 := I2.tok (s2.toks + 1)
  have hl : ([Value.ref a, u] : List Value).length = ps.length := by
    rw [← F.len _ _ _ _ q2]
    rfl
  refine PySem.W.set_plain I2.kIn J c.sa (PySem.W.osa_descr PySem.W.KF.slot_pset I3.kIn J c.po hp.tk hp.ty (PySem.W.prop_set I3.kIn hrec ?_))
  have b := hb { s2 with toks := s2.toks + 1 } [.ref a, u] I3.kIn (by rw [List.append_nil]; exact hl)
  rw [List.append_nil] at b
  refine codeAny_mono (F.run X.A.in1.in1 X.stack { s2 with toks := s2.toks + 1 } H2 ⟨[.ref a, u], []⟩ [.ref a, u] [.ref a, y] _ E (Room.in2 hr) I3.env0.in1.in1 b (.cons rfl (.cons ry .nil)) q2) fun r s' hq => ?_
  cases r with
  | error e => exact hx pins σ _ _ e s' I3 hq
  | ok fl =>
    cases fl with
    | ret u =>
      obtain ⟨v, H', I', rv, q3⟩ := I3.after hq
      exact ⟨σ, H', I', q3⟩
    | next => exact False.elim hq
    | brk => exact False.elim hq
    | cont => exact False.elim hq
end
/-- what leaves a def by its own promise -/
theorem passO {X : Cx} {E : XK} (tk : Takes X (fun cls d _ H => E cls d H)) : Passes (L2.CX X.prog X.w) X E := fun pins σ H s e s' I c => passes_call tk (fun _ _ _ _ h => h) pins σ H s e s' I c
section
variable {X : Cx} {CX : CXT} {k : Nat} {f C : Addr} {fd : FuncData} {ps : List Str} {ds : List Value} {dvs : List V} {sp : Sp} {E : L2.St → XK} {x : Str} {p pos : Pos} {e : Expr} {es : List Expr} {t : TA}
theorem run_makeT {pins : List (Addr × Obj)} {σ : L2.St} {H : Hp} {s : Shared} {Q : VK} {us : List Value} {vs : List V} (M : Mk X.K C f) (F : FnOk X.prog X.w X.K X.mg X.base CX k f fd ps sp) (hr : Room (k + 1) X.A) (hb : Binds X.K fd ps ds) (hd : Vals dvs ds)
    (hx : PassesAt CX X σ (E σ)) (I : Inv X pins σ H s) (r : Vals vs us)
    (h : ∀ x dx, H x = none → H dx = none → dx ≠ x → sp (.ref x :: (vs ++ dvs)) (upd (upd H dx (.own x)) x (.ins C dx [])) (fun v H2 => v = .non ∧ Q (.ref x) H2) (E σ)) :
    wpAny (model X.prog X.w) X.A (call (.ref C) us) (EP X pins σ Q) X.xe s := by
  have hq := h (s.heap.objs.size + 1) s.heap.objs.size (I.hok.fresh (Nat.le_succ _)) (I.hok.fresh (Nat.le_refl _)) (Nat.ne_of_lt (Nat.lt_succ_self _))
  have I2 := Inv.made (C := C) I
  have r2 : Vals (V.ref (s.heap.objs.size + 1) :: (vs ++ dvs)) (Value.ref (s.heap.objs.size + 1) :: (us ++ ds)) := .cons rfl (r.append hd)
  have hl : (Value.ref (s.heap.objs.size + 1) :: us ++ ds).length = ps.length := by
    have e := r2.length
    rw [F.len _ _ _ _ hq] at e
    exact e.symm
  refine wpAny_call (make_map (f := f) I.kIn M.makes M.init (beq_iff_eq.mp M.fn) (codeAny_mono (F.run _ X.stack _ _ ⟨Value.ref (s.heap.objs.size + 1) :: us, []⟩ (Value.ref (s.heap.objs.size + 1) :: (us ++ ds)) _ _ (E σ) (hr.make C us [])
    (I2.env0.make C us []) (hb _ (Value.ref (s.heap.objs.size + 1) :: us) I2.kIn hl) r2 hq) fun r s' hq' => ?_))
  cases r with
  | error e => exact hx pins _ _ e s' I2 hq'
  | ok fl =>
    cases fl with
    | ret u =>
      obtain ⟨v, H', I3, rv, ev, q3⟩ := I2.after hq'
      subst ev
      exact ⟨rv, ⟨V.ref (s.heap.objs.size + 1), H', I3, rfl, q3⟩⟩
    | next => exact False.elim hq'
    | brk => exact False.elim hq'
    | cont => exact False.elim hq'
def tMakeT (C : Addr) (sp : Sp) (dvs : List V) (E : L2.St → XK) (t : TA) : TE := fun σ H Q => t σ H fun vs H1 => ∀ x dx, H1 x = none → H1 dx = none → dx ≠ x → sp (.ref x :: (vs ++ dvs)) (upd (upd H1 dx (.own x)) x (.ins C dx [])) (fun v H2 => v = .non ∧ Q (.ref x) H2) (E σ)
/-- C(e, ..) within a try -/
theorem pe_makeT (M : Mk X.K C f) (F : FnOk X.prog X.w X.K X.mg X.base CX k f fd ps sp) (hr : Room (k + 1) X.A) (hg : Gl X x) (hm : X.mg x = some (.ref C)) (hb : Binds X.K fd ps ds) (hd : Vals dvs ds) (hx : ∀ σ, PassesAt CX X σ (E σ))
    (ha : PA X (e :: es) t) (hdb : (x == ("__debug__" : Str)) = false := by decide) (he : starEach (e :: es) X.env = (false, eval e X.env) :: starEach es X.env := by rfl) (hpl : (backTo pos (starEach es X.env)).any (·.1) = false := by rfl) :
    PE X (.Call (.Name x p) (e :: es) [] pos) (tMakeT C sp dvs E t) := by
  refine ⟨fun pins s σ H Q I h => ?_⟩
  refine wpAny_Call_Name_kw (ld_glob I hg hm ?_ hdb)
  refine PySem.W.callWith_K (h₀ := X.base) I.ok.mod.kin M.kp (thn (ha.run pos pins s σ H _ I h) fun us s1 ⟨vs, H1, I1, r, q⟩ => ⟨I1.kIn, ?_⟩) he hpl
  exact run_makeT M F hr hb hd (hx σ) I1 r q
end
/-- the calls of a def with one default: with and without it -/
structure Dfl1 (K : PySem.W.Frag) (fd : FuncData) (ps : List Str) (dv : V) : Prop where
  all : Binds K fd ps []
  one : ∃ ds, Vals [dv] ds ∧ Binds K fd ps ds
end XL
namespace XL
open PySem PySem.Spec PyProof.Rows L2
section
variable {X : Cx} {pos : Pos}
theorem pg_unlK (K : PySem.W.Frag) (n : Nat) {es : List Expr} {k : Nat} {t : TGs} (h : PGs X es t) (hc : X.calm = true := by rfl) (hK : X.K = K := by rfl)
    (hn : (assignEach es X.env).length = n := by rfl) (hst : (assignEach es X.env).findIdx? (·.1) = none := by rfl) : PG X (.Tuple es k pos) (gUnl K n t) := hK ▸ pg_unl hc h hn hst
theorem mt_indexK (K : PySem.W.Frag) (hK : X.K = K := by rfl) : MtR X "list.index" (rIndex K) := hK ▸ mt_index
end
end XL
set_option Elab.async false
set_option linter.all false
set_option maxRecDepth 100000
set_option maxHeartbeats 4000000
/-! XDel: del xs[a:]. -/
namespace XL
open PySem PySem.Spec PyProof.Rows L2
section
variable {prog : Program} {w : World} {A : Around} {E : Value → Shared → Prop} {s : Shared}
def selF (a n : Int) (i : Nat) : Bool := if (1 : Int) > 0 then a ≤ i && i < n && ((i : Int) - a) % 1 == 0 else n < i && i ≤ a && (a - i) % (-1) == 0
theorem selF_eq (a n i : Nat) : selF (a : Int) (n : Int) i = (decide (a ≤ i) && decide (i < n)) := by
  unfold selF
  rw [if_pos (by decide)]
  have h : (((i : Int) - (a : Int)) % 1 == 0) = true := by rw [Int.emod_one]; rfl
  rw [h, Bool.and_true]
  congr 1
  · exact decide_eq_decide.mpr Int.ofNat_le
  · exact decide_eq_decide.mpr Int.ofNat_lt
theorem zip_keep : ∀ (xs : List Value) (j a n : Nat), j + xs.length ≤ n → ((xs.zipIdx j).filterMap fun (p : Value × Nat) => if (selF (a : Int) (n : Int) p.2) = true then none else some p.1) = xs.take (a - j)
  | [], _, _, _, _ => by simp
  | x :: r, j, a, n, h => by
    rw [List.length_cons] at h
    rw [List.zipIdx_cons, List.filterMap_cons, selF_eq]
    have ih := zip_keep r (j + 1) a n (by omega)
    by_cases hj : a ≤ j
    · have e1 : (decide (a ≤ j) && decide (j < n)) = true := by rw [decide_eq_true hj, decide_eq_true (by omega)]; rfl
      have e0 : a - j = 0 := by omega
      have e2 : a - (j + 1) = 0 := by omega
      rw [e2, List.take_zero] at ih
      rw [e0, List.take_zero]
      simp only [e1, if_true]
      exact ih
    · have e1 : (decide (a ≤ j) && decide (j < n)) = false := by rw [decide_eq_false hj]; rfl
      have e0 : a - j = a - (j + 1) + 1 := by omega
      rw [e0, List.take_succ_cons, ← ih]
      simp only [e1, Bool.false_eq_true, if_false]
theorem bounds_from {a n : Nat} (h : a ≤ n) : sliceBounds (some (a : Int)) none none n = ((a : Int), (n : Int), 1) := by
  simp only [sliceBounds, Option.getD_none]
  have h1 : ¬ ((a : Int) < 0) := by omega
  simp only [h1, if_false, show (1 : Int) > 0 by decide, if_true]
  congr 1
  omega
/-- list.__delitem__ with a slice from a place on -/
theorem delItem_from {l sl : Addr} {items : Array Value} {n : Nat} {vl : Value} {a : Nat} {Q : Unit → Shared → Prop}
    (e : s.heap.get? l = some { cls := .type "list", data := .seq items n }) (hs : s.heap.IsSliceOf sl vl .none .none) (pl : IsPart vl (some (a : Int))) (hac : a ≤ items.size) (hsz : items.size ≤ sizeLine)
    (h : Q () { s with heap := s.heap.update l (Obj.mapSeq fun xs => (xs.toList.zipIdx.filterMap fun (p : Value × Nat) => if (selF (a : Int) (items.size : Int) p.2) = true then none else some p.1).toArray) }) :
    wpAny (model prog w) A (delItem (.ref l) (.ref sl)) Q E s := by
  have hl : s.heap.IsList l items := PySem.IsL.isList e
  obtain ⟨os, hos, hcs, hds⟩ := id hs
  have hTs : s.TypeIs (.ref sl) "slice" := ⟨os, hos, hcs⟩
  have hstep : ¬ ((rawPart none == rawInt 0) = true) := Bool.false_ne_true
  have hz' : ((fun xs : Array Value => (xs.toList.zipIdx.filterMap fun (p : Value × Nat) => if (selF (a : Int) (items.size : Int) p.2) = true then none else some p.1).toArray) items).size ≤ sizeLine + 1 := by
    show (_ : List Value).toArray.size ≤ _
    rw [List.size_toArray, zip_keep items.toList 0 a items.size (by rw [Array.length_toList]; omega), List.length_take, Array.length_toList]
    omega
  unfold delItem
  try with_reducible refine wpAny_holding ?_
  first | refine wpAny_bind (wpAny_pure ?_) | skip
  refine wpAny_bind (wpAny_sequenceKey hl.typeIs (by decide) ?_)
  refine wpAny_bind (wpAny_callSpecial?_slot (name := Str.ofString "__delitem__") hl.typeIs PySem.F.slot_list_delitem
    (wpAny_call_entry PySem.F.slot_list_delitem hl.typeIs PySem.F.entry_list_delitem ?_ (PySem.F.args_list_delitem_2 _ _)))
  show wpAny _ _ (Builtin.List.listSubscript? (.ref sl) >>= _) _ _ s
  refine wpAny_bind ?_
  unfold Builtin.List.listSubscript?
  refine wpAny_bind (wpAny_specialOf hTs slice_no_index ?_)
  simp only [Option.isNone_none, if_true]
  refine wpAny_pure ?_
  show wpAny _ _ (typeOf (.ref sl) >>= _) _ _ s
  refine wpAny_bind (wpAny_typeOf hTs ?_)
  first
    | rw [if_neg (by decide)]
    | refine PySem.W.KFB.if_not (by decide) ?_
  rw [listSliceParts_eq]
  refine wpAny_bind (wpAny_bind (wpAny_field hos hds (x := .none) rfl (wpAny_bind (wpAny_listPart .none ?_))))
  rw [if_neg hstep]
  refine wpAny_bind (wpAny_field hos hds (x := vl) rfl (wpAny_bind (wpAny_listPart pl ?_)))
  refine wpAny_bind (wpAny_field hos hds (x := .none) rfl (wpAny_bind (wpAny_listPart .none (wpAny_pure ?_))))
  unfold Builtin.List.listItems
  refine wpAny_bind (wpAny_bind (wpAny_seqItems e rfl (wpAny_pure ?_)))
  refine wpAny_bind (wpAny_of_eq ((sliceIndices_raw (some (a : Int)) none none items.size (by simp)).trans (congrArg (pure : Int × Int × Int → Sem (Int × Int × Int)) (bounds_from hac))) ?_)
  refine wpAny_bind (wpAny_rule ?_)
  show wpAny _ _ (updateSeq l (fun xs => (xs.toList.zipIdx.filterMap fun (p : Value × Nat) => if (selF (a : Int) (items.size : Int) p.2) = true then none else some p.1).toArray) >>= _) _ _ s
  refine wpAny_bind (wpAny_updateSeq (hz := hsz) (_hz' := hz') e rfl ?_)
  refine wpAny_bind (wpAny_letGo ?_)
  first
    | exact wpAny_bind (wpAny_pure (wpAny_pure ⟨.none, rfl, wpAny_pure h⟩))
    | exact wpAny_pure ⟨.none, rfl, wpAny_pure h⟩
end
section
variable {X : Cx} {pos : Pos}
def tDelF (to ti : TE) : TS := fun D σ H => to σ H fun x H1 => ti σ H1 fun y H2 => ∃ (l : Addr) (xs : List V) (k : Nat), x = .ref l ∧ y = .int (k : Nat) ∧ H2 l = some (.lst xs) ∧ k ≤ xs.length ∧ D.nx σ (upd H2 l (.lst (xs.take k)))
theorem ps_delFrom {o lo : Expr} {to ti : TE} {p2 tpos : Pos} (ho : PE X o to) (hi : PE X lo ti) : PS X (.Delete [.Subscript o (.Slice (some lo) none none p2) tpos] pos) (tDelF to ti) := by
  refine ⟨fun pins s σ H D I h => ?_⟩
  refine wpAny_Delete (wpAny_deleteEach_cons (wpAny_delete_Subscript (thn (ho.run pins s σ H _ I h) fun u s1 ⟨x, H1, I1, rx, q1⟩ => ?_)))
  refine wpAny_Slice (wpAny_evalPart_some (thn (hi.run pins s1 σ H1 _ I1 q1) fun iv s2 ⟨y, H2, I2, ry, q2⟩ => wpAny_evalPart_none (wpAny_evalPart_none ?_)))
  obtain ⟨l, xs, k, rfl, rfl, hH, hk, q2⟩ := q2
  cases (show u = Value.ref l from rx)
  obtain ⟨t, rfl⟩ := (show ∃ t, iv = Value.int (k : Nat) t from ry)
  have I4 : L2.Inv X pins σ H2 { s2 with heap := s2.heap.push { cls := .type "slice", data := .fields #[.int (k : Nat) t, .none, .none] } } := I2.kept (t' := s2.toks) fun b ob q => Heap.get?_push_of_some _ q
  obtain ⟨z, its, n, r, hl, e⟩ := I4.lstM hH
  refine delItem_from (a := k) e (Heap.IsSliceOf.new ..) (.int _ _) (by rw [List.size_toArray, ← hl]; exact hk) (by rw [List.size_toArray]; omega) ?_
  refine wpAny_deleteEach_nil ⟨σ, _, I4.lset (its' := its.take k) (t' := s2.toks) hH e ?_ (r.take k) ?_, q2⟩
  · show (_ : List Value).toArray = _
    rw [zip_keep its 0 k _ (by rw [List.size_toArray]; omega)]
    rfl
  · rw [List.length_take]
    omega
end
theorem Sep.setAt {G H : Hp} {M : List (Addr × HO)} {i : Nat} {a : Addr} {o o' : HO} (S : Sep G M H) (h : M[i]? = some (a, o)) : Sep G (M.set i (a, o')) (upd H a o') := by
  have hi := (List.getElem?_eq_some_iff.mp h).1
  have S1 := S.perm (perm_erase h).symm
  have S2 := S1.set (o' := o')
  have e : (M.set i (a, o'))[i]? = some (a, o') := List.getElem?_set_self hi
  have p := perm_erase e
  rw [List.eraseIdx_set_eq] at p
  exact S2.perm p
end XL
namespace XL
open PySem PySem.Spec PyProof.Rows L2
/-! ### a text, several times -/
def repS (x : Str) (k : Nat) : Str := ⟨(List.replicate k x.cps).foldl (· ++ ·) #[]⟩
theorem foldl_cps : ∀ (k : Nat) (a : Array Nat) (x : Array Nat), ((List.replicate k x).foldl (· ++ ·) a).toList = a.toList ++ (List.replicate k x.toList).flatten
  | 0, a, x => by simp
  | k + 1, a, x => by
    rw [List.replicate_succ, List.foldl_cons, foldl_cps k, List.replicate_succ, List.flatten_cons]
    simp
theorem repS_tl (x : Str) (k : Nat) : (repS x k).cps.toList = (List.replicate k x.cps.toList).flatten := by
  have := foldl_cps k #[] x.cps
  simpa [repS] using this
theorem repS_len (x : Str) : ∀ k : Nat, (repS x k).length = k * x.length := by
  intro k
  rw [len_tl, repS_tl]
  induction k with
  | zero => simp
  | succ k ih =>
    rw [List.replicate_succ, List.flatten_cons, List.length_append, ih, ← len_tl, Nat.succ_mul]
    omega
theorem repS_mem {x : Str} {k c : Nat} (h : c ∈ (repS x k).cps.toList) : c ∈ x.cps.toList := by
  rw [repS_tl] at h
  obtain ⟨l, hl, hc⟩ := List.mem_flatten.mp h
  rw [(List.mem_replicate.mp hl).2] at hc
  exact hc
def yMulS : R2 := fun x y H Q => match x, y with
  | .str z, .int k => 2 ≤ k ∧ k ≤ 1000 ∧ 1 ≤ z.length ∧ z.length ≤ 1000 ∧ Q (.str (repS z k.toNat)) H
  | _, _ => False
theorem op_mulS {X : Cx} : OpR X (binaryOp .Mult) yMulS := by
  intro pins s σ H x y v u Q I rx ry h
  unfold yMulS at h
  split at h
  · rename_i z k
    obtain ⟨h1, h2, h3, h4, q⟩ := h
    obtain ⟨t, rfl⟩ := rx
    obtain ⟨t', rfl⟩ := ry
    have hk : ¬ k < 1 := by omega
    have hc : (k == 1 || z.length == 0) = false := by
      rw [Bool.or_eq_false_iff]
      exact ⟨beq_eq_false_iff_ne.mpr (by omega), beq_eq_false_iff_ne.mpr (by omega)⟩
    have hl : z.length * k.toNat ≤ 1000 * 1000 := Nat.mul_le_mul h4 (by omega)
    refine P.mul_str (by rw [decide_eq_false (by omega), decide_eq_false (by omega)]; rfl) (fun _ _ h => ?_) (fun _ _ => ?_) ?_
    · have : (z.length : Int) ≤ (2 ^ 63 - 1) / k := by
        rw [Int.le_ediv_iff_mul_le (by omega)]
        have e : (z.length : Int) * k = ((z.length * k.toNat : Nat) : Int) := by rw [Int.natCast_mul, Int.toNat_of_nonneg (by omega)]
        rw [e]
        omega
      omega
    · unfold Builtin.Str.tooLong
      exact decide_eq_false (by rw [sizeLine_eq]; omega)
    · rw [if_neg hk, if_neg (by rw [hc]; decide)]
      refine ⟨?_, .str (repS z k.toNat), H, I.tok _, ⟨_, rfl⟩, q⟩
      show (repS z k.toNat).length ≤ sizeLine
      rw [repS_len, sizeLine_eq, Nat.mul_comm]
      omega
  · exact h.elim
end XL
set_option Elab.async false
set_option linter.all false
set_option maxRecDepth 100000
set_option maxHeartbeats 4000000
/-! XPage: x in o by an own __contains__. -/
namespace XL
open PySem PySem.Spec PyProof.Rows L2
section
variable {X : Cx} {CX : CXT} {C f : Addr} {fd : FuncData} {ps : List Str} {sp : Sp} {E : XK} {n : Nat}
def yInO (C : Addr) (sp : Sp) (E : XK) (ng : Bool) : R2 := fun x y H Q => ∃ a dx fs, y = .ref a ∧ H a = some (.ins C dx fs) ∧ sp [.ref a, x] H (fun v H' => match v with
  | .bl b => Q (.bl (if ng = true then !b else b)) H'
  | _ => False) E
theorem op_inO (F : FnOk X.prog X.w X.K X.mg X.base CX n f fd ps sp) (hs : PySem.W.findIn X.K (.ref C) "__contains__" = some (some (.ref f))) (hf : PySem.W.isFn X.K (.ref f) = true) (hb : Binds X.K fd ps []) (hx : Passes CX X E) (hr : Room n X.A) : OpR X (compareOp .In) (yInO C sp E false) := by
  intro pins s σ H x y u v Q I rx ry h
  obtain ⟨a, dx, fs, rfl, ha, hsp⟩ := h
  cases ry
  obtain ⟨mA, J1, _⟩ := ins_get I.hok ha
  obtain ⟨od, J1, _⟩ := J1.look
  obtain ⟨m, hF⟩ := I.fr
  refine PySem.W.in_K hF I.ok.mod.kin J1 hs hf (wpAny_mono (run_fn (us := [.ref a, u]) (vs := [.ref a, x]) (dvs := []) F hr hb .nil hx I (.cons rfl (.cons rx .nil)) hsp) (fun r s' q => ?_) fun _ _ e => e)
  obtain ⟨z, H', I', rz, q⟩ := q
  cases z with
  | bl b =>
    cases rz
    exact wpAny_truthy_bool ⟨.bl b, H', I', rfl, q⟩
  | _ => exact q.elim
theorem op_ninO (F : FnOk X.prog X.w X.K X.mg X.base CX n f fd ps sp) (hs : PySem.W.findIn X.K (.ref C) "__contains__" = some (some (.ref f))) (hf : PySem.W.isFn X.K (.ref f) = true) (hb : Binds X.K fd ps []) (hx : Passes CX X E) (hr : Room n X.A) : OpR X (compareOp .NotIn) (yInO C sp E true) := by
  intro pins s σ H x y u v Q I rx ry h
  obtain ⟨a, dx, fs, rfl, ha, hsp⟩ := h
  cases ry
  obtain ⟨mA, J1, _⟩ := ins_get I.hok ha
  obtain ⟨od, J1, _⟩ := J1.look
  obtain ⟨m, hF⟩ := I.fr
  refine PySem.W.notIn_K hF I.ok.mod.kin J1 hs hf (wpAny_mono (run_fn (us := [.ref a, u]) (vs := [.ref a, x]) (dvs := []) F hr hb .nil hx I (.cons rfl (.cons rx .nil)) hsp) (fun r s' q => ?_) fun _ _ e => e)
  obtain ⟨z, H', I', rz, q⟩ := q
  cases z with
  | bl b =>
    cases rz
    exact wpAny_truthy_bool ⟨.bl (!b), H', I', rfl, q⟩
  | _ => exact q.elim
end
theorem _root_.L2.Room.u190 {k : Nat} {A : Around} (r : L2.Room k A) : A.units + 190 < cLine := by have := r.un; omega
/-! ### == and != of data of up to 190 levels, and of plain values -/
def rNeL (K : PySem.W.Frag) : R2 := fun x y H Q => ∃ d e, Dp K H x d ∧ Dp K H y e ∧ d.canLay0 = true ∧ e.canLay0 = true ∧ d.depth ≤ 190 ∧ Q (.bl (!PyData.eqv d e)) H
theorem op_neL {X : Cx} (K : PySem.W.Frag) (hu : X.A.units + 190 < cLine) (hK : X.K = K := by rfl) : OpR X (compareOp .NotEq) (rNeL K) := by
  subst hK
  intro pins s σ H x y v u Q I rx ry h
  obtain ⟨d, e, hd, he, sd, se, dp, q⟩ := h
  obtain ⟨as, r1⟩ := Dp.reads I d x v hd rx
  obtain ⟨bs, r2⟩ := Dp.reads I e y u he ry
  exact SeqAt.compareNe_reads r1 r2 sd se (by have := Nat.min_le_left d.depth e.depth; omega) ⟨.bl _, H, I, rfl, q⟩
def yEqL (K : PySem.W.Frag) : R2 := fun x y H Q => match x, y with
  | .int i, .int j => Q (.bl (decide (i = j))) H
  | .str i, .str j => Q (.bl (decide (i = j))) H
  | .bl i, .bl j => Q (.bl (decide (i = j))) H
  | .ref a, .ref b => rEqL K (.ref a) (.ref b) H Q
  | x, y => scal x y = true ∧ Q (.bl (decide (x = y))) H
def yNeL (K : PySem.W.Frag) : R2 := fun x y H Q => match x, y with
  | .int i, .int j => Q (.bl (!decide (i = j))) H
  | .str i, .str j => Q (.bl (!decide (i = j))) H
  | .bl i, .bl j => Q (.bl (!decide (i = j))) H
  | .ref a, .ref b => rNeL K (.ref a) (.ref b) H Q
  | x, y => scal x y = true ∧ Q (.bl (!decide (x = y))) H
theorem op_eqLK {X : Cx} (K : PySem.W.Frag) (hu : X.A.units + 190 < cLine) (hK : X.K = K := by rfl) : OpR X (compareOp .Eq) (yEqL K) := by
  refine or_str (OpR.or (op_eq (X := X)) (op_eqL K hu hK)) fun x y H Q h => ?_
  unfold yEqL at h
  split at h
  · exact .inl ⟨rfl, by rw [deci]; exact h⟩
  · exact .inl ⟨rfl, by rw [decs]; exact h⟩
  · exact .inl ⟨rfl, by rw [decb]; exact h⟩
  · exact .inr h
  · exact .inl h
theorem op_neLK {X : Cx} (K : PySem.W.Frag) (hu : X.A.units + 190 < cLine) (hK : X.K = K := by rfl) : OpR X (compareOp .NotEq) (yNeL K) := by
  refine or_str (OpR.or (op_ne (X := X)) (op_neL K hu hK)) fun x y H Q h => ?_
  unfold yNeL at h
  split at h
  · exact .inl ⟨rfl, by rw [deci]; exact h⟩
  · exact .inl ⟨rfl, by rw [decs]; exact h⟩
  · exact .inl ⟨rfl, by rw [decb]; exact h⟩
  · exact .inr h
  · exact .inl h
end XL
set_option Elab.async false
set_option linter.all false
set_option maxRecDepth 100000
set_option maxHeartbeats 4000000
/-! XCnt: xs.count(x) of data. -/
namespace XL
open PySem PySem.Spec PyProof.Rows L2
theorem _root_.L2.Room.u65 {k : Nat} {A : Around} (r : L2.Room k A) : A.units + 65 < cLine := by have := r.un; omega
def rCntD (K : PySem.W.Frag) : V → List V → Hp → VK → Prop := fun x xs H Q => ∃ (a : Addr) (y : V) (ys : List V) (d : PyData) (ds : List PyData), x = V.ref a ∧ xs = [y] ∧ SqL K H a ys ∧ DpAll K H ys ds ∧ Dp K H y d ∧
  PyData.canLayAll0 ds = true ∧ SeqAt.shaped d = true ∧ Q (.int ((ds.countP fun z => PyData.eqv z d : Nat) : Int)) H
theorem mt_countD {X : Cx} (K : PySem.W.Frag) (hu : X.A.units + 65 < cLine) (h : X.K = K := by rfl) : MtR X "list.count" (rCntD K) := by
  subst h
  intro pins s σ H x xs v us Q I rx rxs h
  obtain ⟨a, y, ys, d, ds, rfl, rfl, hs, ha, hy, hxs, sd, q⟩ := h
  cases rx
  cases rxs with
  | cons ry rt =>
    rename_i uy ut
    cases rt
    obtain ⟨bs, r1⟩ := Dp.reads I d y uy hy ry
    have hroom : X.A.units + 1 + min (PyData.depthAll ds) d.depth < cLine := room_in_shaped sd hu
    obtain ⟨its, rv, ⟨⟨cls, dd, data, sl⟩, n, ho, hc, hdn, hd⟩, hlen⟩ := I.list hs
    simp only at hc hd
    subst hc hd
    obtain ⟨as, h4⟩ := Dp.readsAll I ds _ its ha rv
    have hmap : its.map (SeqAt.readOf s.heap) = ds := SeqAt.readsAll_map ds its as hxs h4
    refine call_meets PySem.F.slot_list_count ⟨_, ho, rfl⟩ PySem.F.entry_list_count (PySem.F.args_list_count_2 _ _)
      (SeqAt.list_countAt a its.toArray n dd sl uy (fun u => PyData.eqv (SeqAt.readOf s.heap u) d)) ⟨ho, SeqAt.items_eqAt (vs := its.toArray) (show ReadsAll s.heap its.toArray.toList ds as from h4) r1 hxs (SeqAt.canLay_of_shaped sd) hroom, ?_⟩
    have ec : its.toArray.toList.countP (fun u => PyData.eqv (SeqAt.readOf s.heap u) d) = ds.countP fun z => PyData.eqv z d := by
      rw [← hmap, List.countP_map]
      rfl
    refine ⟨.int ((ds.countP fun z => PyData.eqv z d : Nat) : Int), H, I.tok _, ⟨s.toks, ?_⟩, q⟩
    show Value.int ((its.toArray.toList.countP (fun u => PyData.eqv (SeqAt.readOf s.heap u) d) : Nat) : Int) s.toks = Value.int ((ds.countP fun z => PyData.eqv z d : Nat) : Int) s.toks
    rw [ec]
end XL
set_option Elab.async false
set_option linter.all false
set_option maxRecDepth 100000
set_option maxHeartbeats 4000000
/-! XPat: tuples that are put together and cut. -/
namespace XL
open PySem PySem.Spec PyProof.Rows L2
section
variable {K : PySem.W.Frag} {G H : Hp} {M : List (Addr × HO)} {a b : Addr} {xs ys : List V} {Q : VK}
theorem op_catAK {X : Cx} (K : PySem.W.Frag) (h : X.K = K := by rfl) : OpR X (binaryOp .Add) (rCatA K) := h ▸ op_catA
theorem cat_ok (S : Sep G M H) (ha : SqT K G a xs) (hb : SqT K G b ys) (hl : xs.length + ys.length ≤ sizeLine) (q : ∀ c G' H', Same G G' → SqT K G' c (xs ++ ys) → Sep G' M H' → Q (.ref c) H') : rCatA K (.ref a) (.ref b) H Q := by
  refine ⟨a, b, xs, ys, rfl, rfl, S.t ha, S.t hb, hl, fun e => ?_, fun _ e => ?_, fun _ _ p np => ?_⟩
  · subst e
    exact q b G H (Same.refl G) hb S
  · subst e
    exact q a G H (Same.refl G) (by rw [List.append_nil]; exact ha) S
  · exact q p _ _ (S.grow np) (SqT.of upd_same) (S.newG np)
theorem cutA_ok {lo hi : Option Int} (S : Sep G M H) (ha : SqT K G a xs) (q : ∀ c G' H', Same G G' → SqT K G' c (cutV xs lo hi) → Sep G' M H' → Q (.ref c) H') : rSlA K (.ref a) lo hi H Q := by
  refine ⟨a, xs, rfl, S.t ha, fun e => ?_, fun _ p np => ?_⟩
  · refine q a G H (Same.refl G) ?_ S
    have : cutV xs lo hi = xs := by
      unfold cutV
      rw [e.1, e.2, Nat.sub_zero, List.drop_zero, List.take_length]
    rw [this]
    exact ha
  · exact q p _ _ (S.grow np) (SqT.of upd_same) (S.newG np)
end
theorem sqT_ty {K : PySem.W.Frag} {H : Hp} {a : Addr} {xs : List V} (h : SqT K H a xs) : TyX K H (.ref a) (.type "tuple") := by
  rcases h with (h | ⟨o, h⟩) | ⟨o, _, _, h, c, _⟩
  · exact .base (.tup h)
  · exact .fTuple h
  · exact .kTuple h c
end XL
set_option Elab.async false
set_option linter.all false
set_option maxRecDepth 100000
set_option maxHeartbeats 4000000
/-! XArith: -x and x + y by own methods, x != y by an own __eq__ alone. -/
namespace PySem.W
open PyProof.Rows
section
variable {prog : Program} {w : World} {M : Model} {A : Around} {E : Value → Shared → Prop} {s : Shared} {K : Frag} {x C L f : Addr} {h₀ : Heap} {m : Str → Option Value} {ox : Obj} {od : Option Obj} {b : Value}
def firstIn (K : Frag) (C : Addr) : Bool := match clsIn K C with
  | some cd => (match cd.mro with | .ref D :: _ => D == C | _ => false)
  | none => false
theorem firstIn_self {K : Frag} {C : Addr} (h : selfFirst K C = true) : firstIn K C = true := by
  unfold selfFirst at h
  unfold firstIn
  cases e : clsIn K C with
  | none => rw [e] at h; cases h
  | some cd =>
    rw [e] at h
    have h2 : (cd.mro.head? == some (Value.ref C)) = true := h
    show (match cd.mro with | .ref D :: _ => D == C | _ => false) = true
    cases e2 : cd.mro with
    | nil => rw [e2] at h2; cases h2
    | cons v r =>
      rw [e2] at h2
      have h3 : some v = some (Value.ref C) := eq_of_beq h2
      cases h3
      exact beq_self_eq_true C
theorem fills_own {nm : String} {Q : Bool → Shared → Prop} (X : K.In s.heap) (hm : firstIn K C = true) (hs : findIn K (.ref C) (PySem.dunder nm) = some (some (.ref f))) (q : Q true s) : wpAny M A (fillsNumberSlot (.ref C) nm) Q E s := by
  unfold firstIn at hm
  split at hm
  · rename_i cd hc
    split at hm
    · rename_i D r hr
      have e : D = C := by simpa using hm
      subst e
      have LM : Looks M s.heap (mroOf (.ref D)) cd.mro := (looks_clsIn X hc).andThen .now
      unfold fillsNumberSlot
      refine wpAny_bind (LM.here ?_)
      rw [hr]
      unfold List.anyM
      refine wpAny_bind ?_
      unfold List.anyM
      refine wpAny_bind (wpAny_bind ((looks_findIn X hs).here ?_))
      simp only [ownNameWrapper]
      exact wpAny_pure (wpAny_pure (wpAny_pure q))
    · cases hm
  · cases hm
theorem special_own {name : Str} {args : List Value} {Q : Option Value → Shared → Prop} (X : K.In s.heap) (I : InstAt s.heap x ox C od) (hs : findIn K (.ref C) name = some (some (.ref f))) (hf : isFn K (.ref f) = true)
    (h : wpAny M A (call (.ref f) (.ref x :: args)) (fun v => Q (some v)) E s) : wpAny M A (callSpecial? (.ref x) name args) Q E s := special_fn X I hs (beq_iff_eq.mp hf) h
theorem add_K {Q : Value → Shared → Prop} {y : Addr} {oy : Obj} {ody : Option Obj} (F : Fr h₀ L s.heap m) (X₀ : K.In h₀) (I : InstAt s.heap x ox C od) (J : InstAt s.heap y oy C ody) (hm : firstIn K C = true)
    (hs : findIn K (.ref C) "__add__" = some (some (.ref f))) (hf : isFn K (.ref f) = true) (h : wpAny (model prog w) A (call (.ref f) [.ref x, .ref y]) (CmpBack Q) E s) : wpAny (model prog w) A (binaryOp .Add (.ref x) (.ref y)) Q E s := by
  have X := X₀.keeps F.keep
  unfold binaryOp
  refine wpAny_holding (wpAny_bind ?_)
  unfold binaryOp1
  refine wpAny_bind (I.type.here (wpAny_bind (J.type.here (wpAny_bind (fills_own X hm hs ?_)))))
  simp only [beq_self_eq_true, if_true]
  refine wpAny_bind (wpAny_pure ?_)
  simp only [Bool.and_false, Bool.false_eq_true, if_false, Bool.false_and, if_true]
  have one : wpAny (model prog w) A (tryMethod (.ref x) (PySem.dunder "add") (.ref y)) (fun r s' => ∃ v, r = some v ∧ Q v s') E s := by
    unfold tryMethod
    refine wpAny_bind (special_own X I hs hf (wpAny_mono h (fun v s' hv => ?_) fun _ _ e => e))
    cases v <;> first | exact hv.elim | exact wpAny_pure ⟨_, rfl, hv⟩
  refine wpAny_bind (wpAny_pure ?_)
  simp only [Bool.false_eq_true, if_false]
  refine wpAny_bind (wpAny_mono one (fun r s' z => ?_) fun _ _ e => e)
  obtain ⟨v, rfl, hq⟩ := z
  exact wpAny_pure (wpAny_pure hq)
theorem neg_K {Q : Value → Shared → Prop} (F : Fr h₀ L s.heap m) (X₀ : K.In h₀) (I : InstAt s.heap x ox C od)
    (hs : findIn K (.ref C) "__neg__" = some (some (.ref f))) (hf : isFn K (.ref f) = true) (h : wpAny (model prog w) A (call (.ref f) [.ref x]) Q E s) : wpAny (model prog w) A (unaryOp .USub (.ref x)) Q E s := by
  have X := X₀.keeps F.keep
  unfold unaryOp
  refine wpAny_holding ?_
  simp only []
  refine wpAny_bind (special_own X I hs hf (wpAny_mono h (fun v s' hv => wpAny_pure hv) fun _ _ e => e))
/-- object.__ne__ over an own __eq__ -/
theorem ne_entry {Q : Fin → Shared → Prop} {y : Addr} {b : Bool} (hu : A.units < cLine) (X : K.In s.heap) (I : InstAt s.heap x ox C od) (hs : findIn K (.ref C) "__eq__" = some (some (.ref f))) (hf : isFn K (.ref f) = true)
    (h : wpAny (model prog w) A (call (.ref f) [.ref x, .ref y]) (fun v s' => ∃ c, v = .bool c ∧ Q (.done (.ret (.bool (!c)))) s') E s) : wpAny (model prog w) A (Builtin.«object.__ne__» ⟨[.ref x, .ref y], []⟩) Q E s := by
  unfold Builtin.«object.__ne__»
  refine wpAny_bind (m := slotArgs "__ne__" 1 _) (wpAny_pure ?_)
  refine wpAny_bind (m := cRoomFor _ _) (wpAny_cRoomFor hu ?_)
  refine wpAny_bind (m := callSpecialIfBound? (.ref x) (Str.ofString "__eq__") _) (ifBound_K X I hs hf (wpAny_mono h (fun r s' hq => ?_) fun _ _ y => y))
  obtain ⟨c, rfl, hq⟩ := hq
  refine wpAny_bind (wpAny_truthy_bool ?_)
  exact wpAny_pure hq
theorem ifBound_B {name : Str} {id : String} {args : List Value} {Q : Option Value → Shared → Prop} (X : K.In s.heap) (I : InstAt s.heap x ox C od) (hs : findIn K (.ref C) name = some (some (.builtin id)))
    (hb : ∀ self, bindSpecial (.builtin id) self = pure (.builtin id, [self])) (h : wpAny M A (call (.builtin id) (.ref x :: args)) (fun v => Q (some v)) E s) : wpAny M A (callSpecialIfBound? (.ref x) name args) Q E s := by
  simp only [callSpecialIfBound?, bindSpecialIfBound?]
  refine wpAny_holding (wpAny_bind (wpAny_bind (wpAny_bind (I.type.here ((looks_findIn X hs).here ?_)))))
  refine wpAny_bind (wpAny_askSetting (wpAny_ite ?_))
  have fin : wpAny M A (call (.builtin id) ([.ref x] ++ args) >>= fun v => pure (some v)) Q E s := wpAny_bind (wpAny_mono h (fun v s' h' => wpAny_pure h') fun _ _ h' => h')
  split
  · exact wpAny_bind ((Looks.of_pure (hb _)).here (wpAny_pure (by exact fin)))
  · exact wpAny_tryCatch (wpAny_bind ((Looks.of_pure (hb _)).here (wpAny_pure (by exact fin))))
theorem ne_K {Q : Value → Shared → Prop} {y : Addr} {oy : Obj} {ody : Option Obj} (hu : A.units < cLine) (hu1 : A.in1.units < cLine) (F : Fr h₀ L s.heap m) (X₀ : K.In h₀) (I : InstAt s.heap x ox C od) (J : InstAt s.heap y oy C ody)
    (hn : findIn K (.ref C) "__ne__" = some (some (.builtin "object.__ne__"))) (hm : mroIn K C (.type "object") = some true)
    (hs : findIn K (.ref C) "__eq__" = some (some (.ref f))) (hf : isFn K (.ref f) = true)
    (h : wpAny (model prog w) A.in1 (call (.ref f) [.ref x, .ref y]) (fun v s' => ∃ c, v = .bool c ∧ Q (.bool (!c)) s') E s) : wpAny (model prog w) A (richCompare .NotEq (.ref x) (.ref y)) Q E s := by
  have X := X₀.keeps F.keep
  have one : wpAny (model prog w) A (tryCompare (.ref x) (cmpInfo .NotEq).2.1 (.ref y)) (fun r s' => ∃ v, r = some v ∧ Q v s') E s := by
    unfold tryCompare
    refine wpAny_bind (ifBound_B X I hn PySem.F.slot_object_ne.bind (wpAny_call (codeAny_call_builtin PySem.F.slot_object_ne.plain PySem.F.cmpEntry_ne (check_slot (i := "object.__ne__") (owner := "object") (n := "__ne__") (by decide +kernel) (by decide +kernel) (I.type.andThen (looks_mroIn X hm)) (PySem.F.cmpArgs_ne _ _) (ne_entry (b := true) hu1 X I hs hf (wpAny_mono h (fun v s' hv => ?_) fun _ _ e => e))))))
    obtain ⟨c, rfl, hq⟩ := hv
    refine ⟨c, rfl, ?_⟩
    exact wpAny_pure ⟨_, rfl, hq⟩
  unfold richCompare
  simp only [oneThing_ref]
  refine wpAny_holding (wpAny_bind (wpAny_cRoomFor hu ?_))
  refine wpAny_bind (I.type.here (wpAny_bind (J.type.here ?_)))
  rw [if_neg (by simp)]
  refine wpAny_bind (wpAny_pure ?_)
  simp only [Bool.false_eq_true, if_false]
  refine wpAny_bind (wpAny_mono one (fun r s' z => ?_) fun _ _ e => e)
  obtain ⟨v, rfl, hq⟩ := z
  exact wpAny_pure hq
end
end PySem.W
namespace XL
open PySem PySem.Spec PyProof.Rows L2
section
variable {X : Cx} {CX : CXT} {C f : Addr} {fd : FuncData} {ps : List Str} {sp : Sp} {E : XK} {n : Nat}
/-- -x by an own __neg__ -/
def yNegO (C : Addr) (sp : Sp) (E : XK) : V → Hp → VK → Prop := fun x H Q => ∃ a dx fs, x = .ref a ∧ H a = some (.ins C dx fs) ∧ sp [.ref a] H Q E
theorem un_negO (F : FnOk X.prog X.w X.K X.mg X.base CX n f fd ps sp) (hs : PySem.W.findIn X.K (.ref C) "__neg__" = some (some (.ref f))) (hf : PySem.W.isFn X.K (.ref f) = true) (hb : Binds X.K fd ps []) (hx : Passes CX X E) (hr : Room n X.A) : UnR X (unaryOp .USub) (yNegO C sp E) := by
  intro pins s σ H x v Q I rx h
  obtain ⟨a, dx, fs, rfl, ha, hsp⟩ := h
  cases rx
  obtain ⟨mA, J1, _⟩ := ins_get I.hok ha
  obtain ⟨od, J1, _⟩ := J1.look
  obtain ⟨m, hF⟩ := I.fr
  exact PySem.W.neg_K hF I.ok.mod.kin J1 hs hf (run_fn (us := [.ref a]) (vs := [.ref a]) (dvs := []) F hr hb .nil hx I (.cons rfl .nil) hsp)
/-- x + y by an own __add__, both of class C -/
def yAddO (C : Addr) (sp : Sp) (E : XK) : R2 := yOwn C sp E
theorem op_addO (F : FnOk X.prog X.w X.K X.mg X.base CX n f fd ps sp) (hm : PySem.W.firstIn X.K C = true) (hs : PySem.W.findIn X.K (.ref C) "__add__" = some (some (.ref f))) (hf : PySem.W.isFn X.K (.ref f) = true) (hb : Binds X.K fd ps []) (hx : Passes CX X E) (hr : Room n X.A) : OpR X (binaryOp .Add) (yAddO C sp E) := by
  intro pins s σ H x y u v Q I rx ry h
  obtain ⟨a, b, dx, dy, fs, gs, rfl, rfl, ha, hb', hsp⟩ := h
  cases rx
  cases ry
  obtain ⟨mA, J1, _⟩ := ins_get I.hok ha
  obtain ⟨mB, J2, _⟩ := ins_get I.hok hb'
  obtain ⟨od, J1, _⟩ := J1.look
  obtain ⟨od', J2, _⟩ := J2.look
  obtain ⟨m, hF⟩ := I.fr
  refine PySem.W.add_K hF I.ok.mod.kin J1 J2 hm hs hf ?_
  refine wpAny_mono (run_fn (us := [.ref a, .ref b]) (vs := [.ref a, .ref b]) (dvs := []) F hr hb .nil hx I (.cons rfl (.cons rfl .nil)) hsp) (fun v s' q => ?_) fun _ _ e => e
  obtain ⟨z, H', I', rz, q⟩ := q
  have fin : EP X pins σ Q v s' := ⟨z, H', I', rz, q⟩
  cases v <;> first | exact fin | (cases z <;> first | exact absurd (show _ = _ from rz) (by intro e; cases e) | (obtain ⟨_, e⟩ := rz; cases e))
theorem run_in1 {pins : List (Addr × Obj)} {σ : L2.St} {H : Hp} {s : Shared} {Q : VK} {us : List Value} {vs : List V} (F : FnOk X.prog X.w X.K X.mg X.base CX n f fd ps sp) (hr : Room n X.A.in1) (hb : Binds X.K fd ps []) (hx : Passes CX X E)
    (I : Inv X pins σ H s) (r : Vals vs us) (h : sp vs H Q E) : wpAny (model X.prog X.w) X.A.in1 (call (.ref f) us) (EP X pins σ Q) X.xe s := by
  have hl : us.length = ps.length := by rw [← r.length]; exact F.len _ _ _ _ h
  have b := hb s us I.kIn (by rw [List.append_nil]; exact hl)
  rw [List.append_nil] at b
  refine wpAny_call (codeAny_mono (F.run X.A.in1 X.stack s H ⟨us, []⟩ us vs Q E hr I.env0.in1 b r h) fun r s' hq => ?_)
  cases r with
  | error e => exact hx pins σ _ _ e s' I hq
  | ok fl =>
    cases fl with
    | ret u => exact I.after hq
    | next => exact False.elim hq
    | brk => exact False.elim hq
    | cont => exact False.elim hq
/-- x != y by an own __eq__ alone, both of class C -/
def yNeO (C : Addr) (sp : Sp) (E : XK) : R2 := fun x y H Q => ∃ a b dx dy fs gs, x = .ref a ∧ y = .ref b ∧ H a = some (.ins C dx fs) ∧ H b = some (.ins C dy gs) ∧ sp [.ref a, .ref b] H (fun v H' => match v with
  | .bl b => Q (.bl (!b)) H'
  | _ => False) E
theorem op_neO (F : FnOk X.prog X.w X.K X.mg X.base CX n f fd ps sp) (hn : PySem.W.findIn X.K (.ref C) "__ne__" = some (some (.builtin "object.__ne__"))) (hm : PySem.W.mroIn X.K C (.type "object") = some true)
    (hs : PySem.W.findIn X.K (.ref C) "__eq__" = some (some (.ref f))) (hf : PySem.W.isFn X.K (.ref f) = true) (hb : Binds X.K fd ps []) (hx : Passes CX X E) (hr : Room (n + 1) X.A) : OpR X (compareOp .NotEq) (yNeO C sp E) := by
  intro pins s σ H x y u v Q I rx ry h
  obtain ⟨a, b, dx, dy, fs, gs, rfl, rfl, ha, hb', hsp⟩ := h
  cases rx
  cases ry
  show wpAny _ _ (richCompare .NotEq (.ref a) (.ref b)) _ _ _
  obtain ⟨mA, J1, _⟩ := ins_get I.hok ha
  obtain ⟨mB, J2, _⟩ := ins_get I.hok hb'
  obtain ⟨od, J1, _⟩ := J1.look
  obtain ⟨od', J2, _⟩ := J2.look
  obtain ⟨m, hF⟩ := I.fr
  refine PySem.W.ne_K hr.units0 hr.in1.units0 hF I.ok.mod.kin J1 J2 hn hm hs hf ?_
  refine wpAny_mono (run_in1 (us := [.ref a, .ref b]) (vs := [.ref a, .ref b]) F hr.in1 hb hx I (.cons rfl (.cons rfl .nil)) hsp) (fun v s' q => ?_) fun _ _ e => e
  obtain ⟨z, H', I', rz, q⟩ := q
  cases z with
  | bl c =>
    cases rz
    exact ⟨c, rfl, .bl (!c), H', I', rfl, q⟩
  | _ => exact q.elim
/-- x + y within a try -/
def tAddOT (C : Addr) (sp : Sp) (E : L2.St → XK) (ta tb : TE) : TE := fun σ H Q => ta σ H fun x H1 => tb σ H1 fun y H2 => yOwn C sp (E σ) x y H2 Q
theorem pe_addOT {E : L2.St → XK} {a b : Expr} {ta tb : TE} {pos : Pos} (hla : PE X a ta) (hlb : PE X b tb) (F : FnOk X.prog X.w X.K X.mg X.base CX n f fd ps sp) (hm : PySem.W.firstIn X.K C = true) (hs : PySem.W.findIn X.K (.ref C) "__add__" = some (some (.ref f))) (hf : PySem.W.isFn X.K (.ref f) = true) (hb : Binds X.K fd ps []) (hx : ∀ σ, PassesAt CX X σ (E σ)) (hr : Room n X.A) :
    PE X (.BinOp a .Add b pos) (tAddOT C sp E ta tb) := by
  refine ⟨fun pins s σ H Q I h => ?_⟩
  refine wpAny_BinOp (binT hla hlb I h fun v u s2 x y H2 I2 rx ry q => ?_)
  obtain ⟨a, b, dx, dy, fs, gs, rfl, rfl, ha, hb', hsp⟩ := q
  cases rx
  cases ry
  obtain ⟨mA, J1, _⟩ := ins_get I2.hok ha
  obtain ⟨mB, J2, _⟩ := ins_get I2.hok hb'
  obtain ⟨od, J1, _⟩ := J1.look
  obtain ⟨od', J2, _⟩ := J2.look
  obtain ⟨m, hF⟩ := I2.fr
  refine PySem.W.add_K hF I2.ok.mod.kin J1 J2 hm hs hf ?_
  have hl : ([Value.ref a, .ref b] ++ []).length = ps.length := F.len _ _ _ _ hsp
  refine wpAny_mono (Q := EP X pins σ Q) (wpAny_call (codeAny_mono (F.run X.A X.stack s2 H2 ⟨[.ref a, .ref b], []⟩ [.ref a, .ref b] [.ref a, .ref b] Q (E σ) hr I2.env0 (hb s2 [.ref a, .ref b] I2.kIn hl) (.cons rfl (.cons rfl .nil)) hsp) fun r s' hq => ?_)) (fun v s' q => ?_) fun _ _ e => e
  · cases r with
    | error e => exact hx σ pins H2 s2 e s' I2 hq
    | ok fl =>
      cases fl with
      | ret u => exact I2.after hq
      | next => exact False.elim hq
      | brk => exact False.elim hq
      | cont => exact False.elim hq
  obtain ⟨z, H', I', rz, q⟩ := q
  have fin : EP X pins σ Q v s' := ⟨z, H', I', rz, q⟩
  cases v <;> first | exact fin | (cases z <;> first | exact absurd (show _ = _ from rz) (by intro e; cases e) | (obtain ⟨_, e⟩ := rz; cases e))
end
end XL
set_option Elab.async false
set_option linter.all false
set_option maxRecDepth 100000
set_option maxHeartbeats 4000000
/-! XSuper: super().m(..); instances of classes without __init__; x <= y of unlike classes by an inherited __le__. -/
namespace PySem.W
open PySem PySem.Calls PyProof.Rows
section
variable {prog : Program} {w : World} {A : Around} {E : Value → Shared → Prop} {s : Shared} {K : Frag} {x C C' L f : Addr} {h₀ : Heap} {m : Str → Option Value} {ox : Obj} {od : Option Obj}
/-- x <= y, y's class below x's, the reflected __ge__ is object's -/
theorem le_sub {Q : Value → Shared → Prop} {y : Addr} {oy : Obj} {ody : Option Obj} (hu : A.units < cLine) (F : Fr h₀ L s.heap m) (X₀ : K.In h₀) (I : InstAt s.heap x ox C od) (J : InstAt s.heap y oy C' ody) (hne : C ≠ C')
    (hsub : subIn K (.ref C') (.ref C) = some true) (hge : findIn K (.ref C') "__ge__" = some (some (.builtin "object.__ge__"))) (hm : mroIn K C' (.type "object") = some true)
    (hs : findIn K (.ref C) "__le__" = some (some (.ref f))) (hf : isFn K (.ref f) = true)
    (h : wpAny (model prog w) A (call (.ref f) [.ref x, .ref y]) (CmpBack Q) E s) : wpAny (model prog w) A (richCompare .LtE (.ref x) (.ref y)) Q E s := by
  have X := X₀.keeps F.keep
  have one : wpAny (model prog w) A (tryCompare (.ref x) (cmpInfo .LtE).2.1 (.ref y)) (fun r s' => ∃ v, r = some v ∧ Q v s') E s := by
    unfold tryCompare
    refine wpAny_bind (ifBound_K X I hs hf (wpAny_mono h (fun v s' hv => ?_) fun _ _ e => e))
    cases v <;> first | exact hv.elim | exact wpAny_pure ⟨_, rfl, hv⟩
  have two : wpAny (model prog w) A (tryCompare (.ref y) (cmpInfo .LtE).2.2 (.ref x)) (fun r s' => r = none ∧ s' = s) E s := by
    unfold tryCompare
    refine wpAny_bind (ifBound_B X J hge PySem.F.slot_object_ge_refl.bind (wpAny_call (codeAny_call_builtin PySem.F.slot_object_ge_refl.plain PySem.F.entry_object_ge (check_slot (i := "object.__ge__") (owner := "object") (n := "__ge__") (by decide +kernel) (by decide +kernel) (J.type.andThen (looks_mroIn X hm)) (PySem.F.args_object_ge_2 _ _) ?_))))
    exact wpAny_pure (wpAny_pure ⟨rfl, rfl⟩)
  unfold richCompare
  simp only [oneThing_ref]
  refine wpAny_holding (wpAny_bind (wpAny_cRoomFor hu ?_))
  refine wpAny_bind (I.type.here (wpAny_bind (J.type.here ?_)))
  rw [if_pos (by simpa using hne)]
  refine wpAny_bind ((looks_subIn X hsub).here ?_)
  simp only [if_true]
  refine wpAny_bind (wpAny_mono two (fun r s' z => ?_) fun _ _ e => e)
  obtain ⟨rfl, rfl⟩ := z
  refine wpAny_bind (wpAny_mono one (fun r s' z => ?_) fun _ _ e => e)
  obtain ⟨v, rfl, hq⟩ := z
  exact wpAny_pure hq
end
end PySem.W
namespace XL
open PySem PySem.Spec PyProof.Rows L2
/-! ### an instance of a class without __init__ -/
structure Mk0 (K : PySem.W.Frag) (C : Addr) : Prop where
  makes : PySem.W.makesIn K C = true
  init : PySem.W.findIn K (.ref C) "__init__" = some (some (.builtin "object.__init__"))
  kp : PySem.W.keepIn K (.ref C) = true
section
variable {X : Cx} {CX : CXT} {C C' f : Addr} {fd : FuncData} {ps : List Str} {sp : Sp} {E : XK} {n : Nat} {x : Str} {p pos : Pos}
def tMk0 (C : Addr) : TE := fun _ H Q => ∀ a dx, H a = none → H dx = none → dx ≠ a → Q (.ref a) (upd (upd H dx (.own a)) a (.ins C dx []))
theorem pe_mk0 (M : Mk0 X.K C) (hg : Gl X x) (hm : X.mg x = some (.ref C)) (hdb : (x == ("__debug__" : Str)) = false := by decide) : PE X (.Call (.Name x p) [] [] pos) (tMk0 C) := by
  refine ⟨fun pins s σ H Q I h => ?_⟩
  refine wpAny_Call_Name_kw (ld_glob I hg hm ?_ hdb)
  have hq := h (s.heap.objs.size + 1) s.heap.objs.size (I.hok.fresh (Nat.le_succ _)) (I.hok.fresh (Nat.le_refl _)) (Nat.ne_of_lt (Nat.lt_succ_self _))
  have I2 := Inv.made (C := C) I
  have kin := I.kIn
  obtain ⟨hh, g, d, t, os⟩ := s
  have Y := PySem.W.makes_of (M := model X.prog X.w) kin M.makes
  refine PySem.W.callWith_K0 kin M.kp (wpAny_call ?_)
  refine PySem.W.make_core Y (PySem.W.looks_findIn kin M.init) (fun self => PySem.W.Looks.of_pure (PySem.W.oi_bind self)) (.inr ⟨rfl, rfl⟩) ?_
  have hx : ((hh.push PySem.W.emptyDict).push (PySem.W.instObj C hh.objs.size)).get? (hh.objs.size + 1) = some (PySem.W.instObj C hh.objs.size) := by heap_get
  have t1 : PySem.W.Looks (model X.prog X.w) ((hh.push PySem.W.emptyDict).push (PySem.W.instObj C hh.objs.size)) (typeOf (.ref (hh.objs.size + 1))) (.ref C) := (PySem.W.Looks.ld hx).andThen .now
  have t2 : PySem.W.Looks (model X.prog X.w) ((hh.push PySem.W.emptyDict).push (PySem.W.instObj C hh.objs.size)) (isInstance (.ref (hh.objs.size + 1)) (.type "object")) true := t1.andThen (Y.top.keeps fun b o e => Heap.get?_push_of_some _ (Heap.get?_push_of_some _ e))
  show codeAny _ _ (.call (.builtin "object.__init__") ⟨[Value.ref (hh.objs.size + 1)], []⟩) _ _
  refine codeAny_call_builtin PySem.W.oi_plain PySem.W.entry_oi (@PySem.W.check_slot (model X.prog X.w) _ _ _ "object.__init__" "object" "__init__" (.ref (hh.objs.size + 1)) [] [] _ PySem.W.oi_kind PySem.W.oi_split t2 (PySem.W.oi_args (.ref (hh.objs.size + 1))) ?_)
  rw [PySem.W.oi_run]
  exact wpAny_pure ⟨rfl, V.ref (hh.objs.size + 1), _, I2, rfl, hq⟩
/-! ### x <= y -/
/-- the class C' of y against the class C of x: the same, not below, or below with object's __ge__ -/
def LeOk (K : PySem.W.Frag) (C C' : Addr) : Prop := PySem.W.notFirst K C (.ref C') = true ∨ (C ≠ C' ∧ PySem.W.subIn K (.ref C') (.ref C) = some true ∧ PySem.W.findIn K (.ref C') "__ge__" = some (some (.builtin "object.__ge__")) ∧ PySem.W.mroIn K C' (.type "object") = some true)
def yLeO (K : PySem.W.Frag) (f : Addr) (sp : Sp) (E : XK) : R2 := fun x y H Q => ∃ a b C C' dx dy fs gs, x = .ref a ∧ y = .ref b ∧ H a = some (.ins C dx fs) ∧ H b = some (.ins C' dy gs) ∧ PySem.W.findIn K (.ref C) "__le__" = some (some (.ref f)) ∧ LeOk K C C' ∧ sp [.ref a, .ref b] H (fun v H' => match v with
  | .bl c => Q (.bl c) H'
  | _ => False) E
theorem op_leO (K : PySem.W.Frag) (F : FnOk X.prog X.w X.K X.mg X.base CX n f fd ps sp) (hf : PySem.W.isFn X.K (.ref f) = true) (hb : Binds X.K fd ps []) (hx : Passes CX X E) (hr : Room n X.A) (hK : X.K = K := by rfl) : OpR X (compareOp .LtE) (yLeO K f sp E) := by
  subst hK
  intro pins s σ H x y u v Q I rx ry h
  obtain ⟨a, b, C, C', dx, dy, fs, gs, rfl, rfl, ha, hb', hs, hle, hsp⟩ := h
  cases rx
  cases ry
  show wpAny _ _ (richCompare .LtE (.ref a) (.ref b)) _ _ _
  obtain ⟨mA, J1, _⟩ := ins_get I.hok ha
  obtain ⟨mB, J2, _⟩ := ins_get I.hok hb'
  obtain ⟨od, J1, _⟩ := J1.look
  obtain ⟨od', J2, _⟩ := J2.look
  obtain ⟨m, hF⟩ := I.fr
  have back : wpAny (model X.prog X.w) X.A (call (.ref f) [.ref a, .ref b]) (PySem.W.CmpBack (EP X pins σ Q)) X.xe s := by
    refine wpAny_mono (run_fn (us := [.ref a, .ref b]) (vs := [.ref a, .ref b]) (dvs := []) F hr hb .nil hx I (.cons rfl (.cons rfl .nil)) hsp) (fun v s' q => ?_) fun _ _ e => e
    obtain ⟨z, H', I', rz, q⟩ := q
    cases z with
    | bl c =>
      cases rz
      exact ⟨.bl c, H', I', rfl, q⟩
    | _ => exact q.elim
  rcases hle with hn | ⟨hne, h1, h2, h3⟩
  · exact PySem.W.cmp_K (op := .LtE) (tb := .ref C') hr.units0 hF I.ok.mod.kin J1 J2.type hn hs hf back
  · exact PySem.W.le_sub hr.units0 hF I.ok.mod.kin J1 J2 hne h1 h2 h3 hs hf back
end
/-! ### super().m(..) -/
/-- the names of a def that tells its class's cell: the parameters, the cell's name, further ones -/
structure SupScope (ps : List Str) (sc : Scope) : Prop where
  kind : sc.kind = .function
  co : sc.isCoroutine = false
  gen : sc.isGenerator = false
  nd : ps.Nodup
  par : ∀ x ∈ ps, sc.names.lookup x = some .local
  cell : ∀ y ∈ sc.names, y.2 ≠ .cell
  free : ∀ y ∈ sc.names, y.2 = .free → y.1 = "__class__"
  cls : sc.names.lookup ("__class__" : Str) = some .free
  sup : sc.names.lookup ("super" : Str) = some .globalImplicit
  one : ps.head? = some ("self" : Str)
/-- such a def at f, of the class at D: its code's object at cda, its cell at cc -/
def SupI (K : PySem.W.Frag) (D f : Addr) (name qual : Str) (params : Arguments) (body : List Stmt) (scope : Scope) (file : Str) (fd : FuncData) (cda cc : Addr) : Prop :=
  ∃ (oc kV doc pm ct ccl cl : Value) (od an cdd cld : Option Addr) (osl ccs csl : Array (Option Value)) (vs : Array Value) (tf : Tok),
    fd = PySem.W.ksFn name qual params body scope .none kV doc pm an (.ref cda) ct cc ∧ K.lookup f = some ⟨oc, od, .func fd, osl⟩ ∧ PySem.W.codeIn K (.ref cda) qual = true ∧ K.lookup cda = some ⟨ccl, cdd, .fields vs, ccs⟩ ∧ vs[2]? = some (.str file tf) ∧
    K.lookup cc = some ⟨cl, cld, .cell (some (.ref D)), csl⟩
def SupF (K : PySem.W.Frag) (D f : Addr) (name qual : Str) (params : Arguments) (body : List Stmt) (scope : Scope) (file : Str) (fd : FuncData) : Prop := ∃ cda cc, SupI K D f name qual params body scope file fd cda cc
/-- from the class at D on, in an instance of C, m is the def at g -/
structure Sup (K : PySem.W.Frag) (C D : Addr) (m : Str) (g : Addr) : Prop where
  sup : PySem.W.ks_superIn K C D m = some (some (.ref g))
  mro : PySem.W.mroIn K C (.ref D) = some true
  clsD : PySem.W.isClsIn K D = true
  opq : PySem.W.nsIn K cStatics "thirdparty.any" = some none
  ty : PySem.W.typeIn K (.ref g) = some (.type "function")
  fn : PySem.W.fnIn K g = true
/-- the context of its body -/
def cxS (P : Program) (w : World) (K : PySem.W.Frag) (mg : Str → Option Value) (base : Heap) (ps : List Str) (qual : Str) (scope : Scope) (f : Addr) (cd : Value) (cc : Addr) (A : Around) (outer : List Env) (s : Shared) (H : Hp) : Cx where
  prog := P
  w := w
  K := K
  mg := mg
  base := base
  A := A.deeper (PySem.W.ksEnv qual scope s.heap.objs.size f cd cc)
  N := ps
  s_0 := s
  H_0 := H
  env := PySem.W.ksEnv qual scope s.heap.objs.size f cd cc
  outer := outer
  stack := PySem.W.ksEnv qual scope s.heap.objs.size f cd cc :: outer
  ex := []
  calm := true
  fn := fun x => !(x == ("__class__" : Str))
  pn := []
  xe := fun _ _ => False
/-- an expression right in a def's body -/
structure PEa (X : Cx) (body : List Stmt) (e : Expr) (te : TE) : Prop where
  run : ∀ (pins : List (Addr × Obj)) (s : Shared) (σ : L2.St) (H : Hp) (Q : VK), Inv X pins σ H s → te σ H Q → PySem.wpAt (model X.prog X.w) X.A (.func body X.env) (eval e X.env) (EP X pins σ Q) X.xe s
theorem pea_of {X : Cx} {body : List Stmt} {e : Expr} {te : TE} (h : PE X e te) : PEa X body e te := ⟨fun pins s σ H Q I q => PySem.wpAt_of_wpAny (h.run pins s σ H Q I q)⟩
/-- a and b, a a truth -/
theorem pea_and {X : Cx} {body : List Stmt} {a b : Expr} {ta tb : TE} {pos : Pos} (ha : PE X a ta) (hb : PEa X body b tb) :
    PEa X body (.BoolOp .And [a, b] pos) (fun σ H Q => ta σ H fun x H1 => ∃ c, x = .bl c ∧ (c = true → tb σ H1 Q) ∧ (c = false → Q (.bl false) H1)) := by
  refine ⟨fun pins s σ H Q I h => ?_⟩
  rw [arm_eval_BoolOp]
  show PySem.wpAt _ _ _ (boolOp pos .And [eval a X.env, eval b X.env]) _ _ s
  show PySem.wpAt _ _ _ (eval a X.env >>= fun v => standAt pos >>= fun _ => holding [v] (truthy v) >>= fun t => match BoolOp.And, t with | .And, false | .Or, true => pure v | _, _ => boolOp pos .And [eval b X.env]) _ _ s
  refine PySem.wpAt_bind (PySem.wpAt_mono (PySem.wpAt_of_wpAny (ha.run pins s σ H _ I h)) (fun v s1 hv => ?_) fun _ _ z => z)
  obtain ⟨x, H1, I1, rv, c, rfl, q1, q2⟩ := hv
  cases rv
  refine PySem.wpAt_bind (PySem.wpAt_of_wpAny (wpAny_standAt ?_))
  refine PySem.wpAt_bind (PySem.wpAt_of_wpAny (wpAny_holding (wpAny_truthy_bool ?_)))
  cases c with
  | false => exact PySem.wpAt_of_wpAny (wpAny_pure ⟨.bl false, H1, I1, rfl, q2 rfl⟩)
  | true => exact hb.run pins s1 σ H1 Q I1 (q1 rfl)
section
variable {P : Program} {w : World} {K : PySem.W.Frag} {mg : Str → Option Value} {base : Heap} {ps : List Str} {name qual : Str} {params : Arguments} {body : List Stmt} {scope : Scope} {f g D C : Addr} {cda cc : Addr} {A : Around} {outer : List Env} {s : Shared} {H : Hp} {fd2 : FuncData} {ps2 : List Str} {sp : Sp} {k : Nat} {file : Str}
theorem lookup_snoc {y p : Str} {u : Value} : ∀ l : List (Str × Value), (l ++ [(p, u)]).lookup y = match l.lookup y with | some v => some v | none => if y = p then some u else none
  | [] => by
    show (match y == p with | true => some u | false => none) = if y = p then some u else none
    by_cases h : y = p
    · rw [if_pos h, beq_iff_eq.mpr h]
    · rw [if_neg h, beq_eq_false_iff_ne.mpr h]
  | (q, v) :: r => by
    show (match y == q with | true => some v | false => (r ++ [(p, u)]).lookup y) = match (match y == q with | true => some v | false => r.lookup y) with | some v => some v | none => if y = p then some u else none
    cases e : (y == q) with
    | true => rfl
    | false => exact lookup_snoc r
theorem lookup_none {y : Str} : ∀ {l : List (Str × Value)}, (∀ p ∈ l, p.1 ≠ y) → l.lookup y = none
  | [], _ => rfl
  | (q, v) :: r, h => by
    show (match y == q with | true => some v | false => r.lookup y) = none
    rw [beq_eq_false_iff_ne.mpr (Ne.symm (h (q, v) List.mem_cons_self))]
    exact lookup_none fun p hp => h p (List.mem_cons_of_mem _ hp)
theorem zip_rev_lookup : ∀ {ps : List Str} {us : List Value} {i : Nat} {y : Str} {u : Value}, ps.Nodup → ps[i]? = some y → us[i]? = some u → (ps.zip us).reverse.lookup y = some u
  | p :: r, w :: ws, 0, y, u, nd, h1, h2 => by
    simp only [List.getElem?_cons_zero, Option.some.injEq] at h1 h2
    subst h1
    subst h2
    rw [List.zip_cons_cons, List.reverse_cons, lookup_snoc, lookup_none, if_pos rfl]
    intro q hq e
    have := List.of_mem_zip (List.mem_reverse.mp hq)
    rw [← e] at nd
    exact (List.nodup_cons.mp nd).1 this.1
  | p :: r, w :: ws, i + 1, y, u, nd, h1, h2 => by
    rw [List.zip_cons_cons, List.reverse_cons, lookup_snoc, zip_rev_lookup (i := i) (List.nodup_cons.mp nd).2 (by simpa using h1) (by simpa using h2)]
  | [], _, _, _, _, _, h1, _ => by simp at h1
  | _ :: _, [], _, _, _, _, _, h2 => by simp at h2
theorem inv_sup {us : List Value} {vs : List V} {h₁ : Heap} {tk : Nat} {fc : Value} (S : SupScope ps scope) (hd : A.handled = none) (e0 : Env0 P w K mg base A outer s H) (hl : vs.length = ps.length) (r : Vals vs us) {ccl : Value} {ccd : Option Addr} {ccs : Array (Option Value)} {v0 : Option Value}
    (hcc : K.lookup cc = some ⟨ccl, ccd, .cell v0, ccs⟩) (hns : h₁.Ns s.heap.objs.size (fun x => (ps.zip us).reverse.lookup x)) (hk : ∀ b o, s.heap.get? b = some o → h₁.get? b = some o) :
    Inv (cxS P w K mg base ps qual scope f fc cc A outer s H) [] (L2.start ps vs) H { s with heap := h₁, toks := tk } := by
  have noA : ∀ b : Addr, b ∉ (cxS P w K mg base ps qual scope f fc cc A outer s H).ex := fun b z => absurd (show b ∈ ([] : List Addr) from z) (by simp)
  have cells : ∀ y c, (cxS P w K mg base ps qual scope f fc cc A outer s H).env.cells.lookup y = some c → y = "__class__" ∧ c = cc := fun y c h => by
    have h : List.lookup y [(("__class__" : Str), cc)] = some c := h
    rw [List.lookup_cons] at h
    split at h
    · rename_i e
      exact ⟨beq_iff_eq.mp e, (Option.some.inj h).symm⟩
    · exact nomatch h
  have bcc := e0.mod.kin _ _ hcc
  refine ⟨⟨e0.mod, S.kind, rfl, rfl, Nat.le_refl _, fun y z c h1 h2 => ((cells y c h1).1).trans ((cells z c h2).1).symm, fun y hy => ?_, fun y c hf h => ?_, fun _ => hd, Around.frames_deeper e0.frames, .inr ⟨rfl, rfl⟩, fun b z => absurd z (noA b), e0.bs, e0.bsz, fun b _ _ => noA b, fun b z => absurd z (noA b), e0.funs, e0.frf⟩,
    rfl, e0.bare, Un.kept hk, ⟨_, hns, fun i y v h1 h2 h3 => ?_⟩, fun y c h => ?_, e0.hok.fresh (Nat.le_refl _), fun y c h => ?_, fun p hp => absurd (show p ∈ ([] : List (Addr × Obj)) from hp) (by simp), e0.hok.kept hk, ?_⟩
  · have hy : scope.names.lookup y = some .cell ∨ scope.names.lookup y = some .free := hy
    rcases hy with hy | hy
    · exact absurd rfl (S.cell _ (PySem.mem_of_lookup hy))
    · have e := S.free _ (PySem.mem_of_lookup hy) rfl
      refine ⟨cc, ?_⟩
      show List.lookup y [(("__class__" : Str), cc)] = some cc
      rw [show y = "__class__" from e]
      rfl
  · obtain ⟨e, _⟩ := cells y c h
    have hf : (!(y == ("__class__" : Str))) = true := hf
    rw [e] at hf
    exact absurd hf (by decide)
  · have hi : i < vs.length := by
      have := (List.getElem?_eq_some_iff.mp h1).1
      have e : (cxS P w K mg base ps qual scope f fc cc A outer s H).N = ps := rfl
      rw [e] at this
      omega
    have h1 : ps[i]? = some y := h1
    have ha : vs[i]? = some v := by
      unfold L2.start at h2
      rw [List.getElem?_append_left (by simpa using hi), List.getElem?_map] at h2
      cases e : vs[i]? with
      | none => rw [e] at h2; cases h2
      | some a => rw [e] at h2; cases h2; rfl
    obtain ⟨u, hu, rv⟩ := r.get ha
    exact ⟨u, rv, .inl ⟨S.par y (List.mem_of_getElem? h1), zip_rev_lookup S.nd h1 hu⟩⟩
  · obtain ⟨_, rfl⟩ := cells y c h
    exact ⟨v0, _, hk _ _ (e0.bs _ _ bcc).1, rfl⟩
  · obtain ⟨_, rfl⟩ := cells y c h
    exact (e0.bs _ _ bcc).2
  · unfold L2.start
    show _ = ps.length
    rw [List.length_append, List.length_map, List.length_replicate]
    omega
/-- THE RULE: a def whose body returns such an expression -/
theorem fn_sup {pos : Pos} {e : Expr} {fd : FuncData} (F : SupF K D f name qual params [.Return (some e) pos] scope file fd) (S : SupScope ps scope) (len : ∀ vs H Q E, sp vs H Q E → vs.length = ps.length)
    (hbody : ∀ (cda cc : Addr), SupI K D f name qual params [.Return (some e) pos] scope file fd cda cc → ∀ (A : Around) (outer : List Env) (s : Shared) (H : Hp) (vs : List V) (Q : VK) (E : XK), Room k (A.deeper (PySem.W.ksEnv qual scope s.heap.objs.size f (.ref cda) cc)) → sp vs H Q E →
      ∃ te, PEa (cxS P w K mg base ps qual scope f (.ref cda) cc A outer s H) [.Return (some e) pos] e te ∧ te (L2.start ps vs) H Q) :
    FnOk P w K mg base CX0 (k + 1) f fd ps sp := by
  obtain ⟨cda, cc, hI⟩ := F
  have hI' := hI
  obtain ⟨oc, kV, doc, pm, ct, ccl, cl, od, an, cdd, cld, osl, ccs, csl, vs0, tf, efd, ho, hcd, hcda, hvs, hcc⟩ := hI
  refine ⟨len, fun A outer s H args us vs Q E hr e0 hb r hsp => ?_⟩
  have hl := len _ _ _ _ hsp
  have KX : K.In s.heap := e0.mod.kin.keeps fun b o e => (e0.bs b o e).1
  have lim : s.heap.NoLimit := e0.mod.nolimit.keeps fun b o e => (e0.bs b o e).1
  subst efd
  refine ks_codeAny_call_defAt (fd := PySem.W.ksFn name qual params [.Return (some e) pos] scope .none kV doc pm an (.ref cda) ct cc) (body := [.Return (some e) pos]) (binds := ps.zip us) hr.depth (KX _ _ ho) rfl lim (PySem.W.codeRec_of KX hcd) rfl hb S.cell (fun y hy => S.par y.1 (List.of_mem_zip hy).1)
    (fun h₁ hns hk => ?_) S.co S.gen S.kind
  have I := inv_sup (tk := s.toks + (ps.zip us).length) (f := f) (qual := qual) (fc := .ref cda) S hr.hd e0 hl r hcc hns hk
  obtain ⟨te, ht, hq⟩ := hbody cda cc hI' A outer s H vs Q E (hr.deeper _) hsp
  refine ks_wpAt_execs_cons (ks_wpAt_Return_some (PySem.wpAt_mono (ht.run [] _ _ H Q I hq) (fun v s' h => ?_) fun _ _ z => z.elim))
  obtain ⟨y, H', J, rv, q⟩ := h
  exact ⟨y, H', J.os, J.bare, J.base, J.hok, rv, q⟩
/-- super().m(e, ..) -/
theorem pea_sup {m : Str} {ar : Arg} {fd : FuncData} {fbody : List Stmt} {H0 : Hp} {s0 : Shared} {E : XK} {e : Expr} {es : List Expr} {t : TA} {p0 p1 p2 p3 : Pos} {pl : Sem Bool} (hI : SupI K D f name qual params fbody scope file fd cda cc) (S : SupScope ps scope) (hp : (params.posonlyargs ++ params.args).head? = some ar) (har : ar.arg = ("self" : Str))
    (N : Sup K C D m g) (G : FnOk P w K mg base CX0 k g fd2 ps2 sp) (hb : Binds K fd2 ps2 []) (hr : Room k (cxS P w K mg base ps qual scope f (.ref cda) cc A outer s0 H0).A) (pf : PySem.XExc.PF P file) (hms : mg "super" = none) (hm : (m == ("__class__" : Str)) = false)
    (ha : PA (cxS P w K mg base ps qual scope f (.ref cda) cc A outer s0 H0) (e :: es) t)
    (hev : eval (.Call (.Attribute (.Call (.Name "super" p0) [] [] p1) m p2) (e :: es) [] p3) (cxS P w K mg base ps qual scope f (.ref cda) cc A outer s0 H0).env = (do
      let ov ← attributeBase (.Call (.Name "super" p0) [] [] p1) m (cxS P w K mg base ps qual scope f (.ref cda) cc A outer s0 H0).env (eval (.Call (.Name "super" p0) [] [] p1) (cxS P w K mg base ps qual scope f (.ref cda) cc A outer s0 H0).env)
      standAt p2.atName
      let (f', first) ← holding [ov] (getMethod ov m pl)
      callWith p3 f' first (backTo p3 (starEach (e :: es) (cxS P w K mg base ps qual scope f (.ref cda) cc A outer s0 H0).env)) []) := by rfl)
    (hst : starEach (e :: es) (cxS P w K mg base ps qual scope f (.ref cda) cc A outer s0 H0).env = (false, eval e (cxS P w K mg base ps qual scope f (.ref cda) cc A outer s0 H0).env) :: starEach es (cxS P w K mg base ps qual scope f (.ref cda) cc A outer s0 H0).env := by rfl)
    (hpl : (backTo p3 (starEach es (cxS P w K mg base ps qual scope f (.ref cda) cc A outer s0 H0).env)).any (·.1) = false := by rfl) :
    PEa (cxS P w K mg base ps qual scope f (.ref cda) cc A outer s0 H0) fbody (.Call (.Attribute (.Call (.Name "super" p0) [] [] p1) m p2) (e :: es) [] p3)
      (fun σ H Q => ∃ x dx fs, σ[0]? = some (some (V.ref x)) ∧ H x = some (.ins C dx fs) ∧ t σ H fun vs H2 => sp (.ref x :: vs) H2 Q E) := by
  obtain ⟨oc, kV, doc, pm, ct, ccl, cl, od, an, cdd, cld, osl, ccs, csl, vs0, tf, efd, ho, hcd, hcda, hvs, hcc⟩ := hI
  subst efd
  refine ⟨fun pins s σ H Q I h => ?_⟩
  obtain ⟨x, dx, fs, hσ, hx, h⟩ := h
  have kin : K.In s.heap := I.kIn
  obtain ⟨mA, J1, _⟩ := ins_get I.hok hx
  obtain ⟨od1, J1, _⟩ := J1.look
  obtain ⟨mb, hB, hbb⟩ := I.mod.blt
  have hG := I.mod.glob.keeps I.bk
  have hB := hB.keeps I.bk
  obtain ⟨m0, hns, hloc⟩ := I.loc
  have hN0 : (cxS P w K mg base ps qual scope f (.ref cda) cc A outer s0 H0).N[0]? = some ("self" : Str) := by
    show ps[0]? = some ("self" : Str)
    rw [← List.head?_eq_getElem?]
    exact S.one
  have hself : m0 ("self" : Str) = some (.ref x) := by
    obtain ⟨u, ru, lk⟩ := hloc 0 ("self" : Str) (.ref x) hN0 hσ (.inl (S.par _ (List.mem_of_getElem? hN0)))
    cases ru
    rcases lk with ⟨_, e⟩ | ⟨e, _⟩
    · exact e
    · have z : scope.names.lookup ("self" : Str) = some .local := S.par _ (List.mem_of_getElem? hN0)
      have e : scope.names.lookup ("self" : Str) = some .cell ∨ scope.names.lookup ("self" : Str) = some .free := e
      rw [z] at e
      rcases e with e | e <;> exact nomatch e
  obtain ⟨oD, cdD, hD1, hD2⟩ : ∃ oD cdD, s.heap.get? D = some oD ∧ oD.data = .cls cdD := by
    have z := N.clsD
    unfold PySem.W.isClsIn PySem.W.clsIn at z
    split at z
    · rename_i c d cd' sl hoD
      exact ⟨_, cd', kin _ _ hoD, rfl⟩
    · exact nomatch z
  cases hcC : PySem.W.clsIn K C with
  | none => have z := N.sup; unfold PySem.W.ks_superIn at z; rw [hcC] at z; cases z
  | some cdC =>
    have hm2 := N.sup
    unfold PySem.W.ks_superIn at hm2
    rw [hcC] at hm2
    obtain ⟨og, hog, hogc⟩ : ∃ og, s.heap.get? g = some og ∧ og.cls = .type "function" := by
      have ht' : (K.lookup g).map (·.cls) = some (.type "function") := N.ty
      cases z : K.lookup g with
      | none => rw [z] at ht'; cases ht'
      | some og => rw [z] at ht'; exact ⟨og, kin _ _ z, Option.some.inj ht'⟩
    refine ks_wpAt_MethodCall (o := .Call (.Name "super" p0) [] [] p1) (name := m) (he := hev) ?_
    refine ks_wpAt_super_base (env := (cxS P w K mg base ps qual scope f (.ref cda) cc A outer s0 H0).env) S.sup S.cls hm rfl (kin _ _ ho) rfl hp rfl (kin _ _ hcda) rfl hvs pf.1 pf.2 ?_
    refine PySem.W.ks_loadName_global S.kind S.sup (Calls.loadGlobal_builtin hG hms hB ((hbb _ (by decide +kernel)).trans (by first | boot_by_name | rfl | kernel_rfl)) ⟨rfl, ?_⟩)
    refine wpAny_loadName_free S.kind S.cls rfl ⟨_, kin _ _ hcc, rfl⟩ ?_
    rw [har]
    refine wpAny_loadName_local S.kind (S.par _ (List.mem_of_getElem? hN0)) hns hself ?_
    refine ks_wpAny_isType_cls hD1 hD2 ⟨rfl, ?_⟩
    refine ks_wpAny_call_super hD1 hD2 J1.at_ J1.cls (fun c e => ?_) (PySem.W.looks_mroIn kin N.mro) (fun h' hso k1 => ?_)
    · have := J1.no
      unfold PySem.W.notCls at this
      rw [e] at this
      exact Bool.noConfusion this
    have I1 := I.kept (t' := s.toks) k1
    have kin1 : K.In h' := I1.kIn
    refine ks_wpAny_getMethod_super hso (PySem.W.looks_opaque kin1 N.opq) (l₀ := cdC.mro) ?_ rfl kin1 hm2 (k1 _ _ hog) hogc (PySem.W.ks_ne kin J1 hcC) hm ?_
    · exact fun A Q E s k q => wpAny_bind ((PySem.W.looks_clsIn kin1 hcC) A _ E s k (wpAny_pure q))
    have hq : (h'.push (PySem.W.methodObj (.ref g) (.ref x))).get? h'.objs.size = some (PySem.W.methodObj (.ref g) (.ref x)) := Heap.get?_push_at rfl rfl
    have k2 : ∀ b o, h'.get? b = some o → (h'.push (PySem.W.methodObj (.ref g) (.ref x))).get? b = some o := fun b o e => Heap.get?_push_of_some _ e
    have I2 := I1.kept (t' := s.toks + 1) k2
    have I3 := I2.pinned (fp := [h'.objs.size]) (fun b hb => by
      rw [List.mem_singleton.mp hb]
      exact I1.fpOk (Nat.le_refl _) (I1.hok.fresh (Nat.le_refl _))) (fun b hb => by
      rw [List.mem_singleton.mp hb]
      exact ⟨_, hq, fun v z => nomatch z⟩)
    have hpin : (h'.objs.size, (PySem.W.methodObj (.ref g) (.ref x) : Obj)) ∈ pinsAt [h'.objs.size] (h'.push (PySem.W.methodObj (.ref g) (.ref x))) := mem_pinsAt List.mem_cons_self hq
    suffices hA : wpAny (model P w) (cxS P w K mg base ps qual scope f (.ref cda) cc A outer s0 H0).A (spliced (backTo p3 (starEach (e :: es) (cxS P w K mg base ps qual scope f (.ref cda) cc A outer s0 H0).env)))
        (fun vs s₁ => PySem.W.MethP K h'.objs.size g (.ref x) s₁.heap ∧ wpAny (model P w) (cxS P w K mg base ps qual scope f (.ref cda) cc A outer s0 H0).A (call (.ref h'.objs.size) ([] ++ vs)) (EP (cxS P w K mg base ps qual scope f (.ref cda) cc A outer s0 H0) pins σ Q) (fun _ _ => False) s₁) (fun _ _ => False)
        { s with heap := h'.push (PySem.W.methodObj (.ref g) (.ref x)), toks := s.toks + 1 } by
      rw [hst] at hA ⊢
      exact PySem.W.callWith_of (P := PySem.W.MethP K h'.objs.size g (.ref x)) (by show ((false || (backTo p3 (starEach es _)).any (·.1)) || false) = false; rw [hpl]; rfl) (PySem.W.keeps_M N.fn) (PySem.Calls.evalArgs_plain hA)
    refine thn (ha.run p3 _ _ σ H _ I3 h) fun us s3 ⟨vs, H2, I4, r, q⟩ => ?_
    have hq3 : s3.heap.get? h'.objs.size = some (PySem.W.methodObj (.ref g) (.ref x)) := (I4.pin _ (List.mem_append_right _ (List.mem_append_right _ hpin))).1
    refine ⟨⟨hq3, I4.kIn⟩, ?_⟩
    show wpAny _ _ (call (.ref h'.objs.size) us) _ _ _
    have r2 : Vals (V.ref x :: vs) (Value.ref x :: us) := .cons rfl r
    have hl : (Value.ref x :: us).length = ps2.length := by rw [← r2.length]; exact G.len _ _ _ _ q
    have b := hb s3 (Value.ref x :: us) I4.kIn (by rw [List.append_nil]; exact hl)
    rw [List.append_nil] at b
    refine wpAny_call (ks_codeAny_call_bound hq3 (codeAny_mono (G.run _ (cxS P w K mg base ps qual scope f (.ref cda) cc A outer s0 H0).stack s3 H2 ⟨Value.ref x :: us, []⟩ (Value.ref x :: us) (V.ref x :: vs) Q E hr I4.env0 b r2 q) fun r s' hq' => ?_))
    cases r with
    | error e => exact hq'.elim
    | ok fl =>
      cases fl with
      | ret u =>
        obtain ⟨y, H', J, rv, q'⟩ := I4.after hq'
        exact ⟨y, H', J.unpinned, rv, q'⟩
      | next => exact False.elim hq'
      | brk => exact False.elim hq'
      | cont => exact False.elim hq'
end
theorem sup_binds {K : PySem.W.Frag} {fd : FuncData} {ps : List Str} (h : ∀ us : List Value, us.length = ps.length → bindArgs fd ⟨us, []⟩ = pure (ps.zip us)) : Binds K fd ps [] := fun s us _ hl => by
  rw [List.append_nil] at hl ⊢
  exact .of_eq (h us hl)
theorem le_self {K : PySem.W.Frag} {C : Addr} : LeOk K C C := .inl (by unfold PySem.W.notFirst; rw [beq_self_eq_true, Bool.true_or])
theorem le_no {K : PySem.W.Frag} {C C' : Addr} (h : PySem.W.subIn K (.ref C') (.ref C) = some false) : LeOk K C C' := .inl (by unfold PySem.W.notFirst; rw [h]; simp)
theorem le_below {K : PySem.W.Frag} {C C' : Addr} (hn : (Value.ref C == Value.ref C') = false) (h1 : PySem.W.subIn K (.ref C') (.ref C) = some true) (h2 : PySem.W.findIn K (.ref C') "__ge__" = some (some (.builtin "object.__ge__"))) (h3 : PySem.W.mroIn K C' (.type "object") = some true) : LeOk K C C' :=
  .inr ⟨fun e => by rw [e, beq_self_eq_true] at hn; exact absurd hn (by decide), h1, h2, h3⟩
end XL
set_option Elab.async false
set_option linter.all false
set_option maxRecDepth 100000
set_option maxHeartbeats 4000000
/-! XKeyD: dicts whose keys are nested tuples of ints, truths and texts. -/
namespace XL
open PySem PySem.Spec PySem.SeqAt PyProof.Rows L2
/-! ### keys as data -/
noncomputable instance decPD : DecidableEq PyData := fun _ _ => Classical.propDecidable _
mutual
def keyD : PyData → Bool
  | .bool _ => true
  | .int _ => true
  | .str x => PyData.canLay0 (.str x)
  | .tuple xs => keyDs xs
  | _ => false
def keyDs : List PyData → Bool
  | [] => true
  | d :: ds => keyD d && keyDs ds
end
mutual
/-- what Python compares: True is 1 -/
def nrm : PyData → PyData
  | .bool b => .int (if b then 1 else 0)
  | .tuple xs => .tuple (nrms xs)
  | d => d
def nrms : List PyData → List PyData
  | [] => []
  | d :: ds => nrm d :: nrms ds
end
mutual
def hashD (w : World) : PyData → Int
  | .int i => hashInt i
  | .str x => hashStr w x
  | .tuple xs => reduceHash (Builtin.Tuple.tupleHashOf (hashDs w xs))
  | _ => 0
def hashDs (w : World) : List PyData → List Int
  | [] => []
  | d :: ds => hashD w d :: hashDs w ds
end
mutual
def drawD : PyData → Nat
  | .tuple xs => drawDs xs + 1
  | _ => 1
def drawDs : List PyData → Nat
  | [] => 0
  | d :: ds => drawD d + drawDs ds
end
mutual
theorem keyD_lay : ∀ d : PyData, keyD d = true → d.canLay0 = true
  | .bool _, _ => rfl
  | .int _, _ => rfl
  | .str _, h => h
  | .tuple xs, h => by
    simp only [PyData.canLay0]
    exact keyDs_lay xs h
  | .none, h => nomatch h
  | .list _, h => nomatch h
  | .dict _, h => nomatch h
theorem keyDs_lay : ∀ ds : List PyData, keyDs ds = true → PyData.canLayAll0 ds = true
  | [], _ => rfl
  | d :: ds, h => by
    have h2 : (keyD d && keyDs ds) = true := h
    rw [Bool.and_eq_true] at h2
    simp only [PyData.canLayAll0, Bool.and_eq_true]
    exact ⟨keyD_lay d h2.1, keyDs_lay ds h2.2⟩
end
theorem beq_dec {α : Type} [BEq α] [LawfulBEq α] (a b : α) [Decidable (a = b)] : (a == b) = decide (a = b) := by
  by_cases h : a = b
  · rw [decide_eq_true h, beq_iff_eq.mpr h]
  · rw [decide_eq_false h]
    exact beq_eq_false_iff_ne.mpr h
mutual
theorem eqv_nrm : ∀ d e : PyData, keyD d = true → keyD e = true → PyData.eqv d e = decide (nrm d = nrm e)
  | .bool a, e, _, he => by
    cases e with
    | bool b => cases a <;> cases b <;> simp [PyData.eqv, nrm]
    | int i => cases a <;> simp [PyData.eqv, nrm, beq_dec, eq_comm]
    | str _ => simp [PyData.eqv, nrm]
    | tuple _ => simp [PyData.eqv, nrm]
    | _ => exact nomatch he
  | .int a, e, _, he => by
    cases e with
    | bool b => cases b <;> simp [PyData.eqv, nrm, beq_dec]
    | int i => simp [PyData.eqv, nrm, beq_dec]
    | str _ => simp [PyData.eqv, nrm]
    | tuple _ => simp [PyData.eqv, nrm]
    | _ => exact nomatch he
  | .str a, e, _, he => by
    cases e with
    | bool b => simp [PyData.eqv, nrm]
    | int i => simp [PyData.eqv, nrm]
    | str _ => simp [PyData.eqv, nrm, beq_dec]
    | tuple _ => simp [PyData.eqv, nrm]
    | _ => exact nomatch he
  | .tuple xs, e, hd, he => by
    cases e with
    | bool b => simp [PyData.eqv, nrm]
    | int i => simp [PyData.eqv, nrm]
    | str _ => simp [PyData.eqv, nrm]
    | tuple ys =>
      have := eqvs_nrm xs ys hd he
      simp only [PyData.eqv, nrm, PyData.tuple.injEq]
      exact this
    | _ => exact nomatch he
  | .none, _, h, _ => nomatch h
  | .list _, _, h, _ => nomatch h
  | .dict _, _, h, _ => nomatch h
theorem eqvs_nrm : ∀ ds es : List PyData, keyDs ds = true → keyDs es = true → PyData.eqvAll ds es = decide (nrms ds = nrms es)
  | [], [], _, _ => by simp [PyData.eqvAll, nrms]
  | [], _ :: _, _, _ => by simp [PyData.eqvAll, nrms]
  | _ :: _, [], _, _ => by simp [PyData.eqvAll, nrms]
  | d :: ds, e :: es, h, k => by
    have h2 : (keyD d && keyDs ds) = true := h
    have k2 : (keyD e && keyDs es) = true := k
    rw [Bool.and_eq_true] at h2 k2
    simp only [PyData.eqvAll, nrms, List.cons.injEq]
    rw [eqv_nrm d e h2.1 k2.1, eqvs_nrm ds es h2.2 k2.2, Bool.decide_and]
end
/-! ### its hash -/
theorem hashDs_app (w : World) : ∀ a b : List PyData, hashDs w (a ++ b) = hashDs w a ++ hashDs w b
  | [], _ => rfl
  | d :: ds, b => by
    show hashD w d :: hashDs w (ds ++ b) = hashD w d :: (hashDs w ds ++ hashDs w b)
    rw [hashDs_app w ds b]
theorem drawDs_app : ∀ a b : List PyData, drawDs (a ++ b) = drawDs a + drawDs b
  | [], b => by show drawDs b = 0 + drawDs b; omega
  | d :: ds, b => by
    show drawD d + drawDs (ds ++ b) = drawD d + drawDs ds + drawDs b
    rw [drawDs_app ds b]
    omega
theorem nrms_app : ∀ a b : List PyData, nrms (a ++ b) = nrms a ++ nrms b
  | [], _ => rfl
  | d :: ds, b => by
    show nrm d :: nrms (ds ++ b) = nrm d :: (nrms ds ++ nrms b)
    rw [nrms_app ds b]
theorem keyDs_all : ∀ {ds : List PyData}, keyDs ds = true → ∀ d ∈ ds, keyD d = true
  | d :: ds, h, e, he => by
    have h2 : (keyD d && keyDs ds) = true := h
    rw [Bool.and_eq_true] at h2
    rcases List.mem_cons.mp he with rfl | he
    · exact h2.1
    · exact keyDs_all h2.2 e he
section
variable {prog : Program} {w : World}
theorem hash_bool {A : Around} {E : Value → Shared → Prop} {s : Shared} {b : Bool} {Q : Int → Shared → Prop} (h : Q (hashInt (if b then 1 else 0)) { s with toks := s.toks + 1 }) : wpAny (model prog w) A (pyHash (.bool b)) Q E s := by
  have hr := rawHash_range (if b then 1 else 0)
  unfold pyHash
  have hv : [Value.bool b].any Value.onHeap = false := rfl
  refine wpAny_bind ?_
  rw [cRoomFor, if_neg (by rw [hv]; exact Bool.false_ne_true)]
  refine wpAny_pure ?_
  refine wpAny_bind (wpAny_specialOf (PySem.typeIs_bool s b) F.slot_bool_hash.lookup ?_)
  show wpAny _ _ (if (some (Value.builtin "int.__hash__") == some Value.none) = true then _ else _) Q E s
  rw [if_neg (by rw [beq_builtin_none]; exact Bool.false_ne_true)]
  refine wpAny_bind (wpAny_specialOf (PySem.typeIs_bool s b) F.slot_bool_hash.lookup ?_)
  show wpAny _ _ (callSpecialIfBoundUnlessNone? (.bool b) "__hash__" _ >>= _) Q E s
  refine wpAny_bind (wpAny_callSpecialIfBoundUnlessNone?_slot (PySem.typeIs_bool s b) F.slot_bool_hash
    (wpAny_call_entry F.slot_bool_hash (PySem.typeIs_bool s b) entry_int_hash
      (show wpAny _ _ (do ret (← mkInt (rawHash (if b then 1 else 0)))) _ _ s from wpAny_ret_mkInt ?_) (args_int_hash _)))
  show wpAny _ _ (if (decide (-(2 : Int) ^ 63 ≤ rawHash (if b then 1 else 0)) && decide (rawHash (if b then 1 else 0) < 2 ^ 63)) = true then _ else _) Q E _
  rw [if_pos (by rw [decide_eq_true hr.1, decide_eq_true hr.2]; rfl)]
  exact wpAny_pure h
def HashAt (prog : Program) (w : World) (d : PyData) : Prop := ∀ (A : Around) (E : Value → Shared → Prop) (s : Shared) (v : Value) (as : List Addr) (Q : Int → Shared → Prop), keyD d = true → Reads s.heap v d as → A.units + d.depth < cLine →
  Q (hashD w (nrm d)) { s with toks := s.toks + drawD (nrm d) } → wpAny (model prog w) A (pyHash v) Q E s
theorem depth_in {d : PyData} : ∀ {ds : List PyData}, d ∈ ds → d.depth ≤ PyData.depthAll ds
  | e :: ds, h => by
    simp only [PyData.depthAll]
    rcases List.mem_cons.mp h with rfl | h
    · exact Nat.le_max_left _ _
    · exact Nat.le_trans (depth_in h) (Nat.le_max_right _ _)
theorem hash_tup {xs : List PyData} (ih : ∀ d ∈ xs, HashAt prog w d) : HashAt prog w (.tuple xs) := by
  intro A E s v as Q hk r hu h
  have hk : keyDs xs = true := hk
  have hdp : (PyData.tuple xs).depth = PyData.depthAll xs + 1 := by simp only [PyData.depth]
  cases r with
  | @tuple a o items n _ as ho hc hd hi =>
    have hT : s.TypeIs (.ref a) "tuple" := ⟨o, ho, hc⟩
    have hu0 : A.units < cLine := by omega
    unfold pyHash
    first | unfold pyHashByItsType | skip
    first | refine wpAny_bind (wpAny_cRoomFor_or (.inr hu0) ?_) | skip
    refine wpAny_bind (wpAny_specialOf hT F.slot_tuple_hash.lookup ?_)
    show wpAny _ _ (if (some (Value.builtin "tuple.__hash__") == some Value.none) = true then _ else _) Q E s
    rw [if_neg (by rw [beq_builtin_none]; exact Bool.false_ne_true)]
    refine wpAny_bind (wpAny_specialOf hT F.slot_tuple_hash.lookup ?_)
    show wpAny _ _ (callSpecialIfBoundUnlessNone? (.ref a) "__hash__" _ >>= _) Q E s
    refine wpAny_bind (wpAny_callSpecialIfBoundUnlessNone?_slot hT F.slot_tuple_hash (wpAny_call_entry F.slot_tuple_hash hT F.entry_tuple_hash ?_ (F.args_tuple_hash_1 _)))
    show wpAny _ _ (Builtin.Tuple.tupleItemsOf (.ref a) >>= _) _ _ s
    refine wpAny_bind (wpAny_tupleItemsOf ho hd ?_)
    refine wpAny_bind ?_
    rw [← Array.forIn_toList]
    refine wpAny_forIn_list _
      (fun rest (b : Array Int) s' => ∃ done left bs, xs = done ++ left ∧ ReadsAll s.heap rest left bs ∧ b.toList = hashDs w (nrms done) ∧ s' = { s with toks := s.toks + drawDs (nrms done) })
      _ ?_ ?_ _ _ ⟨[], xs, as, rfl, hi, rfl, rfl⟩
    · rintro x rest b s' ⟨done, left, bs, e, hl, hb, rfl⟩
      cases hl with
      | @cons _ _ d ds _ _ h1 hl' =>
        have hm : d ∈ xs := by rw [e]; simp
        refine wpAny_bind (ih d hm A.in1 _ _ x _ _ (keyDs_all hk d hm) h1 (by have := depth_in hm; have : A.in1.units = A.units + 1 := rfl; omega) ?_)
        have fin : ∃ done' left' bs', xs = done' ++ left' ∧ ReadsAll s.heap rest left' bs' ∧ (b.push (hashD w (nrm d))).toList = hashDs w (nrms done') ∧ ({ s with toks := s.toks + drawDs (nrms done) + drawD (nrm d) } : Shared) = { s with toks := s.toks + drawDs (nrms done') } := by
          refine ⟨done ++ [d], ds, _, by rw [e]; simp, hl', ?_, ?_⟩
          · rw [nrms_app, hashDs_app, Array.toList_push, hb]
            rfl
          · rw [nrms_app, drawDs_app]
            show ({ s with toks := _ } : Shared) = { s with toks := s.toks + (drawDs (nrms done) + (drawD (nrm d) + 0)) }
            rw [Nat.add_zero, Nat.add_assoc]
        first
          | exact wpAny_pure fin
          | exact wpAny_bind (wpAny_pure (wpAny_pure fin))
    · rintro b s' ⟨done, left, bs, e, hl, hb, rfl⟩
      cases hl
      rw [List.append_nil] at e
      subst e
      have h : Q (reduceHash (Builtin.Tuple.tupleHashOf (hashDs w (nrms xs)))) { s with toks := s.toks + (drawDs (nrms xs) + 1) } := h
      show wpAny _ _ (retInt (Builtin.Tuple.tupleHashOf b.toList)) _ _ _
      rw [hb]
      refine wpAny_ret_mkInt ?_
      show wpAny _ _ (if (decide (-(2 : Int) ^ 63 ≤ Builtin.Tuple.tupleHashOf (hashDs w (nrms xs))) && decide (Builtin.Tuple.tupleHashOf (hashDs w (nrms xs)) < 2 ^ 63)) = true then _ else _) Q E _
      unfold reduceHash at h
      by_cases hr : (decide (-(2 : Int) ^ 63 ≤ Builtin.Tuple.tupleHashOf (hashDs w (nrms xs))) && decide (Builtin.Tuple.tupleHashOf (hashDs w (nrms xs)) < 2 ^ 63)) = true
      · rw [if_pos hr]
        rw [if_pos hr] at h
        exact wpAny_pure (by simpa [Nat.add_assoc] using h)
      · rw [if_neg hr]
        rw [if_neg hr] at h
        exact wpAny_bind (wpAny_rule (wpAny_pure (by simpa [Nat.add_assoc] using h)))
mutual
theorem hash_reads : ∀ d : PyData, HashAt prog w d
  | .bool b => fun A E s v as Q _ r _ h => by
    cases r
    exact hash_bool h
  | .int i => fun A E s v as Q _ r _ h => by
    cases r
    exact wpAny_pyHash_int h
  | .str x => fun A E s v as Q _ r _ h => by
    cases r
    exact wpAny_pyHash_str h
  | .tuple xs => hash_tup (hash_all xs)
  | .none => fun _ _ _ _ _ _ h => nomatch h
  | .list _ => fun _ _ _ _ _ _ h => nomatch h
  | .dict _ => fun _ _ _ _ _ _ h => nomatch h
theorem hash_all : ∀ ds : List PyData, ∀ d ∈ ds, HashAt prog w d
  | [], _, h => nomatch h
  | e :: ds, d, h => by
    by_cases e2 : d = e
    · rw [e2]
      exact hash_reads e
    · exact hash_all ds d ((List.mem_cons.mp h).resolve_left e2)
end
/-! ### its equality is quiet -/
def QuietAt (prog : Program) (w : World) (d : PyData) : Prop := ∀ (n : Nat) (A : Around) (E : Value → Shared → Prop) (s : Shared) (v : Value) (as : List Addr) (Q : Bool → Shared → Prop), keyD d = true → Reads s.heap v d as → d.depth ≤ n →
  Q true s → wpAny (model prog w) A (eqIsQuiet n v) Q E s
theorem quiet_tup {xs : List PyData} (ih : ∀ d ∈ xs, QuietAt prog w d) : QuietAt prog w (.tuple xs) := by
  intro n A E s v as Q hk r hu h
  have hk : keyDs xs = true := hk
  have hdp : (PyData.tuple xs).depth = PyData.depthAll xs + 1 := by simp only [PyData.depth]
  obtain ⟨n, rfl⟩ : ∃ m, n = m + 1 := ⟨n - 1, by omega⟩
  cases r with
  | @tuple a o items m _ as ho hc hd hi =>
    have hT : s.TypeIs (.ref a) "tuple" := ⟨o, ho, hc⟩
    unfold eqIsQuiet
    refine wpAny_bind (wpAny_specialOf hT F.slot_tuple_eq.lookup ?_)
    show wpAny _ _ (isInstance (.ref a) (.type "tuple") >>= _) _ _ s
    refine wpAny_bind (wpAny_isInstance hT isSubtype_tuple_tuple ?_)
    simp only [Bool.not_true, Bool.false_eq_true, if_false]
    refine wpAny_bind (wpAny_seqItems ho hd ?_)
    refine wpAny_bind ?_
    show wpAny _ _ (forIn items _ _) _ _ s
    rw [← Array.forIn_toList]
    refine wpAny_forIn_list _ (fun rest r s' => r.1 = none ∧ s' = s ∧ ∃ left bs, (∀ d ∈ left, d ∈ xs) ∧ ReadsAll s.heap rest left bs) _ ?_ ?_ _ _ ⟨rfl, rfl, xs, as, fun _ h => h, hi⟩
    · rintro v rest r s' ⟨hr, rfl, left, bs, hin, hl⟩
      cases hl with
      | @cons _ _ d ds _ _ h1 hl' =>
        have hm := hin d List.mem_cons_self
        refine wpAny_bind (ih d hm n A _ _ v _ _ (keyDs_all hk d hm) h1 (by have := depth_in hm; omega) ?_)
        simp only [Bool.not_true, Bool.false_eq_true, if_false]
        exact wpAny_pure ⟨rfl, rfl, ds, _, fun e he => hin e (List.mem_cons_of_mem _ he), hl'⟩
    · rintro ⟨r1, r2⟩ s' ⟨hr, rfl, _⟩
      simp only at hr
      subst hr
      exact wpAny_pure h
mutual
theorem quiet_reads : ∀ d : PyData, QuietAt prog w d
  | .bool b => fun n A E s v as Q _ r _ h => by
    cases r
    rw [eqIsQuiet_byValue _ rfl]
    exact wpAny_pure h
  | .int i => fun n A E s v as Q _ r _ h => by
    cases r
    rw [eqIsQuiet_byValue _ rfl]
    exact wpAny_pure h
  | .str x => fun n A E s v as Q _ r _ h => by
    cases r
    rw [eqIsQuiet_byValue _ rfl]
    exact wpAny_pure h
  | .tuple xs => quiet_tup (quiet_all xs)
  | .none => fun _ _ _ _ _ _ _ h => nomatch h
  | .list _ => fun _ _ _ _ _ _ _ h => nomatch h
  | .dict _ => fun _ _ _ _ _ _ _ h => nomatch h
theorem quiet_all : ∀ ds : List PyData, ∀ d ∈ ds, QuietAt prog w d
  | [], _, h => nomatch h
  | e :: ds, d, h => by
    by_cases e2 : d = e
    · rw [e2]
      exact quiet_reads e
    · exact quiet_all ds d ((List.mem_cons.mp h).resolve_left e2)
end
/-! ### the kind -/
mutual
theorem reads_same {h h' : Heap} {d : Addr} {o : Obj} {es ep} (ho : h.get? d = some o) (hd : o.data = .dict es ep) (hs : Heap.SameBut d h h') : ∀ (x : PyData) (v : Value) (as : List Addr), keyD x = true → Reads h v x as → Reads h' v x as
  | .bool b, _, _, _, r => by cases r; exact .bool b
  | .int i, _, _, _, r => by cases r; exact .int i _
  | .str x, _, _, _, r => by cases r; exact .str x _
  | .tuple xs, _, _, hk, r => by
    cases r with
    | @tuple a o' items m _ as h1 h2 h3 h4 =>
      have hne : a ≠ d := by
        rintro rfl
        obtain rfl : o' = o := Option.some.inj (h1.symm.trans ho)
        rw [hd] at h3
        exact nomatch h3
      exact .tuple ((hs.2 a hne).trans h1) h2 h3 (readsAll_same ho hd hs xs _ _ hk h4)
  | .none, _, _, h, _ => nomatch h
  | .list _, _, _, h, _ => nomatch h
  | .dict _, _, _, h, _ => nomatch h
theorem readsAll_same {h h' : Heap} {d : Addr} {o : Obj} {es ep} (ho : h.get? d = some o) (hd : o.data = .dict es ep) (hs : Heap.SameBut d h h') : ∀ (xs : List PyData) (vs : List Value) (as : List Addr), keyDs xs = true → ReadsAll h vs xs as → ReadsAll h' vs xs as
  | [], _, _, _, r => by cases r; exact .nil
  | x :: xs, _, _, hk, r => by
    have h2 : (keyD x && keyDs xs) = true := hk
    rw [Bool.and_eq_true] at h2
    cases r with
    | cons r1 r2 => exact .cons (reads_same ho hd hs x _ _ h2.1 r1) (readsAll_same ho hd hs xs _ _ h2.2 r2)
end
def dataKind (prog : Program) (w : World) : HeapKind prog w PyData where
  is := fun h k a => ∃ d as, Reads h (.ref a) d as ∧ keyD d = true ∧ d.depth ≤ 8 ∧ nrm d = k
  hash := hashD w
  draws := drawD
  room := fun A => A.units + 8 < cLine
  inj := fun ⟨d, as, h1, h2, _, h3⟩ ⟨e, bs, k1, _, _, k3⟩ => by
    have := Reads.unique d e _ _ _ (keyD_lay d h2) h1 k1
    rw [← h3, ← k3, this]
  keeps := fun ⟨d, as, h1, h2, h3, h4⟩ ho hd hs => ⟨d, as, reads_same ho hd hs d _ _ h2 h1, h2, h3, h4⟩
  pyHash := fun hu ⟨d, as, h1, h2, h3, h4⟩ h => by
    subst h4
    exact hash_reads d _ _ _ _ _ _ h2 h1 (by omega) h
  eqBool := fun {A E s x y a b Q} hu ⟨d, as, h1, h2, h3, h4⟩ ⟨e, bs, k1, k2, k3, k4⟩ h => by
    subst h4
    subst k4
    refine eqAt_reads d e A s _ _ _ _ h1 k1 (keyD_lay d h2) (keyD_lay e k2) (by have := Nat.min_le_left d.depth e.depth; omega) prog w E Q ?_
    rw [eqv_nrm d e h2 k2]
    exact h
  quiet := fun ⟨d, as, h1, h2, h3, _⟩ h => quiet_reads d _ _ _ _ _ _ _ h2 h1 h3 h
end
/-! ### the dict -/
/-- b holds the key k -/
def KeyV (K : PySem.W.Frag) (H : Hp) (b : Addr) (k : PyData) : Prop := ∃ d, Dp K H (.ref b) d ∧ keyD d = true ∧ d.depth ≤ 8 ∧ nrm d = k
theorem KeyV.same {K : PySem.W.Frag} {H H' : Hp} {b : Addr} {k : PyData} (e : Same H H') (h : KeyV K H b k) : KeyV K H' b k := let ⟨d, h1, h2⟩ := h; ⟨d, dp_same e h1, h2⟩
def rowD (w : World) (x : PyData × Addr × Value) : DictEntry := ⟨hashD w x.1, .ref x.2.1, x.2.2⟩
/-- the dict's one object -/
def dO (a : Addr) (es : Array DictEntry) (ep : Nat) : HO := .ext fun h => ∃ o, h.get? a = some o ∧ o.ExactDict ∧ o.data = .dict es ep
abbrev KD (K : PySem.W.Frag) (H : Hp) : List (PyData × V) → List (PyData × Addr × Value) → Prop := Paired fun p q => p.1 = q.1 ∧ KeyV K H q.2.1 p.1 ∧ RelV p.2 q.2.2
/-- the cell o at a is a dict with these rows -/
def DD (K : PySem.W.Frag) (w : World) (H : Hp) (a : Addr) (o : HO) (kvs : List (PyData × V)) : Prop := kvs.length ≤ sizeLine ∧ (a == sysModules) = false ∧ ∃ es ep xs, o = dO a es ep ∧ es.toList = xs.map (rowD w) ∧ (xs.map (·.1)).Nodup ∧ KD K H kvs xs
theorem KD.keeps {K : PySem.W.Frag} {H H' : Hp} {kvs : List (PyData × V)} {xs : List (PyData × Addr × Value)} (e : Same H H') (r : KD K H kvs xs) : KD K H' kvs xs := Paired.mapP r fun _ _ z => ⟨z.1, z.2.1.same e, z.2.2⟩
theorem DD.same {K : PySem.W.Frag} {w : World} {H H' : Hp} {a : Addr} {o : HO} {kvs : List (PyData × V)} (e : Same H H') (h : DD K w H a o kvs) : DD K w H' a o kvs := by
  obtain ⟨h1, h2, es, ep, xs, h3, h4, h5, h6⟩ := h
  exact ⟨h1, h2, es, ep, xs, h3, h4, h5, h6.keeps e⟩
theorem KD.val {K : PySem.W.Frag} {H : Hp} {kvs : List (PyData × V)} {xs : List (PyData × Addr × Value)} (r : KD K H kvs xs) (k : PyData) : RelO (valV kvs k) ((atKey xs k).map (·.2)) := by
  induction r with
  | nil => exact True.intro
  | @cons p q ps qs h t ih =>
    obtain ⟨h1, _, h2⟩ := h
    by_cases e : p.1 = k
    · have e' : q.1 = k := h1.symm.trans e
      have b : atKey (q :: qs) k = some q.2 := by simp [atKey, List.find?_cons, e']
      rw [valV_pos e, b]; exact h2
    · have e' : ¬ q.1 = k := fun z => e (h1.trans z)
      have b : atKey (q :: qs) k = atKey qs k := by simp [atKey, List.find?_cons, e']
      rw [valV_neg e, b]; exact ih
theorem KD.repl {K : PySem.W.Frag} {H : Hp} {kvs : List (PyData × V)} {xs : List (PyData × Addr × Value)} (r : KD K H kvs xs) (k : PyData) {y : V} {u : Value} (ry : RelV y u) :
    KD K H (kvs.map fun kv => if kv.1 = k then (kv.1, y) else kv) (xs.map (putAt k u)) := by
  induction r with
  | nil => exact .nil
  | @cons p q ps qs h t ih =>
    rw [List.map_cons, List.map_cons]
    refine .cons ?_ ih
    obtain ⟨h1, h2, h3⟩ := h
    unfold putAt
    by_cases e : p.1 = k
    · rw [if_pos e, if_pos (h1.symm.trans e)]; exact ⟨h1, h2, ry⟩
    · rw [if_neg e, if_neg (fun z => e (h1.trans z))]; exact ⟨h1, h2, h3⟩
theorem KD.put {K : PySem.W.Frag} {H : Hp} {kvs : List (PyData × V)} {xs : List (PyData × Addr × Value)} (r : KD K H kvs xs) (k : PyData) {b : Addr} {y : V} {u : Value} (hb : KeyV K H b k) (ry : RelV y u) :
    KD K H (putK kvs k y) (storedH xs k b u) := by
  have e : (kvs.any fun kv => decide (kv.1 = k)) = (atKey xs k).isSome := by
    rw [valV_any, (r.val k).isSome_eq, Option.isSome_map]
  unfold putK storedH
  rw [e]
  by_cases q : (atKey xs k).isSome = true
  · rw [if_pos q, if_pos q]; exact r.repl k ry
  · rw [if_neg q, if_neg q]; exact Paired.snoc r ⟨rfl, hb, ry⟩
section
variable {X : Cx} {pins : List (Addr × Obj)} {σ : L2.St} {H : Hp} {s : Shared} {a b : Addr} {o : HO} {k : PyData} {kvs : List (PyData × V)} {A : Around} {E : Value → Shared → Prop}
theorem keyV_is (I : Inv X pins σ H s) (h : KeyV X.K H b k) : (dataKind X.prog X.w).is s.heap k b := by
  obtain ⟨d, hd, h1, h2, h3⟩ := h
  obtain ⟨as, r⟩ := Dp.reads I d (.ref b) (.ref b) hd rfl
  exact ⟨d, as, r, h1, h2, h3⟩
theorem kd_all (I : Inv X pins σ H s) {xs : List (PyData × Addr × Value)} (r : KD X.K H kvs xs) : ∀ x ∈ xs, (dataKind X.prog X.w).is s.heap x.1 x.2.1 := by
  induction r with
  | nil => intro x hx; exact nomatch hx
  | @cons p q ps qs hq t ih =>
    intro x hx
    rcases List.mem_cons.mp hx with e | hx
    · subst e
      rw [← hq.1]
      exact keyV_is I hq.2.1
    · exact ih x hx
theorem dd_of (I : Inv X pins σ H s) (e : H a = some o) (h : DD X.K X.w H a o kvs) : kvs.length ≤ sizeLine ∧ (a == sysModules) = false ∧ ∃ xs, KD X.K H kvs xs ∧ s.heap.DictOfH (dataKind X.prog X.w) a xs := by
  obtain ⟨h1, h2, es, ep, xs, rfl, h4, h5, h6⟩ := h
  obtain ⟨⟨ob, k1, k2, k3⟩, _⟩ := I.hok a _ e
  exact ⟨h1, h2, xs, h6, ob, es, ep, k1, k2, k3, h4, kd_all I h6, h5⟩
theorem dd_getItem {v : V} {Q : Value → Shared → Prop} (hu : A.units + 9 < cLine) (I : Inv X pins σ H s) (e : H a = some o) (h : DD X.K X.w H a o kvs) (hb : KeyV X.K H b k) (l : valV kvs k = some v) (q : ∀ w' s', Inv X pins σ H s' → RelV v w' → Q w' s') :
    wpAny (model X.prog X.w) A (getItem (.ref a) (.ref b)) Q E s := by
  obtain ⟨z, hd, xs, rel, dd⟩ := dd_of I e h
  obtain ⟨w', hw, rw'⟩ := RelO.some_of (v := v) (o := (atKey xs k).map (·.2)) (by rw [← l]; exact rel.val k)
  obtain ⟨p, hp, hp2⟩ := Option.map_eq_some_iff.mp hw
  refine wpAny_getItem_heap (show A.in1.units + 8 < cLine from by have : A.in1.units = A.units + 1 := rfl; omega) (keyV_is I hb) dd hp ?_
  rw [hp2]
  exact q w' _ (I.tok _) rw'
theorem dd_in {Q : Value → Shared → Prop} (hu : A.units + 9 < cLine) (I : Inv X pins σ H s) (e : H a = some o) (h : DD X.K X.w H a o kvs) (hb : KeyV X.K H b k) (q : ∀ s', Inv X pins σ H s' → Q (.bool (valV kvs k).isSome) s') :
    wpAny (model X.prog X.w) A (compareOp .In (.ref b) (.ref a)) Q E s := by
  obtain ⟨z, hd, xs, rel, dd⟩ := dd_of I e h
  refine wpAny_in_heap (show A.in1.units + 8 < cLine from by have : A.in1.units = A.units + 1 := rfl; omega) (keyV_is I hb) hd dd ?_
  have r := (rel.val k).isSome_eq
  rw [Option.isSome_map] at r
  rw [← r]
  exact q _ (I.tok _)
theorem dd_notIn {Q : Value → Shared → Prop} (hu : A.units + 9 < cLine) (I : Inv X pins σ H s) (e : H a = some o) (h : DD X.K X.w H a o kvs) (hb : KeyV X.K H b k) (q : ∀ s', Inv X pins σ H s' → Q (.bool (!(valV kvs k).isSome)) s') :
    wpAny (model X.prog X.w) A (compareOp .NotIn (.ref b) (.ref a)) Q E s := by
  obtain ⟨z, hd, xs, rel, dd⟩ := dd_of I e h
  refine wpAny_notIn_heap (show A.in1.units + 8 < cLine from by have : A.in1.units = A.units + 1 := rfl; omega) (keyV_is I hb) hd dd ?_
  have r := (rel.val k).isSome_eq
  rw [Option.isSome_map] at r
  rw [← r]
  exact q _ (I.tok _)
theorem dd_write {h' : Heap} {t' : Nat} {xs : List (PyData × Addr × Value)} (I : Inv X pins σ H s) (e : H a = some (dO a es0 ep0)) (hs : Heap.SameBut a s.heap h') (dd : h'.DictOfH (dataKind X.prog X.w) a xs) :
    ∃ es ep, Inv X pins σ (upd H a (dO a es ep)) { s with heap := h', toks := t' } ∧ es.toList = xs.map (rowD X.w) ∧ (xs.map (·.1)).Nodup := by
  obtain ⟨q, es, ep, hq, h2, h3, h4, _, h5⟩ := dd
  refine ⟨es, ep, d_write I (by rw [e]; exact True.intro) hs ⟨q, hq⟩ ⟨⟨q, hq, h2, h3⟩, ⟨q, hq⟩, fun h1 h2' ⟨o, k1, k2, k3⟩ kk => ⟨o, kk _ k1, k2, k3⟩⟩, h4, h5⟩
theorem dd_setItem {G : Hp} {v : V} {r : Value} {Q : Unit → Shared → Prop} (hu : A.units + 9 < cLine) (I : Inv X pins σ H s) (e : H a = some o) (g : Same G H) (h : DD X.K X.w G a o kvs) (hb : KeyV X.K G b k) (hl : kvs.length < sizeLine) (rv : RelV v r)
    (q : ∀ o' s', DD X.K X.w G a o' (putK kvs k v) → Inv X pins σ (upd H a o') s' → Q () s') : wpAny (model X.prog X.w) A (setItem (.ref a) (.ref b) r) Q E s := by
  obtain ⟨h1, h2, es, ep, ys, rfl, h4, h5, h6⟩ := h
  obtain ⟨⟨ob, k1, k2, k3⟩, _⟩ := I.hok a _ e
  have rel := h6.keeps g
  have dd : s.heap.DictOfH (dataKind X.prog X.w) a ys := ⟨ob, es, ep, k1, k2, k3, h4, kd_all I rel, h5⟩
  have hz : ys.length ≤ sizeLine := by rw [← Paired.length rel]; exact h1
  refine wpAny_setItem_heap (hsz := hz) (show A.in1.units + 8 < cLine from by have : A.in1.units = A.units + 1 := rfl; omega) (keyV_is I (hb.same g)) dd fun h' dd' hs => ?_
  obtain ⟨es', ep', I', e4, e5⟩ := dd_write I e hs dd'
  exact q _ _ ⟨by have := length_putK kvs k v; omega, h2, es', ep', _, rfl, e4, e5, h6.put k hb rv⟩ I'
/-- a new one -/
theorem dd_new {K : PySem.W.Frag} {w : World} (G : Hp) (h : (a == sysModules) = false) : DD K w G a (dO a #[] 0) [] := ⟨Nat.zero_le _, h, #[], 0, [], rfl, rfl, List.nodup_nil, .nil⟩
end
section
variable {X : Cx} {pos : Pos}
/-- {} -/
theorem pe_dnewD (K : PySem.W.Frag) (w : World) (hw : X.w = w := by rfl) : PE X (.Dict [] [] pos) (fun _ H Q => ∀ p o, H p = none → (∀ G, DD K w G p o []) → Q (.ref p) (upd H p o)) := ⟨fun pins s σ H Q I h => by
  have hs : (s.heap.objs.size == sysModules) = false := beq_eq_false_iff_ne.mpr (Ne.symm (Nat.ne_of_lt I.big))
  refine wpAny_Dict_empty ⟨.ref s.heap.objs.size, _, I.laid (a := s.heap.objs.size) (o := dO s.heap.objs.size #[] 0) (t' := s.toks) (fun _ _ q => Heap.get?_push_of_some _ q) (Nat.le_refl _) ?_, rfl, h _ _ (I.hok.fresh (Nat.le_refl _)) fun G => dd_new G hs⟩
  exact ⟨⟨_, Heap.get?_push_size _ rfl, ⟨rfl, rfl, rfl⟩, rfl⟩, ⟨_, Heap.get?_push_size _ rfl⟩, fun h1 h2 ⟨o, k1, k2, k3⟩ kk => ⟨o, kk _ k1, k2, k3⟩⟩⟩
end
/-! ### readings -/
section
variable {prog : Program} {w : World} {A : Around} {E : Value → Shared → Prop} {s : Shared}
theorem dd_lenM {d : Addr} (hd : (d == sysModules) = false) {xs : List (PyData × Addr × Value)} :
    MeetsIn prog w (Builtin.«dict.__len__» ⟨[.ref d], []⟩) (fun _ R s => s.heap.DictOfH (dataKind prog w) d xs ∧ R (.ok (.ret (.int xs.length s.toks))) { s with toks := s.toks + 1 }) :=
  .of_wp fun A R s ⟨hm, h⟩ => by
    obtain ⟨o, es, ep, ho, hc, hdat, he, hk, hn⟩ := hm
    show wpAny _ _ (dictSize d >>= _) _ _ s
    unfold dictSize
    refine wpAny_bind (wpAny_bind (wpAny_dictEntries ho hdat (wpAny_pure ?_)))
    show wpAny _ _ (Builtin.Dict.pendingCount d >>= _) _ _ s
    refine wpAny_bind (wpAny_pendingCount_other hd ?_)
    refine wpAny_ret_mkInt ?_
    have : es.size = xs.length := size_of_entries he
    rw [Nat.add_zero, this]
    exact h
theorem dd_len {d : Addr} {xs : List (PyData × Addr × Value)} {Q : Value → Shared → Prop} (hd : (d == sysModules) = false) (hm : s.heap.DictOfH (dataKind prog w) d xs) (hfit : (xs.length : Int) < 2 ^ 63)
    (h : Q (.int xs.length (s.toks + 1)) { s with toks := s.toks + 1 + 1 }) : wpAny (model prog w) A (call (.builtin "len") [.ref d]) Q E s := by
  refine Calls.call_function_entry kind_len plain_len entry_len (args_len1 _) ?_
  unfold Builtin.«len»
  refine wpAny_bind (m := oneArg "len" _) (wpAny_pure ?_)
  refine wpAny_bind (m := callSpecial? (.ref d) (Str.ofString "__len__")) (wpAny_callSpecial?_slot (name := Str.ofString "__len__") hm.typeIs F.slot_dict_len
    (call_meetsIn F.slot_dict_len hm.typeIs F.entry_dict_len (F.args_dict_len_1 _) (dd_lenM hd) ⟨hm, ?_⟩))
  show wpAny _ _ _ _ _ { s with toks := s.toks + 1 }
  refine wpAny_bind (wpAny_holding (wpAny_pure ?_))
  refine wpAny_bind (wpAny_letGo ?_)
  show wpAny _ _ (if ((xs.length : Nat) : Int) < 0 then _ else _) _ _ _
  rw [if_neg (by omega)]
  show wpAny _ _ (if ((xs.length : Nat) : Int) ≥ 2 ^ 63 then _ else _) _ _ _
  rw [if_neg (by omega)]
  exact wpAny_bind (wpAny_mkInt (wpAny_pure ⟨_, rfl, h⟩))
end
section
variable {X : Cx} {o i e value : Expr} {pos pos' tpos : Pos} {td ty tv : TE}
theorem _root_.L2.Room.u9 {k : Nat} {A : Around} (r : L2.Room k A) : A.units + 9 < cLine := by have := r.un; omega
/-- d[y] -/
def tDDGet (K : PySem.W.Frag) (w : World) (td ty : TE) : TE := fun σ H Q => td σ H fun x H1 => ty σ H1 fun y H2 => ∃ a b o kvs k v, x = V.ref a ∧ y = V.ref b ∧ H2 a = some o ∧ DD K w H2 a o kvs ∧ KeyV K H2 b k ∧ valV kvs k = some v ∧ Q v H2
theorem pe_ddget (K : PySem.W.Frag) (w : World) (hu : X.A.units + 9 < cLine) (ho : PE X o td) (hi : PE X i ty) (hs : NoSl i) (hK : X.K = K := by rfl) (hw : X.w = w := by rfl) : PE X (.Subscript o i pos) (tDDGet K w td ty) := by
  subst hK
  subst hw
  refine ⟨fun pins s σ H Q I h => ?_⟩
  refine subD_of PySem.F.slot_dict_getitem.lookup hs (thn (ho.run pins s σ H _ I h) fun u s1 ⟨x, H1, I1, rx, q1⟩ => thn (hi.run pins s1 σ H1 _ I1 q1) fun iv s2 ⟨y, H2, I2, ry, a, b, oo, kvs, k, v, ex, ey, ha, hd, hb, l, q2⟩ => ?_)
  subst ex
  subst ey
  obtain rfl : u = Value.ref a := rx
  obtain rfl : iv = Value.ref b := ry
  obtain ⟨_, _, xs, _, dd⟩ := dd_of I2 ha hd
  exact ⟨dd.typeIs, dd_getItem hu I2 ha hd hb l fun w' s3 I3 rw' => ⟨v, H2, I3, rw', q2⟩⟩
def tDDIn (K : PySem.W.Frag) (w : World) (ty td : TE) : TE := fun σ H Q => ty σ H fun y H1 => td σ H1 fun x H2 => ∃ a b o kvs k, x = V.ref a ∧ y = V.ref b ∧ H2 a = some o ∧ DD K w H2 a o kvs ∧ KeyV K H2 b k ∧ Q (.bl (valV kvs k).isSome) H2
def tDDNotIn (K : PySem.W.Frag) (w : World) (ty td : TE) : TE := fun σ H Q => ty σ H fun y H1 => td σ H1 fun x H2 => ∃ a b o kvs k, x = V.ref a ∧ y = V.ref b ∧ H2 a = some o ∧ DD K w H2 a o kvs ∧ KeyV K H2 b k ∧ Q (.bl (!(valV kvs k).isSome)) H2
theorem pc_ddin (K : PySem.W.Frag) (w : World) (hu : X.A.units + 9 < cLine) (hi : PE X i ty) (ho : PE X o td) (hK : X.K = K := by rfl) (hw : X.w = w := by rfl) : PC X .In i o (tDDIn K w ty td) := by
  subst hK
  subst hw
  refine ⟨fun pins s σ H Q I h => ?_⟩
  refine thn (hi.run pins s σ H _ I h) fun iv s1 ⟨y, H1, I1, ry, q1⟩ => thn (ho.run pins s1 σ H1 _ I1 q1) fun u s2 ⟨x, H2, I2, rx, a, b, oo, kvs, k, ex, ey, ha, hd, hb, q2⟩ => ?_
  subst ex
  subst ey
  obtain rfl : u = Value.ref a := rx
  obtain rfl : iv = Value.ref b := ry
  exact dd_in hu I2 ha hd hb fun s3 I3 => ⟨.bl _, H2, I3, rfl, q2⟩
theorem pc_ddnotin (K : PySem.W.Frag) (w : World) (hu : X.A.units + 9 < cLine) (hi : PE X i ty) (ho : PE X o td) (hK : X.K = K := by rfl) (hw : X.w = w := by rfl) : PC X .NotIn i o (tDDNotIn K w ty td) := by
  subst hK
  subst hw
  refine ⟨fun pins s σ H Q I h => ?_⟩
  refine thn (hi.run pins s σ H _ I h) fun iv s1 ⟨y, H1, I1, ry, q1⟩ => thn (ho.run pins s1 σ H1 _ I1 q1) fun u s2 ⟨x, H2, I2, rx, a, b, oo, kvs, k, ex, ey, ha, hd, hb, q2⟩ => ?_
  subst ex
  subst ey
  obtain rfl : u = Value.ref a := rx
  obtain rfl : iv = Value.ref b := ry
  exact dd_notIn hu I2 ha hd hb fun s3 I3 => ⟨.bl _, H2, I3, rfl, q2⟩
/-- d[y] = v; G: the part of the heap that stays -/
def sDDPut (K : PySem.W.Frag) (w : World) (td ty tv : TE) : TS := fun D σ H => tv σ H fun v H1 => td σ H1 fun x H2 => ty σ H2 fun y H3 => ∃ G a b o kvs k, x = V.ref a ∧ y = V.ref b ∧ H3 a = some o ∧ Same G H3 ∧ DD K w G a o kvs ∧ KeyV K G b k ∧ kvs.length < sizeLine ∧
  ∀ o', DD K w G a o' (putK kvs k v) → D.nx σ (upd H3 a o')
theorem ps_ddput (K : PySem.W.Frag) (w : World) (hu : X.A.units + 9 < cLine) (ho : PE X o td) (hi : PE X i ty) (hv : PE X value tv) (hs : swapsWith value (some (.Subscript o i pos')) pos.line X.env = pure false) (hK : X.K = K := by rfl) (hw : X.w = w := by rfl) :
    PS X (.Assign [.Subscript o i pos'] value pos) (sDDPut K w td ty tv) := by
  subst hK
  subst hw
  refine ⟨fun pins s σ H D I h => ?_⟩
  refine wpAny_Assign_Subscript (thn (hv.run pins s σ H _ I h) fun r s1 ⟨v, H1, I1, rv, q1⟩ => thn (ho.run pins s1 σ H1 _ I1 q1) fun u s2 ⟨x, H2, I2, rx, q2⟩ => thn (hi.run pins s2 σ H2 _ I2 q2) fun iv s3 ⟨y, H3, I3, ry, G, a, b, oo, kvs, k, ex, ey, ha, g, hd, hb, hl, q3⟩ => ?_) hs
  subst ex
  subst ey
  obtain rfl : u = Value.ref a := rx
  obtain rfl : iv = Value.ref b := ry
  exact dd_setItem hu I3 ha g hd hb hl rv fun o' s4 d' I4 => ⟨σ, _, I4, q3 o' d'⟩
/-- len(d) -/
theorem call_lenDD (K : PySem.W.Frag) (w : World) (hK : X.K = K := by rfl) (hw : X.w = w := by rfl) : CallR X (.builtin "len") (fun xs H Q => ∃ a o kvs, xs = [V.ref a] ∧ H a = some o ∧ DD K w H a o kvs ∧ Q (.int kvs.length) H) := by
  subst hK
  subst hw
  intro pins s σ H xs us Q I r q
  obtain ⟨a, oo, kvs, ex, ha, hd, q⟩ := q
  subst ex
  obtain ⟨u, eu, rx⟩ := vals1 r
  subst eu
  cases rx
  obtain ⟨z, lo, ys, rel, dd⟩ := dd_of I ha hd
  have e : kvs.length = ys.length := Paired.length rel
  refine dd_len lo dd (by rw [← e]; rw [sizeLine_eq] at z; omega) ?_
  rw [← e]
  exact ⟨.int kvs.length, H, I.tok _, ⟨_, rfl⟩, q⟩
/-- {k: v}; the new dict stands empty while the pair is made -/
def tDD1 (K : PySem.W.Frag) (w : World) (tk tv : TE) : TE := fun σ H Q => ∀ p o0, H p = none → (∀ G, DD K w G p o0 []) → tk σ (upd H p o0) fun y H1 => tv σ H1 fun v H2 => ∃ G b k, y = V.ref b ∧ H2 p = some o0 ∧ Same G H2 ∧ KeyV K G b k ∧ ∀ o', DD K w G p o' [(k, v)] → Q (.ref p) (upd H2 p o')
theorem pe_dd1 (K : PySem.W.Frag) (w : World) {kx vx : Expr} {tk : TE} (hu : X.A.units + 9 < cLine) (hk : PE X kx tk) (hv : PE X vx tv) (hK : X.K = K := by rfl) (hw : X.w = w := by rfl) : PE X (.Dict [some kx] [vx] pos) (tDD1 K w tk tv) := by
  subst hK
  subst hw
  refine ⟨fun pins s σ H Q I h => ?_⟩
  have hs : (s.heap.objs.size == sysModules) = false := beq_eq_false_iff_ne.mpr (Ne.symm (Nat.ne_of_lt I.big))
  have hn := I.hok.fresh (Nat.le_refl s.heap.objs.size)
  have h := h s.heap.objs.size _ hn (fun G => dd_new G hs)
  have I1 : Inv X pins σ (upd H s.heap.objs.size (dO s.heap.objs.size #[] 0)) { s with heap := s.heap.push { cls := .type "dict", data := .dict #[] } } :=
    I.laid (a := s.heap.objs.size) (o := dO s.heap.objs.size #[] 0) (t' := s.toks) (fun _ _ q => Heap.get?_push_of_some _ q) (Nat.le_refl _)
      ⟨⟨_, Heap.get?_push_size _ rfl, ⟨rfl, rfl, rfl⟩, rfl⟩, ⟨_, Heap.get?_push_size _ rfl⟩, fun h1 h2 ⟨o, k1, k2, k3⟩ kk => ⟨o, kk _ k1, k2, k3⟩⟩
  rw [arm_eval_Dict]
  have shape := zip_pairTrees [some kx] [vx] X.env pos rfl rfl
  rw [shape, dictDisplay_pairs _ (by simp [pairTrees]) (by simp [pairTrees])]
  refine wpAny_bind (wpAny_standAt (wpAny_bind ?_))
  unfold subDict
  refine wpAny_bind (wpAny_alloc ?_)
  refine wpAny_bind (wpAny_holding ?_)
  rw [if_pos (by simp [pairTrees])]
  refine wpAny_bind ?_
  refine pairTrees_cons_walk (thn (hk.run pins _ σ _ _ I1 h) fun kv s2 ⟨y, H1, I2, ry, q1⟩ => thn (hv.run pins s2 σ H1 _ I2 q1) fun vv s3 ⟨v, H2, I3, rv, G, b, k, ey, hp, g, hb, q2⟩ => pairTrees_nil_walk ?_)
  subst ey
  obtain rfl : kv = Value.ref b := ry
  refine wpAny_holding ?_
  refine wpAny_bind ?_
  rw [List.forIn_cons]
  obtain ⟨_, _, ys, rel, dd⟩ := dd_of I3 hp (dd_new H2 hs)
  cases rel
  refine wpAny_bind (wpAny_bind (wpAny_dictSet_heap (hsz := by show 0 ≤ sizeLine; exact Nat.zero_le _) (show X.A.units + 8 < cLine by omega) (keyV_is I3 (hb.same g)) dd fun h' dd' hs' => wpAny_pure ?_))
  dsimp only
  rw [List.forIn_nil]
  refine wpAny_pure (wpAny_pure (wpAny_pure ?_))
  obtain ⟨es', ep', I', e4, e5⟩ := dd_write (es0 := #[]) (ep0 := 0) I3 hp hs' dd'
  refine wpAny_pure ⟨.ref s.heap.objs.size, _, I', rfl, q2 _ ⟨by show 1 ≤ sizeLine; rw [sizeLine_eq]; omega, hs, es', ep', _, rfl, e4, e5, ?_⟩⟩
  exact (KD.put (kvs := []) (xs := []) .nil k hb rv)
end
end XL
set_option Elab.async false
set_option linter.all false
set_option maxRecDepth 100000
set_option maxHeartbeats 4000000
namespace K48
open PySem PySem.Spec PyProof.Rows L2 XL
def topS (i : Nat) : Stmt := PySem.Challenge.pw_drawnanew_k48_whole_weakest.main.body.getD i (.Pass ⟨0, 0, 0, 0⟩)
abbrev s_is_number : Stmt := topS 6
theorem sc_is_number : FnScope ["thing", "low", "high"] ["thing", "low", "high"] (defScope s_is_number) := ⟨rfl, rfl, rfl, by decide +kernel, rfl, by decide +kernel, by decide +kernel⟩
abbrev s_Entry_init : Stmt := inClass (topS 9) 0
theorem sc_Entry_init : FnScope ["self", "owner", "word", "who", "ticket", "question", "answer"] ["self", "owner", "word", "who", "ticket", "question", "answer"] (defScope s_Entry_init) := ⟨rfl, rfl, rfl, by decide +kernel, rfl, by decide +kernel, by decide +kernel⟩
abbrev s_Line_init : Stmt := inClass (topS 10) 0
theorem sc_Line_init : FnScope ["self", "far", "room"] ["self", "far", "room"] (defScope s_Line_init) := ⟨rfl, rfl, rfl, by decide +kernel, rfl, by decide +kernel, by decide +kernel⟩
abbrev s_Line_edition : Stmt := inClass (topS 10) 1
theorem sc_Line_edition : FnScope ["self"] ["self"] (defScope s_Line_edition) := ⟨rfl, rfl, rfl, by decide +kernel, rfl, by decide +kernel, by decide +kernel⟩
abbrev s_Line_send : Stmt := inClass (topS 10) 2
theorem sc_Line_send : FnScope ["self", "owner", "word", "who", "question", "row"] ["self", "owner", "word", "who", "question"] (defScope s_Line_send) := ⟨rfl, rfl, rfl, by decide +kernel, rfl, by decide +kernel, by decide +kernel⟩
abbrev s_Line_take : Stmt := inClass (topS 10) 3
theorem sc_Line_take : FnScope ["self", "number", "row"] ["self", "number"] (defScope s_Line_take) := ⟨rfl, rfl, rfl, by decide +kernel, rfl, by decide +kernel, by decide +kernel⟩
abbrev s_Line_entries : Stmt := inClass (topS 10) 4
theorem sc_Line_entries : FnScope ["self", "row"] ["self"] (defScope s_Line_entries) := ⟨rfl, rfl, rfl, by decide +kernel, rfl, by decide +kernel, by decide +kernel⟩
abbrev s_Line_turn : Stmt := inClass (topS 10) 5
theorem sc_Line_turn : FnScope ["self"] ["self"] (defScope s_Line_turn) := ⟨rfl, rfl, rfl, by decide +kernel, rfl, by decide +kernel, by decide +kernel⟩
abbrev s_Fence_lets : Stmt := inClass (topS 11) 0
theorem sc_Fence_lets : FnScope ["self", "entry", "who", "question", "ticket"] ["self", "entry", "who", "question", "ticket"] (defScope s_Fence_lets) := ⟨rfl, rfl, rfl, by decide +kernel, rfl, by decide +kernel, by decide +kernel⟩
abbrev s_Fence_le : Stmt := inClass (topS 11) 1
theorem sc_Fence_le : FnScope ["self", "other", "entry", "who", "question", "ticket", "inner"] ["self", "other"] (defScope s_Fence_le) := ⟨rfl, rfl, rfl, by decide +kernel, rfl, by decide +kernel, by decide +kernel⟩
abbrev s_Own_lets : Stmt := inClass (topS 12) 0
theorem sc_Own_lets : SupScope ["self", "entry", "who", "question", "ticket"] (defScope s_Own_lets) := ⟨rfl, rfl, rfl, by decide +kernel, by decide +kernel, by decide +kernel, by decide +kernel, by decide +kernel, by decide +kernel, rfl⟩
abbrev s_Same_lets : Stmt := inClass (topS 13) 0
theorem sc_Same_lets : SupScope ["self", "entry", "who", "question", "ticket"] (defScope s_Same_lets) := ⟨rfl, rfl, rfl, by decide +kernel, by decide +kernel, by decide +kernel, by decide +kernel, by decide +kernel, by decide +kernel, rfl⟩
abbrev s_Both_lets : Stmt := inClass (topS 14) 0
theorem sc_Both_lets : SupScope ["self", "entry", "who", "question", "ticket"] (defScope s_Both_lets) := ⟨rfl, rfl, rfl, by decide +kernel, by decide +kernel, by decide +kernel, by decide +kernel, by decide +kernel, by decide +kernel, rfl⟩
abbrev s_Last_lets : Stmt := inClass (topS 15) 0
theorem sc_Last_lets : FnScope ["self", "entry", "who", "question", "ticket"] ["self", "entry", "who", "question", "ticket"] (defScope s_Last_lets) := ⟨rfl, rfl, rfl, by decide +kernel, rfl, by decide +kernel, by decide +kernel⟩
abbrev s_fence_of : Stmt := topS 16
theorem sc_fence_of : FnScope ["word"] ["word"] (defScope s_fence_of) := ⟨rfl, rfl, rfl, by decide +kernel, rfl, by decide +kernel, by decide +kernel⟩
abbrev s_sending : Stmt := topS 17
theorem sc_sending : FnScope ["stand", "far", "room", "question", "renewed", "edition", "line", "last", "due", "shown", "answer", "longer", "who", "ticket", "asked", "told"] ["stand", "far", "room", "question", "renewed"] (defScope s_sending) := ⟨rfl, rfl, rfl, by decide +kernel, rfl, by decide +kernel, by decide +kernel⟩
abbrev s_landing : Stmt := topS 18
theorem sc_landing : FnScope ["stand", "number", "fence", "edition", "line", "last", "due", "shown", "who", "ticket", "asked", "told", "entry"] ["stand", "number", "fence"] (defScope s_landing) := ⟨rfl, rfl, rfl, by decide +kernel, rfl, by decide +kernel, by decide +kernel⟩
abbrev s_steps_of : Stmt := topS 19
theorem sc_steps_of : FnScope ["stand", "far", "questions", "edition", "line", "last", "due", "shown", "steps", "question", "number"] ["stand", "far", "questions"] (defScope s_steps_of) := ⟨rfl, rfl, rfl, by decide +kernel, rfl, by decide +kernel, by decide +kernel⟩
abbrev s_stand_behind : Stmt := topS 20
theorem sc_stand_behind : FnScope ["stand", "step", "far", "room", "fence", "edition", "line", "last", "due", "shown"] ["stand", "step", "far", "room", "fence"] (defScope s_stand_behind) := ⟨rfl, rfl, rfl, by decide +kernel, rfl, by decide +kernel, by decide +kernel⟩
abbrev s_late_row : Stmt := topS 21
theorem sc_late_row : FnScope ["word", "far", "room", "questions", "fence", "first", "answer", "start", "rows", "level", "further", "stand", "step", "after"] ["word", "far", "room", "questions"] (defScope s_late_row) := ⟨rfl, rfl, rfl, by decide +kernel, rfl, by decide +kernel, by decide +kernel⟩
abbrev s_weakest : Stmt := topS 22
theorem sc_weakest : FnScope ["far", "room", "questions", "word", "enough", "found", "weaker", "other"] ["far", "room", "questions"] (defScope s_weakest) := ⟨rfl, rfl, rfl, by decide +kernel, rfl, by decide +kernel, by decide +kernel⟩
abbrev s_mixed : Stmt := topS 24
theorem sc_mixed : FnScope ["_law_number", "_law_turn", "_law_first", "_law_second"] ["_law_number", "_law_turn"] (defScope s_mixed) := ⟨rfl, rfl, rfl, by decide +kernel, rfl, by decide +kernel, by decide +kernel⟩
abbrev s_bag : Stmt := topS 25
theorem sc_bag : FnScope ["_law_script", "_law_cell", "_law_numbers", "_law_seed", "_law_at"] ["_law_script"] (defScope s_bag) := ⟨rfl, rfl, rfl, by decide +kernel, rfl, by decide +kernel, by decide +kernel⟩
abbrev s_pick : Stmt := topS 26
theorem sc_pick : FnScope ["_law_bag_here", "_law_many", "_law_turn", "_law_cell", "_law_worth"] ["_law_bag_here", "_law_many"] (defScope s_pick) := ⟨rfl, rfl, rfl, by decide +kernel, rfl, by decide +kernel, by decide +kernel⟩
abbrev s_choice : Stmt := topS 27
theorem sc_choice : FnScope ["_law_bag_here", "_law_things"] ["_law_bag_here", "_law_things"] (defScope s_choice) := ⟨rfl, rfl, rfl, by decide +kernel, rfl, by decide +kernel, by decide +kernel⟩
abbrev s_mingled : Stmt := topS 28
theorem sc_mingled : FnScope ["_law_bag_here", "_law_things", "_law_left", "_law_out", "_law_step"] ["_law_bag_here", "_law_things"] (defScope s_mingled) := ⟨rfl, rfl, rfl, by decide +kernel, rfl, by decide +kernel, by decide +kernel⟩
abbrev s_edition : Stmt := topS 29
theorem sc_edition : FnScope ["_law_bag_here", "_law_before", "_law_way", "_law_row", "_law_at", "_law_question"] ["_law_bag_here", "_law_before"] (defScope s_edition) := ⟨rfl, rfl, rfl, by decide +kernel, rfl, by decide +kernel, by decide +kernel⟩
abbrev s_sizes : Stmt := topS 30
theorem sc_sizes : FnScope ["_law_bag_here", "_law_size"] ["_law_bag_here"] (defScope s_sizes) := ⟨rfl, rfl, rfl, by decide +kernel, rfl, by decide +kernel, by decide +kernel⟩
abbrev s_world : Stmt := topS 31
theorem sc_world : FnScope ["_law_bag_here", "_law_most", "_law_many", "_law_width", "_law_count", "_law_store", "_law_edition_here", "_law_row", "_law_question"] ["_law_bag_here", "_law_most"] (defScope s_world) := ⟨rfl, rfl, rfl, by decide +kernel, rfl, by decide +kernel, by decide +kernel⟩
abbrev s_lets : Stmt := topS 32
theorem sc_lets : FnScope ["_law_word", "_law_own", "_law_same", "_law_last"] ["_law_word", "_law_own", "_law_same", "_law_last"] (defScope s_lets) := ⟨rfl, rfl, rfl, by decide +kernel, rfl, by decide +kernel, by decide +kernel⟩
abbrev s_start : Stmt := topS 33
theorem sc_start : FnScope ["_law_store", "_law_asked", "_law_answer"] ["_law_store", "_law_asked"] (defScope s_start) := ⟨rfl, rfl, rfl, by decide +kernel, rfl, by decide +kernel, by decide +kernel⟩
abbrev s_steps : Stmt := topS 34
theorem sc_steps : FnScope ["_law_now", "_law_asked", "_law_store", "_law_out", "_law_question", "_law_number"] ["_law_now", "_law_asked", "_law_store"] (defScope s_steps) := ⟨rfl, rfl, rfl, by decide +kernel, rfl, by decide +kernel, by decide +kernel⟩
abbrev s_sent : Stmt := topS 35
theorem sc_sent : FnScope ["_law_now", "_law_question", "_law_who", "_law_store", "_law_width", "_law_answer", "_law_ticket", "_law_line"] ["_law_now", "_law_question", "_law_who", "_law_store", "_law_width"] (defScope s_sent) := ⟨rfl, rfl, rfl, by decide +kernel, rfl, by decide +kernel, by decide +kernel⟩
abbrev s_after : Stmt := topS 36
theorem sc_after : FnScope ["_law_now", "_law_step", "_law_word", "_law_store", "_law_width", "_law_edition_here", "_law_line", "_law_who", "_law_question", "_law_ticket", "_law_answer", "_law_shown", "_law_entry"] ["_law_now", "_law_step", "_law_word", "_law_store", "_law_width"] (defScope s_after) := ⟨rfl, rfl, rfl, by decide +kernel, rfl, by decide +kernel, by decide +kernel⟩
abbrev s_is_late : Stmt := topS 37
theorem sc_is_late : FnScope ["_law_now"] ["_law_now"] (defScope s_is_late) := ⟨rfl, rfl, rfl, by decide +kernel, rfl, by decide +kernel, by decide +kernel⟩
abbrev s_words : Stmt := topS 38
theorem sc_words : FnScope [] [] (defScope s_words) := ⟨rfl, rfl, rfl, by decide +kernel, rfl, by decide +kernel, by decide +kernel⟩
abbrev s_at_most : Stmt := topS 39
theorem sc_at_most : FnScope ["_law_first", "_law_second", "_law_own", "_law_same", "_law_last"] ["_law_first", "_law_second"] (defScope s_at_most) := ⟨rfl, rfl, rfl, by decide +kernel, rfl, by decide +kernel, by decide +kernel⟩
abbrev s_open : Stmt := topS 40
theorem sc_open : FnScope ["_law_now", "_law_edition_here", "_law_line", "_law_who", "_law_question", "_law_ticket", "_law_answer", "_law_shown", "_law_told", "_law_one"] ["_law_now"] (defScope s_open) := ⟨rfl, rfl, rfl, by decide +kernel, rfl, by decide +kernel, by decide +kernel⟩
abbrev s_letting : Stmt := topS 41
theorem sc_letting : FnScope ["_law_now", "_law_entry", "_law_found", "_law_own", "_law_same", "_law_last", "_law_word"] ["_law_now", "_law_entry", "_law_found"] (defScope s_letting) := ⟨rfl, rfl, rfl, by decide +kernel, rfl, by decide +kernel, by decide +kernel⟩
abbrev s_late_words : Stmt := topS 42
theorem sc_late_words : FnScope ["_law_store", "_law_width", "_law_asked", "_law_start_here", "_law_known", "_law_level", "_law_found", "_law_turn", "_law_further", "_law_now", "_law_step", "_law_after_here", "_law_folded", "_law_word"] ["_law_store", "_law_width", "_law_asked"] (defScope s_late_words) := ⟨rfl, rfl, rfl, by decide +kernel, rfl, by decide +kernel, by decide +kernel⟩
abbrev s_due : Stmt := topS 43
theorem sc_due : FnScope ["_law_late", "_law_word", "_law_enough", "_law_out", "_law_other"] ["_law_late"] (defScope s_due) := ⟨rfl, rfl, rfl, by decide +kernel, rfl, by decide +kernel, by decide +kernel⟩
abbrev s_drawn_steps : Stmt := topS 44
theorem sc_drawn_steps : FnScope ["_law_bag_here", "_law_store", "_law_width", "_law_asked", "_law_now", "_law_steps_here", "_law_turn", "_law_step"] ["_law_bag_here", "_law_store", "_law_width", "_law_asked"] (defScope s_drawn_steps) := ⟨rfl, rfl, rfl, by decide +kernel, rfl, by decide +kernel, by decide +kernel⟩
abbrev s_played : Stmt := topS 45
theorem sc_played : FnScope ["_law_word", "_law_store", "_law_width", "_law_asked", "_law_steps_here", "_law_due_here", "_law_line", "_law_fence", "_law_now", "_law_who", "_law_last", "_law_shown", "_law_step", "_law_entry"] ["_law_word", "_law_store", "_law_width", "_law_asked", "_law_steps_here", "_law_due_here"] (defScope s_played) := ⟨rfl, rfl, rfl, by decide +kernel, rfl, by decide +kernel, by decide +kernel⟩
abbrev s_law : Stmt := topS 46
theorem sc_law : FnScope ["_law_script", "_law_bag_here", "_law_store", "_law_width", "_law_asked", "_law_late", "_law_due_here", "_law_given", "_law_told", "_law_steps_here", "_law_word", "_law_never", "_law_other"] ["_law_script"] (defScope s_law) := ⟨rfl, rfl, rfl, by decide +kernel, rfl, by decide +kernel, by decide +kernel⟩
/-- what the top leaves -/
structure Top (K : PySem.W.Frag) (mg : Str → Option Value) (W : World) where
  x_file : Str
  m_abs : mg "abs" = none
  m_bool : mg "bool" = none
  m_enumerate : mg "enumerate" = none
  m_int : mg "int" = none
  m_isinstance : mg "isinstance" = none
  m_len : mg "len" = none
  m_list : mg "list" = none
  m_range : mg "range" = none
  m_super : mg "super" = none
  m_tuple : mg "tuple" = none
  a_is_number : Addr
  d_is_number : FuncData
  F_is_number : Fun K "is_number" "is_number" s_is_number a_is_number d_is_number
  b_is_number : Binds K d_is_number ["thing", "low", "high"] []
  g_is_number : mg "is_number" = some (.ref a_is_number)
  a_Entry_init : Addr
  d_Entry_init : FuncData
  F_Entry_init : Fun K "__init__" "Entry.__init__" s_Entry_init a_Entry_init d_Entry_init
  b_Entry_init : Binds K d_Entry_init ["self", "owner", "word", "who", "ticket", "question", "answer"] []
  a_Line_init : Addr
  d_Line_init : FuncData
  F_Line_init : Fun K "__init__" "Line.__init__" s_Line_init a_Line_init d_Line_init
  b_Line_init : Binds K d_Line_init ["self", "far", "room"] []
  a_Line_edition : Addr
  d_Line_edition : FuncData
  F_Line_edition : Fun K "edition" "Line.edition" s_Line_edition a_Line_edition d_Line_edition
  b_Line_edition : Binds K d_Line_edition ["self"] []
  a_Line_send : Addr
  d_Line_send : FuncData
  F_Line_send : Fun K "send" "Line.send" s_Line_send a_Line_send d_Line_send
  b_Line_send : Binds K d_Line_send ["self", "owner", "word", "who", "question"] []
  a_Line_take : Addr
  d_Line_take : FuncData
  F_Line_take : Fun K "take" "Line.take" s_Line_take a_Line_take d_Line_take
  b_Line_take : Binds K d_Line_take ["self", "number"] []
  a_Line_entries : Addr
  d_Line_entries : FuncData
  F_Line_entries : Fun K "entries" "Line.entries" s_Line_entries a_Line_entries d_Line_entries
  b_Line_entries : Binds K d_Line_entries ["self"] []
  a_Line_turn : Addr
  d_Line_turn : FuncData
  F_Line_turn : Fun K "turn" "Line.turn" s_Line_turn a_Line_turn d_Line_turn
  b_Line_turn : Binds K d_Line_turn ["self"] []
  a_Fence_lets : Addr
  d_Fence_lets : FuncData
  F_Fence_lets : Fun K "lets" "Fence.lets" s_Fence_lets a_Fence_lets d_Fence_lets
  b_Fence_lets : Binds K d_Fence_lets ["self", "entry", "who", "question", "ticket"] []
  a_Fence_le : Addr
  d_Fence_le : FuncData
  F_Fence_le : Fun K "__le__" "Fence.__le__" s_Fence_le a_Fence_le d_Fence_le
  b_Fence_le : Binds K d_Fence_le ["self", "other"] []
  a_Own_lets : Addr
  d_Own_lets : FuncData
  b_Own_lets : Binds K d_Own_lets ["self", "entry", "who", "question", "ticket"] []
  a_Same_lets : Addr
  d_Same_lets : FuncData
  b_Same_lets : Binds K d_Same_lets ["self", "entry", "who", "question", "ticket"] []
  a_Both_lets : Addr
  d_Both_lets : FuncData
  b_Both_lets : Binds K d_Both_lets ["self", "entry", "who", "question", "ticket"] []
  a_Last_lets : Addr
  d_Last_lets : FuncData
  F_Last_lets : Fun K "lets" "Last.lets" s_Last_lets a_Last_lets d_Last_lets
  b_Last_lets : Binds K d_Last_lets ["self", "entry", "who", "question", "ticket"] []
  a_fence_of : Addr
  d_fence_of : FuncData
  F_fence_of : Fun K "fence_of" "fence_of" s_fence_of a_fence_of d_fence_of
  b_fence_of : Binds K d_fence_of ["word"] []
  g_fence_of : mg "fence_of" = some (.ref a_fence_of)
  a_sending : Addr
  d_sending : FuncData
  F_sending : Fun K "sending" "sending" s_sending a_sending d_sending
  b_sending : Binds K d_sending ["stand", "far", "room", "question", "renewed"] []
  g_sending : mg "sending" = some (.ref a_sending)
  a_landing : Addr
  d_landing : FuncData
  F_landing : Fun K "landing" "landing" s_landing a_landing d_landing
  b_landing : Binds K d_landing ["stand", "number", "fence"] []
  g_landing : mg "landing" = some (.ref a_landing)
  a_steps_of : Addr
  d_steps_of : FuncData
  F_steps_of : Fun K "steps_of" "steps_of" s_steps_of a_steps_of d_steps_of
  b_steps_of : Binds K d_steps_of ["stand", "far", "questions"] []
  g_steps_of : mg "steps_of" = some (.ref a_steps_of)
  a_stand_behind : Addr
  d_stand_behind : FuncData
  F_stand_behind : Fun K "stand_behind" "stand_behind" s_stand_behind a_stand_behind d_stand_behind
  b_stand_behind : Binds K d_stand_behind ["stand", "step", "far", "room", "fence"] []
  g_stand_behind : mg "stand_behind" = some (.ref a_stand_behind)
  a_late_row : Addr
  d_late_row : FuncData
  F_late_row : Fun K "late_row" "late_row" s_late_row a_late_row d_late_row
  b_late_row : Binds K d_late_row ["word", "far", "room", "questions"] []
  g_late_row : mg "late_row" = some (.ref a_late_row)
  a_weakest : Addr
  d_weakest : FuncData
  F_weakest : Fun K "weakest" "weakest" s_weakest a_weakest d_weakest
  b_weakest : Binds K d_weakest ["far", "room", "questions"] []
  g_weakest : mg "weakest" = some (.ref a_weakest)
  a_mixed : Addr
  d_mixed : FuncData
  F_mixed : Fun K "_law_mixed" "_law_mixed" s_mixed a_mixed d_mixed
  b_mixed : Binds K d_mixed ["_law_number", "_law_turn"] []
  g_mixed : mg "_law_mixed" = some (.ref a_mixed)
  a_bag : Addr
  d_bag : FuncData
  F_bag : Fun K "_law_bag" "_law_bag" s_bag a_bag d_bag
  b_bag : Binds K d_bag ["_law_script"] []
  g_bag : mg "_law_bag" = some (.ref a_bag)
  a_pick : Addr
  d_pick : FuncData
  F_pick : Fun K "_law_pick" "_law_pick" s_pick a_pick d_pick
  b_pick : Binds K d_pick ["_law_bag_here", "_law_many"] []
  g_pick : mg "_law_pick" = some (.ref a_pick)
  a_choice : Addr
  d_choice : FuncData
  F_choice : Fun K "_law_choice" "_law_choice" s_choice a_choice d_choice
  b_choice : Binds K d_choice ["_law_bag_here", "_law_things"] []
  g_choice : mg "_law_choice" = some (.ref a_choice)
  a_mingled : Addr
  d_mingled : FuncData
  F_mingled : Fun K "_law_mingled" "_law_mingled" s_mingled a_mingled d_mingled
  b_mingled : Binds K d_mingled ["_law_bag_here", "_law_things"] []
  g_mingled : mg "_law_mingled" = some (.ref a_mingled)
  a_edition : Addr
  d_edition : FuncData
  F_edition : Fun K "_law_edition" "_law_edition" s_edition a_edition d_edition
  b_edition : Binds K d_edition ["_law_bag_here", "_law_before"] []
  g_edition : mg "_law_edition" = some (.ref a_edition)
  a_sizes : Addr
  d_sizes : FuncData
  F_sizes : Fun K "_law_sizes" "_law_sizes" s_sizes a_sizes d_sizes
  b_sizes : Binds K d_sizes ["_law_bag_here"] []
  g_sizes : mg "_law_sizes" = some (.ref a_sizes)
  a_world : Addr
  d_world : FuncData
  F_world : Fun K "_law_world" "_law_world" s_world a_world d_world
  b_world : Binds K d_world ["_law_bag_here", "_law_most"] []
  g_world : mg "_law_world" = some (.ref a_world)
  a_lets : Addr
  d_lets : FuncData
  F_lets : Fun K "_law_lets" "_law_lets" s_lets a_lets d_lets
  b_lets : Binds K d_lets ["_law_word", "_law_own", "_law_same", "_law_last"] []
  g_lets : mg "_law_lets" = some (.ref a_lets)
  a_start : Addr
  d_start : FuncData
  F_start : Fun K "_law_start" "_law_start" s_start a_start d_start
  b_start : Binds K d_start ["_law_store", "_law_asked"] []
  g_start : mg "_law_start" = some (.ref a_start)
  a_steps : Addr
  d_steps : FuncData
  F_steps : Fun K "_law_steps" "_law_steps" s_steps a_steps d_steps
  b_steps : Binds K d_steps ["_law_now", "_law_asked", "_law_store"] []
  g_steps : mg "_law_steps" = some (.ref a_steps)
  a_sent : Addr
  d_sent : FuncData
  F_sent : Fun K "_law_sent" "_law_sent" s_sent a_sent d_sent
  b_sent : Binds K d_sent ["_law_now", "_law_question", "_law_who", "_law_store", "_law_width"] []
  g_sent : mg "_law_sent" = some (.ref a_sent)
  a_after : Addr
  d_after : FuncData
  F_after : Fun K "_law_after" "_law_after" s_after a_after d_after
  b_after : Binds K d_after ["_law_now", "_law_step", "_law_word", "_law_store", "_law_width"] []
  g_after : mg "_law_after" = some (.ref a_after)
  a_is_late : Addr
  d_is_late : FuncData
  F_is_late : Fun K "_law_is_late" "_law_is_late" s_is_late a_is_late d_is_late
  b_is_late : Binds K d_is_late ["_law_now"] []
  g_is_late : mg "_law_is_late" = some (.ref a_is_late)
  a_words : Addr
  d_words : FuncData
  F_words : Fun K "_law_words" "_law_words" s_words a_words d_words
  b_words : Binds K d_words [] []
  g_words : mg "_law_words" = some (.ref a_words)
  a_at_most : Addr
  d_at_most : FuncData
  F_at_most : Fun K "_law_at_most" "_law_at_most" s_at_most a_at_most d_at_most
  b_at_most : Binds K d_at_most ["_law_first", "_law_second"] []
  g_at_most : mg "_law_at_most" = some (.ref a_at_most)
  a_open : Addr
  d_open : FuncData
  F_open : Fun K "_law_open" "_law_open" s_open a_open d_open
  b_open : Binds K d_open ["_law_now"] []
  g_open : mg "_law_open" = some (.ref a_open)
  a_letting : Addr
  d_letting : FuncData
  F_letting : Fun K "_law_letting" "_law_letting" s_letting a_letting d_letting
  b_letting : Binds K d_letting ["_law_now", "_law_entry", "_law_found"] []
  g_letting : mg "_law_letting" = some (.ref a_letting)
  a_late_words : Addr
  d_late_words : FuncData
  F_late_words : Fun K "_law_late_words" "_law_late_words" s_late_words a_late_words d_late_words
  b_late_words : Binds K d_late_words ["_law_store", "_law_width", "_law_asked"] []
  g_late_words : mg "_law_late_words" = some (.ref a_late_words)
  a_due : Addr
  d_due : FuncData
  F_due : Fun K "_law_due" "_law_due" s_due a_due d_due
  b_due : Binds K d_due ["_law_late"] []
  g_due : mg "_law_due" = some (.ref a_due)
  a_drawn_steps : Addr
  d_drawn_steps : FuncData
  F_drawn_steps : Fun K "_law_drawn_steps" "_law_drawn_steps" s_drawn_steps a_drawn_steps d_drawn_steps
  b_drawn_steps : Binds K d_drawn_steps ["_law_bag_here", "_law_store", "_law_width", "_law_asked"] []
  g_drawn_steps : mg "_law_drawn_steps" = some (.ref a_drawn_steps)
  a_played : Addr
  d_played : FuncData
  F_played : Fun K "_law_played" "_law_played" s_played a_played d_played
  b_played : Binds K d_played ["_law_word", "_law_store", "_law_width", "_law_asked", "_law_steps_here", "_law_due_here"] []
  g_played : mg "_law_played" = some (.ref a_played)
  a_law : Addr
  d_law : FuncData
  F_law : Fun K "law" "law" s_law a_law d_law
  b_law : Binds K d_law ["_law_script"] []
  g_law : mg "law" = some (.ref a_law)
  U_FENCES : Addr
  g_FENCES : mg "FENCES" = some (.ref U_FENCES)
  sq_FENCES : ∀ H, SqT K H U_FENCES [V.str "any", V.str "own", V.str "same", V.str "both", V.str "last"]
  wt_FENCES : ∃ o, K.lookup U_FENCES = some o ∧ o.cls = .type "tuple" ∧ o.dict = none
  C_Entry : Addr
  g_Entry : mg "Entry" = some (.ref C_Entry)
  cl_Entry : Cls K C_Entry
  na_Entry_owner : NoAttr K C_Entry "owner"
  na_Entry_word : NoAttr K C_Entry "word"
  na_Entry_who : NoAttr K C_Entry "who"
  na_Entry_ticket : NoAttr K C_Entry "ticket"
  na_Entry_question : NoAttr K C_Entry "question"
  na_Entry_answer : NoAttr K C_Entry "answer"
  mk_Entry : Mk K C_Entry a_Entry_init
  C_Line : Addr
  g_Line : mg "Line" = some (.ref C_Line)
  cl_Line : Cls K C_Line
  na_Line_far : NoAttr K C_Line "far"
  na_Line_room : NoAttr K C_Line "room"
  na_Line_waiting : NoAttr K C_Line "waiting"
  na_Line_tickets : NoAttr K C_Line "tickets"
  na_Line_present : NoAttr K C_Line "present"
  mk_Line : Mk K C_Line a_Line_init
  me_Line_send : Meth K C_Line "send" a_Line_send
  me_Line_take : Meth K C_Line "take" a_Line_take
  me_Line_entries : Meth K C_Line "entries" a_Line_entries
  me_Line_turn : Meth K C_Line "turn" a_Line_turn
  p_Line_edition : Addr
  pr_Line_edition : PropOf K C_Line "edition" p_Line_edition a_Line_edition
  C_Fence : Addr
  g_Fence : mg "Fence" = some (.ref C_Fence)
  cl_Fence : Cls K C_Fence
  me_Fence_lets : Meth K C_Fence "lets" a_Fence_lets
  sp_Fence_le : PySem.W.findIn K (.ref C_Fence) "__le__" = some (some (.ref a_Fence_le)) ∧ PySem.W.isFn K (.ref a_Fence_le) = true
  C_Own : Addr
  g_Own : mg "Own" = some (.ref C_Own)
  cl_Own : Cls K C_Own
  me_Own_lets : Meth K C_Own "lets" a_Own_lets
  C_Same : Addr
  g_Same : mg "Same" = some (.ref C_Same)
  cl_Same : Cls K C_Same
  me_Same_lets : Meth K C_Same "lets" a_Same_lets
  C_Both : Addr
  g_Both : mg "Both" = some (.ref C_Both)
  cl_Both : Cls K C_Both
  me_Both_lets : Meth K C_Both "lets" a_Both_lets
  C_Last : Addr
  g_Last : mg "Last" = some (.ref C_Last)
  cl_Last : Cls K C_Last
  me_Last_lets : Meth K C_Last "lets" a_Last_lets
  F_Own_lets : SupF K C_Own a_Own_lets "lets" "Own.lets" (defArgs s_Own_lets) (defBody s_Own_lets) (defScope s_Own_lets) x_file d_Own_lets
  su_Own_lets_Own : Sup K C_Own C_Own "lets" a_Fence_lets
  su_Own_lets_Both : Sup K C_Both C_Own "lets" a_Same_lets
  F_Same_lets : SupF K C_Same a_Same_lets "lets" "Same.lets" (defArgs s_Same_lets) (defBody s_Same_lets) (defScope s_Same_lets) x_file d_Same_lets
  su_Same_lets_Same : Sup K C_Same C_Same "lets" a_Fence_lets
  su_Same_lets_Both : Sup K C_Both C_Same "lets" a_Fence_lets
  F_Both_lets : SupF K C_Both a_Both_lets "lets" "Both.lets" (defArgs s_Both_lets) (defBody s_Both_lets) (defScope s_Both_lets) x_file d_Both_lets
  su_Both_lets_Both : Sup K C_Both C_Both "lets" a_Own_lets
  mk0_Fence : Mk0 K C_Fence
  mk0_Own : Mk0 K C_Own
  ih_Own_le : PySem.W.findIn K (.ref C_Own) "__le__" = some (some (.ref a_Fence_le))
  mk0_Same : Mk0 K C_Same
  ih_Same_le : PySem.W.findIn K (.ref C_Same) "__le__" = some (some (.ref a_Fence_le))
  mk0_Both : Mk0 K C_Both
  ih_Both_le : PySem.W.findIn K (.ref C_Both) "__le__" = some (some (.ref a_Fence_le))
  mk0_Last : Mk0 K C_Last
  ih_Last_le : PySem.W.findIn K (.ref C_Last) "__le__" = some (some (.ref a_Fence_le))
  le_Fence_Fence : LeOk K C_Fence C_Fence
  le_Fence_Own : LeOk K C_Fence C_Own
  le_Fence_Same : LeOk K C_Fence C_Same
  le_Fence_Both : LeOk K C_Fence C_Both
  le_Fence_Last : LeOk K C_Fence C_Last
  le_Own_Fence : LeOk K C_Own C_Fence
  le_Own_Own : LeOk K C_Own C_Own
  le_Own_Same : LeOk K C_Own C_Same
  le_Own_Both : LeOk K C_Own C_Both
  le_Own_Last : LeOk K C_Own C_Last
  le_Same_Fence : LeOk K C_Same C_Fence
  le_Same_Own : LeOk K C_Same C_Own
  le_Same_Same : LeOk K C_Same C_Same
  le_Same_Both : LeOk K C_Same C_Both
  le_Same_Last : LeOk K C_Same C_Last
  le_Both_Fence : LeOk K C_Both C_Fence
  le_Both_Own : LeOk K C_Both C_Own
  le_Both_Same : LeOk K C_Both C_Same
  le_Both_Both : LeOk K C_Both C_Both
  le_Both_Last : LeOk K C_Both C_Last
  le_Last_Fence : LeOk K C_Last C_Fence
  le_Last_Own : LeOk K C_Last C_Own
  le_Last_Same : LeOk K C_Last C_Same
  le_Last_Both : LeOk K C_Last C_Both
  le_Last_Last : LeOk K C_Last C_Last
/-! ### the bag -/
structure Bag (G : Hp) (o : HO) : Prop where
  ex : ∃ (n : Addr) (ns : List Int) (i g t s : Int), o = .lst [.ref n, .int i, .int g, .int t, .int s] ∧ G n = some (.lst (ns.map V.int)) ∧ 0 ≤ i ∧ 0 ≤ g
theorem Bag.same {G G' : Hp} {o : HO} (e : Same G G') (b : Bag G o) : Bag G' o := by
  obtain ⟨n, ns, i, g, t, s, h1, h2, h3⟩ := b.ex
  exact ⟨n, ns, i, g, t, s, h1, e _ _ h2, h3⟩

section
variable {P : Program} {w : World} {K : PySem.W.Frag} {mg : Str → Option Value} {base : Heap}
def spMixed : Sp := fun vs H Q _ => ∃ n t : Int, vs = [.int n, .int t] ∧ ∀ r : Int, 0 ≤ r → r < 2147483587 → Q (.int r) H
theorem ok_mixed (T : Top K mg w) {k : Nat} : FnOk P w K mg base CX0 (k + 1) T.a_mixed T.d_mixed ["_law_number", "_law_turn"] spMixed := by
  refine T.F_mixed.ok sc_mixed (fun vs H Q E h => ?_) (fun cdv A outer s H vs Q E hr h => ?_)
  · obtain ⟨n, t, rfl, _⟩ := h
    rfl
  · obtain ⟨n, t, rfl, q⟩ := h
    refine ⟨_, (pss_cons (ps_set (i := 2) sc_mixed.nd rfl (.inl rfl) (pe_op op_modY (pe_callTy cr_int (by rfl) T.m_int (by decide +kernel) (pa_cons (pe_op op_addY (pe_op op_mulY (pe_op op_addY (xv 0) pe_int) pe_int) (pe_op op_mulY (pe_op op_addY (xv 1) pe_int) pe_int)) pa_nil)) pe_int))
      (pss_cons (ps_set (i := 3) sc_mixed.nd rfl (.inl rfl) (pe_op op_modY (pe_callTy cr_int (by rfl) T.m_int (by decide +kernel) (pa_cons (pe_op op_addY (pe_op op_addY (pe_op op_mulY (xv 2) (xv 2)) (pe_op op_mulY (xv 2) pe_int)) (pe_op op_mulY (pe_op op_addY (xv 1) pe_int) pe_int)) pa_nil)) pe_int))
      (pss_one (ps_ret (pe_op op_modY (pe_callTy cr_int (by rfl) T.m_int (by decide +kernel) (pa_cons (pe_op op_addY (pe_op op_addY (pe_op op_divY (xv 3) pe_int) (pe_op op_mulY (xv 3) pe_int)) (xv 1)) pa_nil)) pe_int))))), ?_⟩
    refine ⟨.inr ⟨by decide, by decide⟩, .inr ⟨by decide, by decide⟩, by decide, fun f _ f0 f1 => ?_⟩
    refine ⟨.inl ⟨by omega, by omega⟩, .inr ⟨by decide, by decide⟩, .inr ⟨by decide, by decide⟩, by decide, fun g _ g0 g1 => ?_⟩
    refine ⟨⟨by decide, by decide⟩, fun d _ _ => ⟨.inr ⟨by decide, by decide⟩, by decide, fun r _ r0 r1 => ?_⟩⟩
    exact q r r0 r1

def spPick : Sp := fun vs H Q _ => ∃ (G : Hp) (M : List (Addr × HO)) (b : Addr) (o : HO) (n : Int), vs = [.ref b, .int n] ∧ Sep G ((b, o) :: M) H ∧ Bag G o ∧ 0 < n ∧ n < 1073741824 ∧
  ∀ (r : Int) (o' : HO) (H' : Hp), 0 ≤ r → r < n → Bag G o' → Sep G ((b, o') :: M) H' → Q (.int r) H'
theorem ok_pick (T : Top K mg w) {k : Nat} (G_mixed : FnOk P w K mg base CX0 (k + 1) T.a_mixed T.d_mixed ["_law_number", "_law_turn"] spMixed) :
    FnOk P w K mg base CX0 (k + 2) T.a_pick T.d_pick ["_law_bag_here", "_law_many"] spPick := by
  refine T.F_pick.ok sc_pick (fun vs H Q E h => ?_) (fun cdv A outer s H vs Q E hr h => ?_)
  · obtain ⟨G, M, b, o, n, rfl, _⟩ := h
    rfl
  · obtain ⟨G, M, b, o, n, rfl, S, B, n0, n1, q⟩ := h
    obtain ⟨N, ns, i, g, t, z, rfl, hN, i0, g0⟩ := B.ex
    refine ⟨_, (pss_cons (ps_set (i := 2) sc_pick.nd rfl (.inl rfl) (pe_ix (ix_k K) (xv 0) pe_int (fun _ _ => rfl)))
      (pss_cons (ps_asg (pe_op op_addY (xv 2) pe_int) (pg_sub (xv 0) pe_int set_list))
      (xss_cut (xs_if (PW.pt (xw_and (xt_cmp (op_eqLK K hr.u190) (pe_ix (ix_k K) (xv 0) pe_int (fun _ _ => rfl)) pe_int (nomark _)) (pw_and1 (xt_cmp op_ltY (pe_ix (ix_k K) (xv 0) pe_int (fun _ _ => rfl)) (pe_callB (cr_lenK K) (by rfl) T.m_len (by decide +kernel) (pa_cons (pe_ix (ix_k K) (xv 0) pe_int (fun _ _ => rfl)) pa_nil)) (nomark _)))))
      (pss_cons (ps_set (i := 3) sc_pick.nd rfl (.inl rfl) (pe_ix (ix_k K) (pe_ix (ix_k K) (xv 0) pe_int (fun _ _ => rfl)) (pe_ix (ix_k K) (xv 0) pe_int (fun _ _ => rfl)) (fun _ _ => rfl)))
      (pss_cons (ps_asg (pe_op op_addY (pe_ix (ix_k K) (xv 0) pe_int (fun _ _ => rfl)) pe_int) (pg_sub (xv 0) pe_int set_list))
      (pss_cons (xs_if (xt_cmp op_ltY (pe_callB cr_abs (by rfl) T.m_abs (by decide +kernel) (pa_cons (xv 3) pa_nil)) (pe_op op_powY pe_int pe_int) (nomark _))
      (pss_one (ps_ret (pe_op op_modY (pe_callTy cr_int (by rfl) T.m_int (by decide +kernel) (pa_cons (pe_call G_mixed (hr.mono (by omega)) (by rfl) T.g_mixed T.F_mixed.kp T.b_mixed .nil pass0 (pa_cons (pe_op op_addY (pe_op op_mulY pe_int (pe_callB cr_abs (by rfl) T.m_abs (by decide +kernel) (pa_cons (xv 3) pa_nil))) (pe_cmpR op_ltY (xv 3) pe_int (nomark _))) (pa_cons (xv 2) pa_nil))) pa_nil)) (xv 1))))
      pss_nil)
      (pss_one (ps_asg (pe_callB cr_abs (by rfl) T.m_abs (by decide +kernel) (pa_cons (xv 3) pa_nil)) (pg_sub (xv 0) pe_int set_list))))))
      pss_nil)
      (pss_cons (xs_if (xt_cmp (op_eqLK K hr.u190) (pe_ix (ix_k K) (xv 0) pe_int (fun _ _ => rfl)) pe_int (nomark _))
      (pss_one (ps_ret (pe_op op_modY (pe_callTy cr_int (by rfl) T.m_int (by decide +kernel) (pa_cons (pe_call G_mixed (hr.mono (by omega)) (by rfl) T.g_mixed T.F_mixed.kp T.b_mixed .nil pass0 (pa_cons (pe_ix (ix_k K) (xv 0) pe_int (fun _ _ => rfl)) (pa_cons (xv 2) pa_nil))) pa_nil)) (xv 1))))
      pss_nil)
      (pss_cons (ps_set (i := 4) sc_pick.nd rfl (.inl rfl) (pe_op op_modY (pe_callTy cr_int (by rfl) T.m_int (by decide +kernel) (pa_cons (pe_ix (ix_k K) (xv 0) pe_int (fun _ _ => rfl)) pa_nil)) (xv 1)))
      (pss_cons (ps_asg (pe_op op_divY (pe_ix (ix_k K) (xv 0) pe_int (fun _ _ => rfl)) (xv 1)) (pg_sub (xv 0) pe_int set_list))
      (pss_one (ps_ret (xv 4))))))))), ?_⟩
    -- the turn
    refine ⟨_, _, .inl (SqL.of S.hd), rfl, b, _, _, 3, rfl, rfl, S.hd, rfl, ?_⟩
    have S1 := S.set (o' := .lst [.ref N, .int i, .int g, .int (t + 1), .int z])
    have fin : ∀ (j : Int) (g' : Int) (H2 : Hp), 0 ≤ j → 0 ≤ g' → Sep G ((b, .lst [.ref N, .int j, .int g', .int (t + 1), .int z]) :: M) H2 → (g' = 0 → ∀ r : Int, 0 ≤ r → r < n → Q (.int r) H2) ∧
        (∀ (r d : Int), 0 ≤ r → r < n → 0 ≤ d → Q (.int r) (upd H2 b (.lst [.ref N, .int j, .int d, .int (t + 1), .int z]))) := fun j g' H2 j0 h0 S2 =>
      ⟨fun _ r r0 r1 => q r _ _ r0 r1 ⟨N, ns, j, g', t + 1, z, rfl, hN, j0, h0⟩ S2, fun r d r0 r1 d0 => q r _ _ r0 r1 ⟨N, ns, j, d, t + 1, z, rfl, hN, j0, d0⟩ S2.set⟩
    -- the rest, from a bag on
    refine ⟨fun σ H2 => ∃ (y3 y4 : Option V) (j g' : Int), σ = [some (.ref b), some (.int n), some (.int t), y3, y4] ∧ 0 ≤ j ∧ 0 ≤ g' ∧ Sep G ((b, .lst [.ref N, .int j, .int g', .int (t + 1), .int z]) :: M) H2, ?_, fun σ H2 h => ?_⟩
    · have go : ∃ (y3 y4 : Option V) (j g' : Int), ([some (.ref b), some (.int n), some (.int t), none, none] : List (Option V)) = [some (.ref b), some (.int n), some (.int t), y3, y4] ∧ 0 ≤ j ∧ 0 ≤ g' ∧ Sep G ((b, .lst [.ref N, .int j, .int g', .int (t + 1), .int z]) :: M) _ := ⟨_, _, i, g, rfl, i0, g0, S1⟩
      refine ⟨_, _, .inl (SqL.of S1.hd), rfl, fun e => ⟨_, _, .inl (SqL.of S1.hd), rfl, _, _, .inl (SqL.of S1.hd), rfl, _, .inl (SqL.of (S1.st hN)), fun e => ?_, fun e => go⟩, fun e => ⟨ff, fun _ => go⟩⟩
      have hi : i < (ns.map V.int).length := of_decide_eq_true e
      obtain ⟨v, hv, hm⟩ := atI_in i0 hi
      obtain ⟨c, _, rfl⟩ := List.mem_map.mp hm
      refine ⟨_, _, .inl (SqL.of S1.hd), rfl, _, _, .inl (SqL.of S1.hd), rfl, _, _, .inl (SqL.of (S1.st hN)), hv, ?_⟩
      refine ⟨_, _, .inl (SqL.of S1.hd), rfl, b, _, _, 1, rfl, rfl, S1.hd, rfl, ?_⟩
      have S2 := S1.set (o' := .lst [.ref N, .int (i + 1), .int g, .int (t + 1), .int z])
      refine ⟨⟨by decide, by decide, by decide⟩, fun p _ => ⟨fun e => ?_, fun e => ?_⟩⟩
      · refine ⟨.inl ⟨by decide, by decide⟩, _, _, rfl, fun m _ _ => ⟨n0, fun r _ r0 r1 => ?_⟩⟩
        exact q r _ _ r0 r1 ⟨N, ns, i + 1, g, t + 1, z, rfl, hN, by omega, g0⟩ S2
      · refine ⟨b, _, _, 2, rfl, rfl, S2.hd, rfl, ?_⟩
        exact ⟨_, _, i + 1, c.natAbs, rfl, by omega, by omega, S2.set⟩
    · obtain ⟨y3, y4, j, g', rfl, j0, h0, S2⟩ := h
      obtain ⟨f1, f2⟩ := fin j g' H2 j0 h0 S2
      refine ⟨_, _, .inl (SqL.of S2.hd), rfl, fun e => ?_, fun e => ?_⟩
      · refine ⟨_, _, .inl (SqL.of S2.hd), rfl, _, _, rfl, fun m _ _ => ⟨n0, fun r _ r0 r1 => ?_⟩⟩
        exact f1 (of_decide_eq_true e) r r0 r1
      · refine ⟨_, _, .inl (SqL.of S2.hd), rfl, n0, fun r _ r0 r1 => ?_⟩
        refine ⟨_, _, .inl (SqL.of S2.hd), rfl, ⟨n0, n1⟩, fun d _ d0 => ⟨b, _, _, 2, rfl, rfl, S2.hd, rfl, ?_⟩⟩
        exact f2 r d r0 r1 (d0 h0)

def spBag (K : PySem.W.Frag) : Sp := fun vs H Q _ => ∃ (G : Hp) (M : List (Addr × HO)) (a : Addr) (ns : List Int), vs = [.ref a] ∧ Sep G M H ∧ SqL K G a (ns.map V.int) ∧ ns.length ≤ 63 ∧
  ∀ (b : Addr) (o : HO) (G' H' : Hp), Same G G' → Bag G' o → Sep G' ((b, o) :: M) H' → Q (.ref b) H'
theorem ok_bag (T : Top K mg w) {k : Nat} : FnOk P w K mg base CX0 (k + 1) T.a_bag T.d_bag ["_law_script"] (spBag K) := by
  refine T.F_bag.ok sc_bag (fun vs H Q E h => ?_) (fun cdv A outer s H vs Q E hr h => ?_)
  · obtain ⟨G, M, a, ns, rfl, _⟩ := h
    rfl
  · obtain ⟨G, M, a, ns, rfl, S, hA, hl, q⟩ := h
    refine ⟨_, (pss_cons (ps_setLc (i := 2) (own := [("_law_cell", 1)]) (by rfl) sc_bag.nd rfl rfl (sw_true rfl rfl rfl (by decide +kernel)) (pi_listK K (xv 0)) (blkOk_by (N := ["_law_script", "_law_cell", "_law_numbers", "_law_seed", "_law_at"]) (sc := defScope s_bag) (by decide +kernel)) (fun _ _ _ _ _ => (pg_name (i := 1) sc_bag.nd rfl (.inl rfl))) (fun _ _ _ _ _ => pts_nil) (fun _ _ _ _ _ => (pe_callTy cr_int (by rfl) T.m_int (by decide +kernel) (pa_cons (xv 1) pa_nil))))
      (pss_cons (ps_set (i := 3) sc_bag.nd rfl (.inl rfl) (pe_callB (cr_lenK K) (by rfl) T.m_len (by decide +kernel) (pa_cons (xv 2) pa_nil)))
      (pss_cons (ps_for PassesOwn.never rfl (pi_enum (by rfl) T.m_enumerate (pa_cons (pe_slice (sl_listK K) (xv 2) po_none (po_some pe_int)) pa_nil)) (pg_tupK K 2 (pgs_cons (pg_name (i := 4) sc_bag.nd rfl (.inl rfl)) (pgs_cons (pg_name (i := 1) sc_bag.nd rfl (.inl rfl)) pgs_nil)))
      (pss_one (ps_set (i := 3) sc_bag.nd rfl (.inl rfl) (pe_op op_modY (pe_callTy cr_int (by rfl) T.m_int (by decide +kernel) (pa_cons (pe_op op_addY (pe_op op_addY (pe_op op_mulY (xv 3) pe_int) (pe_op op_modY (pe_callTy cr_int (by rfl) T.m_int (by decide +kernel) (pa_cons (pe_callB cr_abs (by rfl) T.m_abs (by decide +kernel) (pa_cons (xv 1) pa_nil)) pa_nil)) pe_int)) (pe_op op_mulY (pe_op op_addY (xv 4) pe_int) (pe_cmpR op_ltY (xv 1) pe_int (nomark _)))) pa_nil)) pe_int))))
      (pss_one (ps_ret (pe_lst (pa_cons (xv 2) (pa_cons pe_int (pa_cons pe_int (pa_cons pe_int (pa_cons (xv 3) pa_nil))))))))))), ?_⟩
    refine ⟨a, rfl, ⟨_, S.l hA⟩, fun L nL => lc_pre (xs := ns.map V.int) (fun pre H' => Sep G ((L, .lst pre) :: M) H') (S.new nL) (fun pre H' p => p.l hA) (fun _ => rfl) (fun pre x post H' e p => ?_) (fun H' S1 => ?_)⟩
    · obtain ⟨c, _, rfl⟩ := List.mem_map.mp (show x ∈ ns.map V.int by rw [e]; simp)
      have hz : pre.length ≤ 63 := by
        have z := congrArg List.length e
        rw [List.length_map, List.length_append] at z
        omega
      exact ⟨_, p.hd, smallL (by omega), p.set⟩
    · -- the seed
      have S2 := S1.frz
      have hN : upd G L (.lst (ns.map V.int)) L = some (.lst (ns.map V.int)) := upd_same
      refine ⟨_, .inl (SqL.of (S2.st hN)), ?_⟩
      refine ⟨63, rfl, L, _, rfl, SqL.of (S2.st hN), fun c nc => ?_⟩
      have S3 := S2.newG (o := .lst (cutV (ns.map V.int) none (some 63))) nc
      have s3 := S2.grow (o := .lst (cutV (ns.map V.int) none (some 63))) nc
      refine ⟨c, _, rfl, SqL.of (S3.st upd_same), for_enum (xs := cutV (ns.map V.int) none (some 63)) (fun pre σ H' => ∃ (y1 y4 : Option V) (z : Int) (G' : Hp), σ = [some (.ref a), y1, some (.ref L), some (.int z), y4] ∧
        Same (upd (upd G L (.lst (ns.map V.int))) c (.lst (cutV (ns.map V.int) none (some 63)))) G' ∧ Sep G' M H') ⟨_, _, _, _, rfl, Same.refl _, S3⟩ (fun pre σ H' h => ?_) (fun pre x post σ H' W e h nW => ?_) (fun σ H' h => ?_)⟩
      · obtain ⟨_, _, _, G', _, s4, S4⟩ := h
        exact SqL.of (S4.st (s4 _ _ upd_same))
      · obtain ⟨y1, y4, z, G', rfl, s4, S4⟩ := h
        have hx : x ∈ ns.map V.int := by
          have hm : x ∈ cutV (ns.map V.int) none (some 63) := by rw [e]; simp
          exact List.mem_of_mem_drop (List.mem_of_mem_take hm)
        obtain ⟨v, _, rfl⟩ := List.mem_map.mp hx
        have S5 := S4.newG (o := .tup [.int (pre.length : Nat), .int v]) nW
        refine ⟨.inr ⟨by decide, by decide⟩, by decide, fun r _ r0 r1 => ⟨by decide, fun u _ u0 u1 => ?_⟩⟩
        exact ⟨_, _, _, _, rfl, s4.trans (S4.grow nW), S5⟩
      · obtain ⟨y1, y4, z, G', rfl, s4, S4⟩ := h
        refine ⟨sz, fun b nb => ?_⟩
        exact q b _ G' _ ((S1.frzS).trans (s3.trans s4)) ⟨L, ns, 0, 0, 0, z, rfl, s4 _ _ (s3 _ _ hN), by decide, by decide⟩ (S4.new nb)

def spMingled (K : PySem.W.Frag) : Sp := fun vs H Q _ => ∃ (G : Hp) (M : List (Addr × HO)) (b : Addr) (o : HO) (l : Addr) (xs : List V), vs = [.ref b, .ref l] ∧ Sep G ((b, o) :: M) H ∧ Bag G o ∧ SqL K G l xs ∧ xs.length < 100000 ∧
  ∀ (p : Addr) (ys : List V) (o' : HO) (G' H' : Hp), Same G G' → G' p = some (.lst ys) → ys.Perm xs → Bag G' o' → Sep G' ((b, o') :: M) H' → Q (.ref p) H'
theorem ok_mingled (T : Top K mg w) {k : Nat} (G_pick : FnOk P w K mg base CX0 k T.a_pick T.d_pick ["_law_bag_here", "_law_many"] spPick) : FnOk P w K mg base CX0 (k + 1) T.a_mingled T.d_mingled ["_law_bag_here", "_law_things"] (spMingled K) := by
  refine T.F_mingled.ok sc_mingled (fun vs H Q E h => ?_) (fun cdv A outer s H vs Q E hr h => ?_)
  · obtain ⟨G, M, b, o, l, xs, rfl, _⟩ := h
    rfl
  · obtain ⟨G, M, b, o, l, xs, rfl, S, B, hl, x1, q⟩ := h
    refine ⟨_, (pss_cons (ps_set (i := 2) sc_mingled.nd rfl (.inl rfl) (pe_callTy (call_listK K) (by rfl) T.m_list (by decide +kernel) (pa_cons (xv 1) pa_nil)))
      (pss_cons (ps_set (i := 3) sc_mingled.nd rfl (.inl rfl) (pe_lst pa_nil))
      (pss_cons (ps_for PassesOwn.never rfl (pi_range1 (by rfl) T.m_range (pa_cons (pe_callB (cr_lenK K) (by rfl) T.m_len (by decide +kernel) (pa_cons (xv 1) pa_nil)) pa_nil)) (pg_name (i := 4) sc_mingled.nd rfl (.inl rfl))
      (pss_one (ps_expr (pe_bmK K PySem.F.plainAttrs_list PySem.F.slot_list_append PySem.F.type_list_append mt_append (xv 3) (pa_cons (pe_bmK K PySem.F.plainAttrs_list PySem.F.slot_list_pop PySem.F.type_list_pop mt_popAt (xv 2) (pa_cons (pe_call G_pick (hr.mono (by omega)) (by rfl) T.g_pick T.F_pick.kp T.b_pick .nil pass0 (pa_cons (xv 0) (pa_cons (pe_callB (cr_lenK K) (by rfl) T.m_len (by decide +kernel) (pa_cons (xv 2) pa_nil)) pa_nil))) pa_nil)) pa_nil)))))
      (pss_one (ps_ret (xv 3)))))), ?_⟩
    refine ⟨l, xs, rfl, .inl (S.l hl), fun L nL => ?_⟩
    have S1 := S.new (o := .lst xs) nL
    refine ⟨sz, fun O nO => ?_⟩
    have S2 := S1.new (o := .lst []) nO
    refine ⟨_, .inl (S2.l hl), _, rfl, by omega, by omega, for_range (lo := 0) (n := (xs.length : Int).toNat) (fun i σ H' => ∃ (y4 : Option V) (o' : HO) (ls os : List V), σ = [some (.ref b), some (.ref l), some (.ref L), some (.ref O), y4] ∧
      Bag G o' ∧ Sep G ((O, .lst os) :: (L, .lst ls) :: (b, o') :: M) H' ∧ ls.length + i = xs.length ∧ os.length = i ∧ (os ++ ls).Perm xs) ?_ (fun i σ H' hi h => ?_) (fun σ H' h => ?_)⟩
    · exact ⟨_, o, xs, [], rfl, B, S2, by omega, rfl, List.Perm.refl _⟩
    · obtain ⟨y4, o', ls, os, rfl, B', S3, e1, e2, pm⟩ := h
      have S4 := (S3.sw).perm (List.Perm.cons _ (List.Perm.swap _ _ _))
      have S5 := S4.sw
      -- out.append(left.pop(pick(bag, len(left))))
      refine ⟨.inl ⟨rfl, _, SqL.of S3.hd⟩, .inl ⟨rfl, _, SqL.of S4.hd⟩, _, .inl (SqL.of S4.hd), G, _, b, o', _, rfl, S5, B', by omega, by omega, fun r o2 H2 r0 r1 B2 S6 => ?_⟩
      have S7 := S6.sw
      obtain ⟨v, hv, hm⟩ := atI_in r0 r1
      have S8 := S7.set (o' := .lst (ls.eraseIdx r.toNat))
      have S9 := (S8.perm (List.Perm.cons _ (List.Perm.swap _ _ _))).sw
      refine ⟨L, ls, r, r.toNat, v, rfl, rfl, S7.hd, by omega, by omega, seqIdx r0 r1, atN r0 hv, O, os, v, rfl, rfl, S9.hd, smallL (by omega), ?_⟩
      refine ⟨_, o2, ls.eraseIdx r.toNat, os ++ [v], rfl, B2, S9.set, ?_, ?_, ?_⟩
      · rw [List.length_eraseIdx_of_lt (by omega)]
        omega
      · rw [List.length_append, e2]
        rfl
      · refine List.Perm.trans ?_ pm
        rw [List.append_assoc, List.singleton_append]
        refine List.Perm.append_left _ ?_
        exact perm_erase (atN r0 hv)
    · obtain ⟨y4, o', ls, os, rfl, B', S3, e1, e2, pm⟩ := h
      have S4 := ((S3.frz).drop)
      exact q O os o' _ _ S3.frzS upd_same (by
        have e3 : ls = [] := List.eq_nil_of_length_eq_zero (by omega)
        rw [e3, List.append_nil] at pm
        exact pm) (B'.same S3.frzS) S4

def spChoice (K : PySem.W.Frag) : Sp := fun vs H Q _ => ∃ (G : Hp) (M : List (Addr × HO)) (b : Addr) (o : HO) (l : Addr) (xs : List V), vs = [.ref b, .ref l] ∧ Sep G ((b, o) :: M) H ∧ Bag G o ∧ SqL K G l xs ∧ 0 < xs.length ∧ xs.length < 100000 ∧
  ∀ (v : V) (o' : HO) (H' : Hp), v ∈ xs → Bag G o' → Sep G ((b, o') :: M) H' → Q v H'
theorem ok_choice (T : Top K mg w) {k : Nat} (G_pick : FnOk P w K mg base CX0 k T.a_pick T.d_pick ["_law_bag_here", "_law_many"] spPick) : FnOk P w K mg base CX0 (k + 1) T.a_choice T.d_choice ["_law_bag_here", "_law_things"] (spChoice K) := by
  refine T.F_choice.ok sc_choice (fun vs H Q E h => ?_) (fun cdv A outer s H vs Q E hr h => ?_)
  · obtain ⟨G, M, b, o, l, xs, rfl, _⟩ := h
    rfl
  · obtain ⟨G, M, b, o, l, xs, rfl, S, B, hl, x0, x1, q⟩ := h
    refine ⟨_, (pss_one (ps_ret (pe_ix (ix_k K) (xv 1) (pe_call G_pick (hr.mono (by omega)) (by rfl) T.g_pick T.F_pick.kp T.b_pick .nil pass0 (pa_cons (xv 0) (pa_cons (pe_callB (cr_lenK K) (by rfl) T.m_len (by decide +kernel) (pa_cons (xv 1) pa_nil)) pa_nil))) (fun _ _ => rfl)))), ?_⟩
    refine ⟨_, .inl (S.l hl), G, M, b, o, _, rfl, S, B, by omega, by omega, fun r o' H' r0 r1 B' S' => ?_⟩
    obtain ⟨v, hv, hm⟩ := atI_in r0 r1
    exact ⟨_, v, .inl (S'.l hl), hv, q v o' H' hm B' S'⟩

end
end K48
set_option Elab.async false
set_option linter.all false
set_option maxRecDepth 100000
set_option maxHeartbeats 4000000
namespace K48
open PySem PySem.Spec PyProof.Rows L2 XL
/-! ### data of a bounded size -/
theorem showAll : ∀ {xs : List PyData}, (∀ x ∈ xs, x.showable = true) → PyData.showableAll xs = true
  | [], _ => by simp only [PyData.showableAll]
  | x :: xs, h => by
    simp only [PyData.showableAll, h x (by simp), showAll (xs := xs) fun y hy => h y (List.mem_cons_of_mem _ hy), Bool.and_self]
theorem layAll : ∀ {xs : List PyData}, (∀ x ∈ xs, x.canLay0 = true) → PyData.canLayAll0 xs = true
  | [], _ => by simp only [PyData.canLayAll0]
  | x :: xs, h => by
    simp only [PyData.canLayAll0, h x (by simp), layAll (xs := xs) fun y hy => h y (List.mem_cons_of_mem _ hy), Bool.and_self]
theorem depthAll_le {n : Nat} : ∀ {xs : List PyData}, (∀ x ∈ xs, x.depth ≤ n) → PyData.depthAll xs ≤ n
  | [], _ => by simp only [PyData.depthAll]; omega
  | x :: xs, h => by
    have h1 := h x (by simp)
    have h2 := depthAll_le (xs := xs) fun y hy => h y (List.mem_cons_of_mem _ hy)
    simp only [PyData.depthAll]
    omega
theorem shortAll {n : Nat} : ∀ {xs : List PyData}, (∀ x ∈ xs, x.leavesShort n = true) → PyData.leavesShortAll n xs = true
  | [], _ => by simp only [PyData.leavesShortAll]
  | x :: xs, h => by
    simp only [PyData.leavesShortAll, h x (by simp), shortAll (xs := xs) fun y hy => h y (List.mem_cons_of_mem _ hy), Bool.and_self]
theorem weightAll_le {n : Nat} : ∀ {xs : List PyData}, (∀ x ∈ xs, x.weight ≤ n) → PyData.weightAll xs ≤ xs.length * (n + 1)
  | [], _ => by simp only [PyData.weightAll]; omega
  | x :: xs, h => by
    have h1 := h x (by simp)
    have h2 := weightAll_le (xs := xs) fun y hy => h y (List.mem_cons_of_mem _ hy)
    simp only [PyData.weightAll, List.length_cons, Nat.add_mul]
    omega
structure Fit (w dp : Nat) (d : PyData) : Prop where
  cl : d.canLay0 = true
  sh : d.showable = true
  ls : d.leavesShort 8 = true
  dp : d.depth ≤ dp
  wt : d.weight ≤ w
theorem Fit.mono {w dp w' dp' : Nat} {d : PyData} (h : Fit w dp d) (h1 : w ≤ w') (h2 : dp ≤ dp') : Fit w' dp' d := ⟨h.cl, h.sh, h.ls, Nat.le_trans h.dp h2, Nat.le_trans h.wt h1⟩
theorem Fit.shaped {w dp : Nat} {d : PyData} (h : Fit w dp d) (h2 : dp ≤ 64) : SeqAt.shaped d = true := by
  unfold SeqAt.shaped
  rw [h.cl, decide_eq_true (Nat.le_trans h.dp h2)]
  rfl
theorem Fit.self {w dp : Nat} {d : PyData} (h : Fit w dp d) : PyData.eqv d d = true := SeqAt.eqv_refl d h.cl
structure Shw (d : PyData) : Prop where
  sh : d.showable = true
  nd : d.hasDict = false
  dp : d.depth ≤ 64
  ln : d.shown.length ≤ sizeLine
theorem Fit.shw {w dp : Nat} {d : PyData} (h : Fit w dp d) (h1 : w ≤ 1048576) (h2 : dp ≤ 64) : Shw d :=
  ⟨h.sh, PyData.hasDict_of_canLay d h.cl, Nat.le_trans h.dp h2, PyData.shown_fits (B := 8) (by decide) (by decide) h.ls (Nat.le_trans h.wt (Nat.le_trans h1 (by decide)))⟩
theorem Fit.tup {w dp : Nat} {ds : List PyData} (hw : PyData.weightAll ds ≤ w) (h : ∀ d ∈ ds, ∃ w', Fit w' dp d) : Fit w (dp + 1) (.tuple ds) := by
  have dl := depthAll_le (n := dp) fun d hd => (h d hd).choose_spec.dp
  refine ⟨?_, ?_, ?_, ?_, ?_⟩
  · simp only [PyData.canLay0]; exact layAll fun d hd => (h d hd).choose_spec.cl
  · simp only [PyData.showable]; exact showAll fun d hd => (h d hd).choose_spec.sh
  · simp only [PyData.leavesShort]; exact shortAll fun d hd => (h d hd).choose_spec.ls
  · simp only [PyData.depth]; omega
  · simp only [PyData.weight]; exact hw
theorem Fit.lst {w dp : Nat} {ds : List PyData} (hw : PyData.weightAll ds ≤ w) (h : ∀ d ∈ ds, ∃ w', Fit w' dp d) : Fit w (dp + 1) (.list ds) := by
  have dl := depthAll_le (n := dp) fun d hd => (h d hd).choose_spec.dp
  refine ⟨?_, ?_, ?_, ?_, ?_⟩
  · simp only [PyData.canLay0]; exact layAll fun d hd => (h d hd).choose_spec.cl
  · simp only [PyData.showable]; exact showAll fun d hd => (h d hd).choose_spec.sh
  · simp only [PyData.leavesShort]; exact shortAll fun d hd => (h d hd).choose_spec.ls
  · simp only [PyData.depth]; omega
  · simp only [PyData.weight]; exact hw
theorem Fit.tups {w dp : Nat} {ds : List PyData} (h : ∀ d ∈ ds, Fit w dp d) : Fit (ds.length * (w + 1)) (dp + 1) (.tuple ds) := .tup (weightAll_le fun d hd => (h d hd).wt) fun d hd => ⟨w, h d hd⟩
theorem Fit.lsts {w dp : Nat} {ds : List PyData} (h : ∀ d ∈ ds, Fit w dp d) : Fit (ds.length * (w + 1)) (dp + 1) (.list ds) := .lst (weightAll_le fun d hd => (h d hd).wt) fun d hd => ⟨w, h d hd⟩
theorem Fit.str {z : Str} {w : Nat} (h : ∀ c ∈ z.cps.toList, c < 1114112) (l : z.length ≤ w) : Fit w 0 (.str z) := by
  refine ⟨?_, by simp only [PyData.showable], ?_, by simp only [PyData.depth]; omega, ?_⟩
  · simp only [PyData.canLay0]
    unfold PyData.strOk
    rw [← Array.all_toList, List.all_eq_true]
    exact fun c hc => decide_eq_true (h c hc)
  · simp only [PyData.leavesShort]
    rw [List.all_eq_true]
    exact fun c hc => decide_eq_true (Nat.lt_trans (h c hc) (by decide))
  · simp only [PyData.weight]
    exact l
theorem LS_low : ∀ c ∈ LS.cps.toList, c < 1114112 := by decide +kernel
theorem Fit.name {z : Str} {a b : Nat} (h : Lt a b z) : Fit b 0 (.str z) := .str (fun c hc => LS_low c (h.ch c hc)) h.hi
theorem dig_short : ∀ n : Nat, n < 10 → (PyData.shown (.int (n : Nat))).length ≤ 8 ∧ PyData.weight (.int (n : Nat)) ≤ 4 ∧ PyData.showable (.int (n : Nat)) = true := by decide +kernel
theorem Fit.digit {n : Int} (h0 : 0 ≤ n) (h1 : n ≤ 9) : Fit 4 0 (.int n) := by
  obtain ⟨k, rfl⟩ := Int.eq_ofNat_of_zero_le h0
  have z := dig_short k (by omega)
  refine ⟨by simp only [PyData.canLay0], z.2.2, ?_, by simp only [PyData.depth]; omega, z.2.1⟩
  simp only [PyData.leavesShort]
  exact decide_eq_true z.1
/-! ### data at a value -/
theorem dp_tup {K : PySem.W.Frag} {G : Hp} {v : V} {ds : List PyData} (h : Dp K G v (.tuple ds)) : ∃ a xs, v = .ref a ∧ SqT K G a xs ∧ DpAll K G xs ds := by
  cases h with
  | tup h1 h2 => exact ⟨_, _, rfl, h1, h2⟩
theorem dpa_cons {K : PySem.W.Frag} {G : Hp} {xs : List V} {d : PyData} {ds : List PyData} (h : DpAll K G xs (d :: ds)) : ∃ x r, xs = x :: r ∧ Dp K G x d ∧ DpAll K G r ds := by
  cases h with
  | cons h1 h2 => exact ⟨_, _, rfl, h1, h2⟩
theorem dpa_nil {K : PySem.W.Frag} {G : Hp} {xs : List V} (h : DpAll K G xs []) : xs = [] := by
  cases h
  rfl
theorem dp_str {K : PySem.W.Frag} {G : Hp} {v : V} {z : Str} (h : Dp K G v (.str z)) : v = .str z := by
  cases h
  rfl
theorem dpa_len {K : PySem.W.Frag} {G : Hp} : ∀ {xs : List V} {ds : List PyData}, DpAll K G xs ds → xs.length = ds.length
  | _, _, .nil => rfl
  | _, _, .cons _ h => congrArg (· + 1) (dpa_len h)
theorem dpa_get {K : PySem.W.Frag} {G : Hp} : ∀ {xs : List V} {ds : List PyData} {i : Nat} {x : V}, DpAll K G xs ds → xs[i]? = some x → ∃ d, ds[i]? = some d ∧ Dp K G x d
  | _, _, _, _, .nil, h => by simp at h
  | _, _, 0, _, .cons h1 _, h => by
    simp at h
    subst h
    exact ⟨_, rfl, h1⟩
  | _, _, i + 1, _, .cons _ h2, h => by
    rw [List.getElem?_cons_succ] at h
    obtain ⟨d, e1, e2⟩ := dpa_get h2 h
    exact ⟨d, by rw [List.getElem?_cons_succ]; exact e1, e2⟩
theorem dpa_app {K : PySem.W.Frag} {G : Hp} : ∀ {xs ys : List V} {ds es : List PyData}, DpAll K G xs ds → DpAll K G ys es → DpAll K G (xs ++ ys) (ds ++ es)
  | _, _, _, _, .nil, h => h
  | _, _, _, _, .cons h1 h2, h => .cons h1 (dpa_app h2 h)
theorem dpa_take {K : PySem.W.Frag} {G : Hp} : ∀ {xs : List V} {ds : List PyData} (n : Nat), DpAll K G xs ds → DpAll K G (xs.take n) (ds.take n)
  | _, _, 0, _ => .nil
  | _, _, _ + 1, .nil => .nil
  | _, _, n + 1, .cons h1 h2 => .cons h1 (dpa_take n h2)
theorem dpa_drop {K : PySem.W.Frag} {G : Hp} : ∀ {xs : List V} {ds : List PyData} (n : Nat), DpAll K G xs ds → DpAll K G (xs.drop n) (ds.drop n)
  | _, _, 0, h => h
  | _, _, _ + 1, .nil => .nil
  | _, _, n + 1, .cons _ h2 => dpa_drop n h2
theorem dpa_one {K : PySem.W.Frag} {G : Hp} {v : V} {d : PyData} (h : Dp K G v d) : DpAll K G [v] [d] := .cons h .nil
theorem Sep.mk {G H : Hp} {M : List (Addr × HO)} {p : Addr} {o : HO} (S : Sep G M H) (h : H p = none) : ∃ G', Same G G' ∧ Sep G' M (upd H p o) ∧ G' p = some o := ⟨_, S.grow h, S.newG h, upd_same⟩

section
variable {P : Program} {w : World} {K : PySem.W.Frag} {mg : Str → Option Value} {base : Heap}
/-! ### fields -/
theorem putF_ne {f g : Str} {v x : V} {r : List (Str × V)} (h : decide (g = f) = false := by decide +kernel) : putF f v ((g, x) :: r) = (g, x) :: putF f v r := by
  show (if g = f then _ else _) = _
  rw [if_neg (of_decide_eq_false h)]
theorem putF_eq {f : Str} {v x : V} {r : List (Str × V)} : putF f v ((f, x) :: r) = (f, v) :: r := by
  show (if f = f then _ else _) = _
  rw [if_pos rfl]
theorem putF_nil {f : Str} {v : V} : putF f v [] = [(f, v)] := rfl
theorem lk_ne {f g : Str} {x : V} {r : List (Str × V)} (h : (f == g) = false := by decide +kernel) : List.lookup f ((g, x) :: r) = List.lookup f r := by simp [List.lookup, h]
theorem lk_eq {f : Str} {x : V} {r : List (Str × V)} : List.lookup f ((f, x) :: r) = some x := by simp [List.lookup]
theorem Sep.keep {G H : Hp} {M : List (Addr × HO)} {p : Addr} {o : HO} (S : Sep G ((p, o) :: M) H) : ∃ G', Same G G' ∧ Sep G' M H ∧ G' p = some o := ⟨_, S.frzS, S.frz, upd_same⟩

/-! ### rows of the line -/
structure Rw where
  ow : V
  wd : Str
  who : Int
  tk : Int
  qu : Int
  an : Int
def Rw.tup (r : Rw) : List V := [r.ow, .str r.wd, .int r.who, .int r.tk, .int r.qu, .int r.an]
/-- the place of an owner: a tuple of tuples of numbers -/
def OwAt (G : Hp) (v : V) : Prop := ∃ (a : Addr) (us : List V), v = .ref a ∧ G a = some (.tup us) ∧ us.length ≤ 5 ∧ ∀ u ∈ us, ∃ (r : Addr) (s : List Int), u = .ref r ∧ G r = some (.tup (s.map V.int))
theorem OwAt.same {G G' : Hp} {v : V} (e : Same G G') (h : OwAt G v) : OwAt G' v := by
  obtain ⟨a, us, h1, h2, h3, h4⟩ := h
  exact ⟨a, us, h1, e _ _ h2, h3, fun u hu => let ⟨r, s, k1, k2⟩ := h4 u hu; ⟨r, s, k1, e _ _ k2⟩⟩
def RwAt (G : Hp) (v : V) (r : Rw) : Prop := ∃ a, v = .ref a ∧ G a = some (.tup r.tup) ∧ OwAt G r.ow
theorem RwAt.same {G G' : Hp} {v : V} {r : Rw} (e : Same G G') (h : RwAt G v r) : RwAt G' v r := by
  obtain ⟨a, h1, h2, h3⟩ := h
  exact ⟨a, h1, e _ _ h2, h3.same e⟩
theorem rws_same {G G' : Hp} {vs : List V} {rs : List Rw} (e : Same G G') (h : Paired (RwAt G) vs rs) : Paired (RwAt G') vs rs := prd_imp (fun _ _ k => k.same e) h
/-- what is answered in each edition -/
def StAt (G : Hp) (a : Addr) (zs : List (List Int)) : Prop := ∃ us, G a = some (.tup us) ∧ Paired (fun v (z : List Int) => ∃ r, v = .ref r ∧ G r = some (.tup (z.map V.int)) ∧ z.length = 4) us zs
theorem StAt.same {G G' : Hp} {a : Addr} {zs : List (List Int)} (e : Same G G') (h : StAt G a zs) : StAt G' a zs := by
  obtain ⟨us, h1, h2⟩ := h
  exact ⟨us, e _ _ h1, prd_imp (fun _ _ ⟨r, k1, k2, k3⟩ => ⟨r, k1, e _ _ k2, k3⟩) h2⟩
def enF (r : Rw) : List (Str × V) := [("owner", r.ow), ("word", .str r.wd), ("who", .int r.who), ("ticket", .int r.tk), ("question", .int r.qu), ("answer", .int r.an)]
theorem enF_ow {r : Rw} : (enF r).lookup ("owner" : Str) = some r.ow := by unfold enF; rw [lk_eq]
theorem enF_wd {r : Rw} : (enF r).lookup ("word" : Str) = some (.str r.wd) := by unfold enF; rw [lk_ne, lk_eq]
theorem enF_who {r : Rw} : (enF r).lookup ("who" : Str) = some (.int r.who) := by unfold enF; rw [lk_ne, lk_ne, lk_eq]
theorem enF_tk {r : Rw} : (enF r).lookup ("ticket" : Str) = some (.int r.tk) := by unfold enF; rw [lk_ne, lk_ne, lk_ne, lk_eq]
theorem enF_qu {r : Rw} : (enF r).lookup ("question" : Str) = some (.int r.qu) := by unfold enF; rw [lk_ne, lk_ne, lk_ne, lk_ne, lk_eq]
theorem enF_an {r : Rw} : (enF r).lookup ("answer" : Str) = some (.int r.an) := by unfold enF; rw [lk_ne, lk_ne, lk_ne, lk_ne, lk_ne, lk_eq]
def EnAt (G : Hp) (C : Addr) (v : V) (r : Rw) : Prop := ∃ e de, v = .ref e ∧ G e = some (.ins C de (enF r)) ∧ OwAt G r.ow
theorem EnAt.same {G G' : Hp} {C : Addr} {v : V} {r : Rw} (e : Same G G') (h : EnAt G C v r) : EnAt G' C v r := by
  obtain ⟨a, d, h1, h2, h3⟩ := h
  exact ⟨a, d, h1, e _ _ h2, h3.same e⟩
def lnF (sa : Addr) (rm : Int) (l : Addr) (tk pr : Int) : List (Str × V) := [("far", .ref sa), ("room", .int rm), ("waiting", .ref l), ("tickets", .int tk), ("present", .int pr)]
section
variable {sa l : Addr} {rm tk pr : Int}
theorem lnF_far : (lnF sa rm l tk pr).lookup ("far" : Str) = some (.ref sa) := by unfold lnF; rw [lk_eq]
theorem lnF_rm : (lnF sa rm l tk pr).lookup ("room" : Str) = some (.int rm) := by unfold lnF; rw [lk_ne, lk_eq]
theorem lnF_w : (lnF sa rm l tk pr).lookup ("waiting" : Str) = some (.ref l) := by unfold lnF; rw [lk_ne, lk_ne, lk_eq]
theorem lnF_tk : (lnF sa rm l tk pr).lookup ("tickets" : Str) = some (.int tk) := by unfold lnF; rw [lk_ne, lk_ne, lk_ne, lk_eq]
theorem lnF_pr : (lnF sa rm l tk pr).lookup ("present" : Str) = some (.int pr) := by unfold lnF; rw [lk_ne, lk_ne, lk_ne, lk_ne, lk_eq]
theorem put_tk {i : Int} : putF "tickets" (.int i) (lnF sa rm l tk pr) = lnF sa rm l i pr := by unfold lnF; rw [putF_ne, putF_ne, putF_ne, putF_eq]
theorem put_pr {i : Int} : putF "present" (.int i) (lnF sa rm l tk pr) = lnF sa rm l tk i := by unfold lnF; rw [putF_ne, putF_ne, putF_ne, putF_ne, putF_eq]
theorem put_w {p : Addr} : putF "waiting" (.ref p) (lnF sa rm l tk pr) = lnF sa rm p tk pr := by unfold lnF; rw [putF_ne, putF_ne, putF_eq]
end
/-! ### Entry -/
def spEn (C : Addr) : Sp := fun vs H Q _ => ∃ (G : Hp) (M : List (Addr × HO)) (x dx : Addr) (r : Rw), vs = .ref x :: r.tup ∧ Sep G ((x, .ins C dx []) :: M) H ∧ ∀ H', Sep G ((x, .ins C dx (enF r)) :: M) H' → Q .non H'
theorem ok_Entry_init (T : Top K mg w) {k : Nat} : FnOk P w K mg base CX0 (k + 1) T.a_Entry_init T.d_Entry_init ["self", "owner", "word", "who", "ticket", "question", "answer"] (spEn T.C_Entry) := by
  refine T.F_Entry_init.ok sc_Entry_init (fun vs H Q E h => ?_) (fun cdv A outer s H vs Q E hr h => ?_)
  · obtain ⟨G, M, x, dx, r, rfl, _⟩ := h
    rfl
  · obtain ⟨G, M, x, dx, r, rfl, S, q⟩ := h
    refine ⟨_, (pss_cons (ps_fld (xv 0) (xv 1) rfl)
      (pss_cons (ps_fld (xv 0) (xv 2) rfl)
      (pss_cons (ps_fld (xv 0) (xv 3) rfl)
      (pss_cons (ps_fld (xv 0) (xv 4) rfl)
      (pss_cons (ps_fld (xv 0) (xv 5) rfl)
      (pss_one (ps_fld (xv 0) (xv 6) rfl))))))), ?_⟩
    refine ⟨x, T.C_Entry, dx, [], rfl, S.hd, T.cl_Entry, T.na_Entry_owner, by decide, ?_⟩
    rw [putF_nil]
    have S1 := S.set (o' := .ins T.C_Entry dx [("owner", r.ow)])
    refine ⟨x, T.C_Entry, dx, _, rfl, S1.hd, T.cl_Entry, T.na_Entry_word, by simp, ?_⟩
    rw [putF_ne, putF_nil]
    have S2 := S1.set (o' := .ins T.C_Entry dx [("owner", r.ow), ("word", .str r.wd)])
    refine ⟨x, T.C_Entry, dx, _, rfl, S2.hd, T.cl_Entry, T.na_Entry_who, by simp, ?_⟩
    rw [putF_ne, putF_ne, putF_nil]
    have S3 := S2.set (o' := .ins T.C_Entry dx [("owner", r.ow), ("word", .str r.wd), ("who", .int r.who)])
    refine ⟨x, T.C_Entry, dx, _, rfl, S3.hd, T.cl_Entry, T.na_Entry_ticket, by simp, ?_⟩
    rw [putF_ne, putF_ne, putF_ne, putF_nil]
    have S4 := S3.set (o' := .ins T.C_Entry dx [("owner", r.ow), ("word", .str r.wd), ("who", .int r.who), ("ticket", .int r.tk)])
    refine ⟨x, T.C_Entry, dx, _, rfl, S4.hd, T.cl_Entry, T.na_Entry_question, by simp, ?_⟩
    rw [putF_ne, putF_ne, putF_ne, putF_ne, putF_nil]
    have S5 := S4.set (o' := .ins T.C_Entry dx [("owner", r.ow), ("word", .str r.wd), ("who", .int r.who), ("ticket", .int r.tk), ("question", .int r.qu)])
    refine ⟨x, T.C_Entry, dx, _, rfl, S5.hd, T.cl_Entry, T.na_Entry_answer, by simp, ?_⟩
    rw [putF_ne, putF_ne, putF_ne, putF_ne, putF_ne, putF_nil]
    exact q _ S5.set

/-! ### Line -/
def spLn (C : Addr) : Sp := fun vs H Q _ => ∃ (G : Hp) (M : List (Addr × HO)) (x dx sa : Addr) (rm : Int) (us : List V), vs = [.ref x, .ref sa, .int rm] ∧ Sep G ((x, .ins C dx []) :: M) H ∧ G sa = some (.tup us) ∧
  ∀ l H', Sep G ((l, .lst []) :: (x, .ins C dx (lnF sa rm l 0 0)) :: M) H' → Q .non H'
theorem ok_Line_init (T : Top K mg w) {k : Nat} : FnOk P w K mg base CX0 (k + 1) T.a_Line_init T.d_Line_init ["self", "far", "room"] (spLn T.C_Line) := by
  refine T.F_Line_init.ok sc_Line_init (fun vs H Q E h => ?_) (fun cdv A outer s H vs Q E hr h => ?_)
  · obtain ⟨G, M, x, dx, sa, rm, us, rfl, _⟩ := h
    rfl
  · obtain ⟨G, M, x, dx, sa, rm, us, rfl, S, hs, q⟩ := h
    refine ⟨_, (pss_cons (ps_fld (xv 0) (pe_callTy (call_tupleK K) (by rfl) T.m_tuple (by decide +kernel) (pa_cons (xv 1) pa_nil)) rfl)
      (pss_cons (ps_fld (xv 0) (xv 2) rfl)
      (pss_cons (ps_fld (xv 0) (pe_lst pa_nil) rfl)
      (pss_cons (ps_fld (xv 0) pe_int rfl)
      (pss_one (ps_fld (xv 0) pe_int rfl)))))), ?_⟩
    refine ⟨sa, us, rfl, .inr ⟨SqT.of (S.st hs), x, T.C_Line, dx, [], rfl, S.hd, T.cl_Line, T.na_Line_far, by decide, ?_⟩⟩
    rw [putF_nil]
    have S1 := S.set (o' := .ins T.C_Line dx [("far", .ref sa)])
    refine ⟨x, T.C_Line, dx, _, rfl, S1.hd, T.cl_Line, T.na_Line_room, by simp, ?_⟩
    rw [putF_ne, putF_nil]
    have S2 := S1.set (o' := .ins T.C_Line dx [("far", .ref sa), ("room", .int rm)])
    refine ⟨sz, fun l nl => ?_⟩
    have S3 := (S2.new (o := .lst []) nl).sw
    refine ⟨x, T.C_Line, dx, _, rfl, S3.hd, T.cl_Line, T.na_Line_waiting, by simp, ?_⟩
    rw [putF_ne, putF_ne, putF_nil]
    have S4 := S3.set (o' := .ins T.C_Line dx [("far", .ref sa), ("room", .int rm), ("waiting", .ref l)])
    refine ⟨x, T.C_Line, dx, _, rfl, S4.hd, T.cl_Line, T.na_Line_tickets, by simp, ?_⟩
    rw [putF_ne, putF_ne, putF_ne, putF_nil]
    have S5 := S4.set (o' := .ins T.C_Line dx [("far", .ref sa), ("room", .int rm), ("waiting", .ref l), ("tickets", .int 0)])
    refine ⟨x, T.C_Line, dx, _, rfl, S5.hd, T.cl_Line, T.na_Line_present, by simp, ?_⟩
    rw [putF_ne, putF_ne, putF_ne, putF_ne, putF_nil]
    exact q l _ S5.set.sw

end
end K48
set_option Elab.async false
set_option linter.all false
set_option maxRecDepth 100000
set_option maxHeartbeats 4000000
namespace K48
open PySem PySem.Spec PyProof.Rows L2 XL
section
variable {P : Program} {w : World} {K : PySem.W.Frag} {mg : Str → Option Value} {base : Heap}
/-! ### fences -/
def ltA (_ : Rw) (_ _ _ : Int) : Bool := true
def ltO (r : Rw) (wh _ _ : Int) : Bool := decide (r.who = wh)
def ltS (r : Rw) (_ qu _ : Int) : Bool := decide (r.qu = qu)
def ltB (r : Rw) (wh qu tk : Int) : Bool := ltO r wh qu tk && ltS r wh qu tk
def ltL (r : Rw) (wh qu tk : Int) : Bool := decide (r.who = wh) && decide (r.qu = qu) && decide (r.tk = tk)
def spLets (C Ce : Addr) (f : Rw → Int → Int → Int → Bool) : Sp := fun vs H Q _ => ∃ (x dx e de : Addr) (r : Rw) (wh qu tk : Int), vs = [.ref x, .ref e, .int wh, .int qu, .int tk] ∧ H x = some (.ins C dx []) ∧ H e = some (.ins Ce de (enF r)) ∧ Q (.bl (f r wh qu tk)) H
theorem ok_Fence_lets (T : Top K mg w) {k : Nat} : FnOk P w K mg base CX0 (k + 1) T.a_Fence_lets T.d_Fence_lets ["self", "entry", "who", "question", "ticket"] (fun vs H Q E => ∃ C, spLets C T.C_Entry ltA vs H Q E) := by
  refine T.F_Fence_lets.ok sc_Fence_lets (fun vs H Q E h => ?_) (fun cdv A outer s H vs Q E hr h => ?_)
  · obtain ⟨C, x, dx, e, de, r, wh, qu, tk, rfl, _⟩ := h
    rfl
  · obtain ⟨C, x, dx, e, de, r, wh, qu, tk, rfl, _, _, q⟩ := h
    refine ⟨_, (pss_one (ps_ret pe_bl)), ?_⟩
    exact q
theorem ok_Same_lets (T : Top K mg w) (pf : PySem.XExc.PF P T.x_file) {k : Nat} (G_Fence_lets : FnOk P w K mg base CX0 k T.a_Fence_lets T.d_Fence_lets ["self", "entry", "who", "question", "ticket"] (fun vs H Q E => ∃ C, spLets C T.C_Entry ltA vs H Q E)) :
    FnOk P w K mg base CX0 (k + 1) T.a_Same_lets T.d_Same_lets ["self", "entry", "who", "question", "ticket"] (spLets T.C_Same T.C_Entry ltS) := by
  refine fn_sup T.F_Same_lets sc_Same_lets (fun vs H Q E h => ?_) (fun cda cc hI A outer s H vs Q E hr h => ?_)
  · obtain ⟨x, dx, e, de, r, wh, qu, tk, rfl, _⟩ := h
    rfl
  · obtain ⟨x, dx, e, de, r, wh, qu, tk, rfl, hx, he, q⟩ := h
    refine ⟨_, (pea_and (pe_cmpR (op_eqLK K hr.u190) (pe_fldK K (xv 1)) (xv 3) (nomark _)) (pea_sup (E := E0) hI sc_Same_lets rfl rfl T.su_Same_lets_Same G_Fence_lets T.b_Fence_lets (hr.mono (by omega)) pf T.m_super rfl (pa_cons (xv 1) (pa_cons (xv 2) (pa_cons (xv 3) (pa_cons (xv 4) pa_nil)))))), ?_⟩
    refine ⟨e, T.C_Entry, de, _, _, rfl, he, T.cl_Entry, T.na_Entry_question, enF_qu, _, rfl, fun e1 => ?_, fun e1 => ?_⟩
    · refine ⟨x, dx, [], rfl, hx, T.C_Same, x, dx, e, de, r, wh, qu, tk, rfl, hx, he, ?_⟩
      rw [show ltS r wh qu tk = true from e1] at q
      exact q
    · rw [show ltS r wh qu tk = false from e1] at q
      exact q
theorem ok_Same_letsB (T : Top K mg w) (pf : PySem.XExc.PF P T.x_file) {k : Nat} (G_Fence_lets : FnOk P w K mg base CX0 k T.a_Fence_lets T.d_Fence_lets ["self", "entry", "who", "question", "ticket"] (fun vs H Q E => ∃ C, spLets C T.C_Entry ltA vs H Q E)) :
    FnOk P w K mg base CX0 (k + 1) T.a_Same_lets T.d_Same_lets ["self", "entry", "who", "question", "ticket"] (spLets T.C_Both T.C_Entry ltS) := by
  refine fn_sup T.F_Same_lets sc_Same_lets (fun vs H Q E h => ?_) (fun cda cc hI A outer s H vs Q E hr h => ?_)
  · obtain ⟨x, dx, e, de, r, wh, qu, tk, rfl, _⟩ := h
    rfl
  · obtain ⟨x, dx, e, de, r, wh, qu, tk, rfl, hx, he, q⟩ := h
    refine ⟨_, (pea_and (pe_cmpR (op_eqLK K hr.u190) (pe_fldK K (xv 1)) (xv 3) (nomark _)) (pea_sup (E := E0) hI sc_Same_lets rfl rfl T.su_Same_lets_Both G_Fence_lets T.b_Fence_lets (hr.mono (by omega)) pf T.m_super rfl (pa_cons (xv 1) (pa_cons (xv 2) (pa_cons (xv 3) (pa_cons (xv 4) pa_nil)))))), ?_⟩
    refine ⟨e, T.C_Entry, de, _, _, rfl, he, T.cl_Entry, T.na_Entry_question, enF_qu, _, rfl, fun e1 => ?_, fun e1 => ?_⟩
    · refine ⟨x, dx, [], rfl, hx, T.C_Both, x, dx, e, de, r, wh, qu, tk, rfl, hx, he, ?_⟩
      rw [show ltS r wh qu tk = true from e1] at q
      exact q
    · rw [show ltS r wh qu tk = false from e1] at q
      exact q
theorem ok_Own_lets (T : Top K mg w) (pf : PySem.XExc.PF P T.x_file) {k : Nat} (G_Fence_lets : FnOk P w K mg base CX0 k T.a_Fence_lets T.d_Fence_lets ["self", "entry", "who", "question", "ticket"] (fun vs H Q E => ∃ C, spLets C T.C_Entry ltA vs H Q E)) :
    FnOk P w K mg base CX0 (k + 1) T.a_Own_lets T.d_Own_lets ["self", "entry", "who", "question", "ticket"] (spLets T.C_Own T.C_Entry ltO) := by
  refine fn_sup T.F_Own_lets sc_Own_lets (fun vs H Q E h => ?_) (fun cda cc hI A outer s H vs Q E hr h => ?_)
  · obtain ⟨x, dx, e, de, r, wh, qu, tk, rfl, _⟩ := h
    rfl
  · obtain ⟨x, dx, e, de, r, wh, qu, tk, rfl, hx, he, q⟩ := h
    refine ⟨_, (pea_and (pe_cmpR (op_eqLK K hr.u190) (pe_fldK K (xv 1)) (xv 2) (nomark _)) (pea_sup (E := E0) hI sc_Own_lets rfl rfl T.su_Own_lets_Own G_Fence_lets T.b_Fence_lets (hr.mono (by omega)) pf T.m_super rfl (pa_cons (xv 1) (pa_cons (xv 2) (pa_cons (xv 3) (pa_cons (xv 4) pa_nil)))))), ?_⟩
    refine ⟨e, T.C_Entry, de, _, _, rfl, he, T.cl_Entry, T.na_Entry_who, enF_who, _, rfl, fun e1 => ?_, fun e1 => ?_⟩
    · refine ⟨x, dx, [], rfl, hx, T.C_Own, x, dx, e, de, r, wh, qu, tk, rfl, hx, he, ?_⟩
      rw [show ltO r wh qu tk = true from e1] at q
      exact q
    · rw [show ltO r wh qu tk = false from e1] at q
      exact q
theorem ok_Own_letsB (T : Top K mg w) (pf : PySem.XExc.PF P T.x_file) {k : Nat} (G_Same_lets : FnOk P w K mg base CX0 k T.a_Same_lets T.d_Same_lets ["self", "entry", "who", "question", "ticket"] (spLets T.C_Both T.C_Entry ltS)) :
    FnOk P w K mg base CX0 (k + 1) T.a_Own_lets T.d_Own_lets ["self", "entry", "who", "question", "ticket"] (spLets T.C_Both T.C_Entry ltB) := by
  refine fn_sup T.F_Own_lets sc_Own_lets (fun vs H Q E h => ?_) (fun cda cc hI A outer s H vs Q E hr h => ?_)
  · obtain ⟨x, dx, e, de, r, wh, qu, tk, rfl, _⟩ := h
    rfl
  · obtain ⟨x, dx, e, de, r, wh, qu, tk, rfl, hx, he, q⟩ := h
    refine ⟨_, (pea_and (pe_cmpR (op_eqLK K hr.u190) (pe_fldK K (xv 1)) (xv 2) (nomark _)) (pea_sup (E := E0) hI sc_Own_lets rfl rfl T.su_Own_lets_Both G_Same_lets T.b_Same_lets (hr.mono (by omega)) pf T.m_super rfl (pa_cons (xv 1) (pa_cons (xv 2) (pa_cons (xv 3) (pa_cons (xv 4) pa_nil)))))), ?_⟩
    refine ⟨e, T.C_Entry, de, _, _, rfl, he, T.cl_Entry, T.na_Entry_who, enF_who, _, rfl, fun e1 => ?_, fun e1 => ?_⟩
    · refine ⟨x, dx, [], rfl, hx, x, dx, e, de, r, wh, qu, tk, rfl, hx, he, ?_⟩
      rw [show ltB r wh qu tk = ltS r wh qu tk from by unfold ltB; rw [show ltO r wh qu tk = true from e1, Bool.true_and]] at q
      exact q
    · rw [show ltB r wh qu tk = false from by unfold ltB; rw [show ltO r wh qu tk = false from e1, Bool.false_and]] at q
      exact q
theorem ok_Both_lets (T : Top K mg w) (pf : PySem.XExc.PF P T.x_file) {k : Nat} (G_Own_lets : FnOk P w K mg base CX0 k T.a_Own_lets T.d_Own_lets ["self", "entry", "who", "question", "ticket"] (spLets T.C_Both T.C_Entry ltB)) :
    FnOk P w K mg base CX0 (k + 1) T.a_Both_lets T.d_Both_lets ["self", "entry", "who", "question", "ticket"] (spLets T.C_Both T.C_Entry ltB) := by
  refine fn_sup T.F_Both_lets sc_Both_lets (fun vs H Q E h => ?_) (fun cda cc hI A outer s H vs Q E hr h => ?_)
  · obtain ⟨x, dx, e, de, r, wh, qu, tk, rfl, _⟩ := h
    rfl
  · obtain ⟨x, dx, e, de, r, wh, qu, tk, rfl, hx, he, q⟩ := h
    refine ⟨_, (pea_sup (E := E0) hI sc_Both_lets rfl rfl T.su_Both_lets_Both G_Own_lets T.b_Own_lets (hr.mono (by omega)) pf T.m_super rfl (pa_cons (xv 1) (pa_cons (xv 2) (pa_cons (xv 3) (pa_cons (xv 4) pa_nil))))), ?_⟩
    exact ⟨x, dx, [], rfl, hx, x, dx, e, de, r, wh, qu, tk, rfl, hx, he, q⟩
theorem ok_Last_lets (T : Top K mg w) {k : Nat} : FnOk P w K mg base CX0 (k + 1) T.a_Last_lets T.d_Last_lets ["self", "entry", "who", "question", "ticket"] (spLets T.C_Last T.C_Entry ltL) := by
  refine T.F_Last_lets.ok sc_Last_lets (fun vs H Q E h => ?_) (fun cdv A outer s H vs Q E hr h => ?_)
  · obtain ⟨x, dx, e, de, r, wh, qu, tk, rfl, _⟩ := h
    rfl
  · obtain ⟨x, dx, e, de, r, wh, qu, tk, rfl, hx, he, q⟩ := h
    refine ⟨_, (pss_one (ps_ret (xe_and (pe_cmpR (op_eqLK K hr.u190) (pe_fldK K (xv 1)) (xv 2) (nomark _)) (xe_and (pe_cmpR (op_eqLK K hr.u190) (pe_fldK K (xv 1)) (xv 3) (nomark _)) (pe_one (pe_cmpR (op_eqLK K hr.u190) (pe_fldK K (xv 1)) (xv 4) (nomark _))))))), ?_⟩
    refine ⟨e, T.C_Entry, de, _, _, rfl, he, T.cl_Entry, T.na_Entry_who, enF_who, fun e1 => ?_, fun e1 => ?_⟩
    · refine ⟨e, T.C_Entry, de, _, _, rfl, he, T.cl_Entry, T.na_Entry_question, enF_qu, fun e2 => ?_, fun e2 => ?_⟩
      · refine ⟨e, T.C_Entry, de, _, _, rfl, he, T.cl_Entry, T.na_Entry_ticket, enF_tk, ?_⟩
        rw [show ltL r wh qu tk = decide (r.tk = tk) from by unfold ltL; rw [show decide (r.who = wh) = true from e1, show decide (r.qu = qu) = true from e2]; rfl] at q
        exact q
      · rw [show ltL r wh qu tk = false from by unfold ltL; rw [show decide (r.who = wh) = true from e1, show decide (r.qu = qu) = false from e2]; rfl] at q
        exact q
    · rw [show ltL r wh qu tk = false from by unfold ltL; rw [show decide (r.who = wh) = false from e1]; rfl] at q
      exact q

end
end K48
set_option Elab.async false
set_option linter.all false
set_option maxRecDepth 100000
set_option maxHeartbeats 4000000
namespace K48
open PySem PySem.Spec PyProof.Rows L2 XL
section
variable {P : Program} {w : World} {K : PySem.W.Frag} {mg : Str → Option Value} {base : Heap}
/-! ### one fence at most another -/
inductive Kd where
  | a
  | o
  | s
  | b
  | l
def Kd.f : Kd → Rw → Int → Int → Int → Bool
  | .a => ltA
  | .o => ltO
  | .s => ltS
  | .b => ltB
  | .l => ltL
def Kd.wd : Kd → Str
  | .a => "any"
  | .o => "own"
  | .s => "same"
  | .b => "both"
  | .l => "last"
def kc (T : Top K mg w) : Kd → Addr
  | .a => T.C_Fence
  | .o => T.C_Own
  | .s => T.C_Same
  | .b => T.C_Both
  | .l => T.C_Last
def FnAt (c : Kd → Addr) (G : Hp) (v : V) (k : Kd) : Prop := ∃ x dx, v = .ref x ∧ G x = some (.ins (c k) dx [])
theorem FnAt.same {c : Kd → Addr} {G G' : Hp} {v : V} {k : Kd} (e : Same G G') (h : FnAt c G v k) : FnAt c G' v k := let ⟨x, dx, h1, h2⟩ := h; ⟨x, dx, h1, e _ _ h2⟩
def r0 (ow : V) : Rw := ⟨ow, "ask", 0, 0, 0, 1⟩
theorem f_r0 (k : Kd) (ow : V) (a b c : Int) : k.f (r0 ow) a b c = k.f (r0 .non) a b c := by cases k <;> rfl
/-- the call of a fence, whatever its class -/
theorem lets5 (T : Top K mg w) {tv : TE} {ta : TA} {σ : L2.St} {H : Hp} {Q : VK} {x dx e de : Addr} {k : Kd} {r : Rw} {wh qu tk : Int} (htv : ∀ R : VK, R (.ref x) H → tv σ H R) (hta : ∀ R : List V → Hp → Prop, R [.ref e, .int wh, .int qu, .int tk] H → ta σ H R)
    (hx : H x = some (.ins (kc T k) dx [])) (he : H e = some (.ins T.C_Entry de (enF r))) (q : Q (.bl (k.f r wh qu tk)) H) :
    tMeth T.C_Fence "lets" (fun vs H Q E => ∃ C, spLets C T.C_Entry ltA vs H Q E) [] E0 tv ta σ H Q ∨ tMeth T.C_Own "lets" (spLets T.C_Own T.C_Entry ltO) [] E0 tv ta σ H Q ∨ tMeth T.C_Same "lets" (spLets T.C_Same T.C_Entry ltS) [] E0 tv ta σ H Q ∨
      tMeth T.C_Both "lets" (spLets T.C_Both T.C_Entry ltB) [] E0 tv ta σ H Q ∨ tMeth T.C_Last "lets" (spLets T.C_Last T.C_Entry ltL) [] E0 tv ta σ H Q := by
  cases k with
  | a => exact .inl (htv _ ⟨x, dx, [], rfl, hx, rfl, hta _ ⟨T.C_Fence, x, dx, e, de, r, wh, qu, tk, rfl, hx, he, q⟩⟩)
  | o => exact .inr (.inl (htv _ ⟨x, dx, [], rfl, hx, rfl, hta _ ⟨x, dx, e, de, r, wh, qu, tk, rfl, hx, he, q⟩⟩))
  | s => exact .inr (.inr (.inl (htv _ ⟨x, dx, [], rfl, hx, rfl, hta _ ⟨x, dx, e, de, r, wh, qu, tk, rfl, hx, he, q⟩⟩)))
  | b => exact .inr (.inr (.inr (.inl (htv _ ⟨x, dx, [], rfl, hx, rfl, hta _ ⟨x, dx, e, de, r, wh, qu, tk, rfl, hx, he, q⟩⟩))))
  | l => exact .inr (.inr (.inr (.inr (htv _ ⟨x, dx, [], rfl, hx, rfl, hta _ ⟨x, dx, e, de, r, wh, qu, tk, rfl, hx, he, q⟩⟩))))
theorem ints_get {l : List Int} {i : Nat} {x : V} (h : (l.map V.int)[i]? = some x) : ∃ n, l[i]? = some n ∧ x = .int n := by
  rw [List.getElem?_map] at h
  obtain ⟨n, h1, h2⟩ := Option.map_eq_some_iff.mp h
  exact ⟨n, h1, h2.symm⟩

def leQ (k1 k2 : Kd) (wh qu tk : Int) : Bool := !(k1.f (r0 .non) wh qu tk && !k2.f (r0 .non) wh qu tk)
def le2 (k1 k2 : Kd) (wh qu : Int) : Bool := ([0, 1] : List Int).all (leQ k1 k2 wh qu)
def le1 (k1 k2 : Kd) (wh : Int) : Bool := ([0, 1] : List Int).all (le2 k1 k2 wh)
def leK (k1 k2 : Kd) : Bool := ([0, 1] : List Int).all (le1 k1 k2)
theorem all_no {α : Type} {p : α → Bool} {l : List α} {x : α} (h : x ∈ l) (e : p x = false) : l.all p = false := by
  rw [List.all_eq_false]
  exact ⟨x, h, by rw [e]; decide⟩
theorem all_take {α : Type} {p : α → Bool} {l : List α} {i : Nat} {x : α} (h : (l.take i).all p = true) (hx : l[i]? = some x) (e : p x = true) : (l.take (i + 1)).all p = true := by
  rw [List.take_add_one, hx, List.all_append, h]
  show (true && (p x && true)) = true
  rw [e]
  rfl
def spLe (c : Kd → Addr) : Sp := fun vs H Q _ => ∃ (G : Hp) (M : List (Addr × HO)) (v1 v2 : V) (k1 k2 : Kd), vs = [v1, v2] ∧ Sep G M H ∧ FnAt c G v1 k1 ∧ FnAt c G v2 k2 ∧ ∀ G' H', Same G G' → Sep G' M H' → Q (.bl (leK k1 k2)) H'
theorem ok_Fence_le (T : Top K mg w) {k : Nat} (G_Entry_init : FnOk P w K mg base CX0 k T.a_Entry_init T.d_Entry_init ["self", "owner", "word", "who", "ticket", "question", "answer"] (spEn T.C_Entry))
    (G_Fence_lets : FnOk P w K mg base CX0 k T.a_Fence_lets T.d_Fence_lets ["self", "entry", "who", "question", "ticket"] (fun vs H Q E => ∃ C, spLets C T.C_Entry ltA vs H Q E)) (G_Own_lets : FnOk P w K mg base CX0 k T.a_Own_lets T.d_Own_lets ["self", "entry", "who", "question", "ticket"] (spLets T.C_Own T.C_Entry ltO))
    (G_Same_lets : FnOk P w K mg base CX0 k T.a_Same_lets T.d_Same_lets ["self", "entry", "who", "question", "ticket"] (spLets T.C_Same T.C_Entry ltS)) (G_Both_lets : FnOk P w K mg base CX0 k T.a_Both_lets T.d_Both_lets ["self", "entry", "who", "question", "ticket"] (spLets T.C_Both T.C_Entry ltB)) (G_Last_lets : FnOk P w K mg base CX0 k T.a_Last_lets T.d_Last_lets ["self", "entry", "who", "question", "ticket"] (spLets T.C_Last T.C_Entry ltL)) :
    FnOk P w K mg base CX0 (k + 2) T.a_Fence_le T.d_Fence_le ["self", "other"] (spLe (kc T)) := by
  refine T.F_Fence_le.ok sc_Fence_le (fun vs H Q E h => ?_) (fun cdv A outer s H vs Q E hr h => ?_)
  · obtain ⟨G, M, v1, v2, k1, k2, rfl, _⟩ := h
    rfl
  · obtain ⟨G, M, v1, v2, k1, k2, rfl, S, hf1, hf2, q⟩ := h
    refine ⟨_, (pss_cons (ps_set (i := 2) sc_Fence_le.nd rfl (.inl rfl) (pe_make T.mk_Entry G_Entry_init (hr.mono (by omega)) (by rfl) T.g_Entry T.b_Entry_init .nil pass0 (pa_cons (pe_tup pa_nil) (pa_cons pe_str (pa_cons pe_int (pa_cons pe_int (pa_cons pe_int (pa_cons pe_int pa_nil))))))))
      (pss_cons (ps_for PassesOwn.never rfl (pi_tupK K (pe_tup (pa_cons pe_int (pa_cons pe_int pa_nil)))) (pg_name (i := 3) sc_Fence_le.nd rfl (.inl rfl))
      (pss_one (ps_for PassesOwn.never rfl (pi_tupK K (pe_tup (pa_cons pe_int (pa_cons pe_int pa_nil)))) (pg_name (i := 4) sc_Fence_le.nd rfl (.inl rfl))
      (pss_one (ps_for PassesOwn.never rfl (pi_tupK K (pe_tup (pa_cons pe_int (pa_cons pe_int pa_nil)))) (pg_name (i := 5) sc_Fence_le.nd rfl (.inl rfl))
      (pss_cons (ps_set (i := 6) sc_Fence_le.nd rfl (.inl rfl) (pe_or (pe_meth (xv 0) T.cl_Fence T.me_Fence_lets G_Fence_lets (hr.mono (by omega)) T.b_Fence_lets .nil pass0 (pa_cons (xv 2) (pa_cons (xv 3) (pa_cons (xv 4) (pa_cons (xv 5) pa_nil))))) (pe_or (pe_meth (xv 0) T.cl_Own T.me_Own_lets G_Own_lets (hr.mono (by omega)) T.b_Own_lets .nil pass0 (pa_cons (xv 2) (pa_cons (xv 3) (pa_cons (xv 4) (pa_cons (xv 5) pa_nil))))) (pe_or (pe_meth (xv 0) T.cl_Same T.me_Same_lets G_Same_lets (hr.mono (by omega)) T.b_Same_lets .nil pass0 (pa_cons (xv 2) (pa_cons (xv 3) (pa_cons (xv 4) (pa_cons (xv 5) pa_nil))))) (pe_or (pe_meth (xv 0) T.cl_Both T.me_Both_lets G_Both_lets (hr.mono (by omega)) T.b_Both_lets .nil pass0 (pa_cons (xv 2) (pa_cons (xv 3) (pa_cons (xv 4) (pa_cons (xv 5) pa_nil))))) (pe_meth (xv 0) T.cl_Last T.me_Last_lets G_Last_lets (hr.mono (by omega)) T.b_Last_lets .nil pass0 (pa_cons (xv 2) (pa_cons (xv 3) (pa_cons (xv 4) (pa_cons (xv 5) pa_nil))))))))))
      (pss_one (xs_if (PW.pt (xw_and (xt_truK K (xv 6)) (pw_and1 (pt_not (xt_truK K (pe_or (pe_meth (xv 1) T.cl_Fence T.me_Fence_lets G_Fence_lets (hr.mono (by omega)) T.b_Fence_lets .nil pass0 (pa_cons (xv 2) (pa_cons (xv 3) (pa_cons (xv 4) (pa_cons (xv 5) pa_nil))))) (pe_or (pe_meth (xv 1) T.cl_Own T.me_Own_lets G_Own_lets (hr.mono (by omega)) T.b_Own_lets .nil pass0 (pa_cons (xv 2) (pa_cons (xv 3) (pa_cons (xv 4) (pa_cons (xv 5) pa_nil))))) (pe_or (pe_meth (xv 1) T.cl_Same T.me_Same_lets G_Same_lets (hr.mono (by omega)) T.b_Same_lets .nil pass0 (pa_cons (xv 2) (pa_cons (xv 3) (pa_cons (xv 4) (pa_cons (xv 5) pa_nil))))) (pe_or (pe_meth (xv 1) T.cl_Both T.me_Both_lets G_Both_lets (hr.mono (by omega)) T.b_Both_lets .nil pass0 (pa_cons (xv 2) (pa_cons (xv 3) (pa_cons (xv 4) (pa_cons (xv 5) pa_nil))))) (pe_meth (xv 1) T.cl_Last T.me_Last_lets G_Last_lets (hr.mono (by omega)) T.b_Last_lets .nil pass0 (pa_cons (xv 2) (pa_cons (xv 3) (pa_cons (xv 4) (pa_cons (xv 5) pa_nil))))))))))))))
      (pss_one (ps_ret pe_bl))
      pss_nil))))))))
      (pss_one (ps_ret pe_bl)))), ?_⟩
    refine ⟨sz, fun t nt => ?_⟩
    obtain ⟨G1, s1, S1, h1⟩ := Sep.mk (o := .tup []) S nt
    refine fun e de ne nde hne => ?_
    have S2 := S1.new2 (o := .ins T.C_Entry de []) (u := .own e) ne nde hne
    refine ⟨G1, _, e, de, r0 (.ref t), rfl, S2, fun H3 S3 => ⟨rfl, ?_⟩⟩
    obtain ⟨G2, s2, S4, h2⟩ := Sep.keep S3
    have S5 := S4.drop
    have s02 := s1.trans s2
    obtain ⟨x1, dx1, rfl, hx1⟩ := hf1.same s02
    obtain ⟨x2, dx2, rfl, hx2⟩ := hf2.same s02
    refine ⟨sz, fun t1 nt1 => ?_⟩
    obtain ⟨G3, s3, S6, h3⟩ := Sep.mk (o := .tup [.int 0, .int 1]) S5 nt1
    refine ⟨t1, rfl, ⟨_, SqT.of (S6.st h3)⟩, for_tup (xs := [V.int 0, .int 1]) (fun i σ H' => ∃ (y3 y4 y5 y6 : Option V) (G' : Hp), σ = [some (.ref x1), some (.ref x2), some (.ref e), y3, y4, y5, y6] ∧ (([0, 1] : List Int).take i).all (le1 k1 k2) = true ∧ Same G3 G' ∧ Sep G' M H')
      ⟨_, _, _, _, G3, rfl, rfl, Same.refl _, S6⟩ (fun i σ H' _ h => ?_) (fun i y σ H' hy h => ?_) (fun σ H' h => ?_)⟩
    · obtain ⟨_, _, _, _, G', _, _, s', S'⟩ := h
      exact SqT.of (S'.st (s' _ _ h3))
    · obtain ⟨y3, y4, y5, y6, G4, rfl, al1, s4, S7⟩ := h
      obtain ⟨wh, hw, rfl⟩ := ints_get (l := [0, 1]) hy
      refine ⟨sz, fun t2 nt2 => ?_⟩
      obtain ⟨G5, s5, S8, h5⟩ := Sep.mk (o := .tup [.int 0, .int 1]) S7 nt2
      refine ⟨t2, rfl, ⟨_, SqT.of (S8.st h5)⟩, for_tup (xs := [V.int 0, .int 1]) (fun j σ H' => ∃ (y4 y5 y6 : Option V) (G' : Hp), σ = [some (.ref x1), some (.ref x2), some (.ref e), some (.int wh), y4, y5, y6] ∧ (([0, 1] : List Int).take j).all (le2 k1 k2 wh) = true ∧ Same G5 G' ∧ Sep G' M H')
        ⟨_, _, _, G5, rfl, rfl, Same.refl _, S8⟩ (fun j σ H' _ h => ?_) (fun j y σ H' hy h => ?_) (fun σ H' h => ?_)⟩
      · obtain ⟨_, _, _, G', _, _, s', S'⟩ := h
        exact SqT.of (S'.st (s' _ _ h5))
      · obtain ⟨y4, y5, y6, G6, rfl, al2, s6, S9⟩ := h
        obtain ⟨qu, hq, rfl⟩ := ints_get (l := [0, 1]) hy
        refine ⟨sz, fun t3 nt3 => ?_⟩
        obtain ⟨G7, s7, S10, h7⟩ := Sep.mk (o := .tup [.int 0, .int 1]) S9 nt3
        refine ⟨t3, rfl, ⟨_, SqT.of (S10.st h7)⟩, for_tup (xs := [V.int 0, .int 1]) (fun m σ H' => ∃ (y5 y6 : Option V), σ = [some (.ref x1), some (.ref x2), some (.ref e), some (.int wh), some (.int qu), y5, y6] ∧ (([0, 1] : List Int).take m).all (leQ k1 k2 wh qu) = true ∧ Sep G7 M H')
          ⟨_, _, rfl, rfl, S10⟩ (fun m σ H' _ h => ?_) (fun m y σ H' hy h => ?_) (fun σ H' h => ?_)⟩
        · obtain ⟨_, _, _, _, S'⟩ := h
          exact SqT.of (S'.st h7)
        · obtain ⟨y5, y6, rfl, al3, S11⟩ := h
          obtain ⟨tk, ht, rfl⟩ := ints_get (l := [0, 1]) hy
          have s27 := s3.trans (s4.trans (s5.trans (s6.trans s7)))
          have he := S11.st (s27 _ _ h2)
          refine lets5 T (fun R h => h) (fun R h => h) (S11.st (s27 _ _ hx1)) he ?_
          rw [f_r0]
          refine ⟨fun e1 => ?_, fun e1 => ?_⟩
          · refine lets5 T (fun R h => h) (fun R h => h) (S11.st (s27 _ _ hx2)) he ?_
            rw [f_r0]
            refine ⟨fun e2 => ?_, fun e2 => ?_⟩
            · have z : leQ k1 k2 wh qu tk = false := by unfold leQ; rw [e1]; simpa using e2
              have z0 : leK k1 k2 = false := all_no (List.mem_of_getElem? hw) (all_no (List.mem_of_getElem? hq) (all_no (List.mem_of_getElem? ht) z))
              rw [z0] at q
              exact q G7 _ (s02.trans s27) S11
            · have z : leQ k1 k2 wh qu tk = true := by unfold leQ; rw [e1]; simpa using e2
              exact ⟨_, _, rfl, all_take al3 ht z, S11⟩
          · refine ⟨ff, fun _ => ?_⟩
            have z : leQ k1 k2 wh qu tk = true := by unfold leQ; rw [e1]; rfl
            exact ⟨_, _, rfl, all_take al3 ht z, S11⟩
        · obtain ⟨y5, y6, rfl, al3, S11⟩ := h
          exact ⟨_, _, _, G7, rfl, all_take al2 hq al3, s6.trans s7, S11⟩
      · obtain ⟨y4, y5, y6, G6, rfl, al2, s6, S9⟩ := h
        exact ⟨_, _, _, _, G6, rfl, all_take al1 hw al2, s4.trans (s5.trans s6), S9⟩
    · obtain ⟨y3, y4, y5, y6, G4, rfl, al1, s4, S7⟩ := h
      rw [show leK k1 k2 = true from al1] at q
      exact q G4 _ (s02.trans (s3.trans s4)) S7

/-! ### fences by their words -/
theorem fresh_fn {c : Kd → Addr} {G H : Hp} {M : List (Addr × HO)} {a dx : Addr} (k : Kd) (S : Sep G M H) (na : H a = none) (nd : H dx = none) (ne : dx ≠ a) :
    ∃ G', Same G G' ∧ FnAt c G' (.ref a) k ∧ Sep G' M (upd (upd H dx (.own a)) a (.ins (c k) dx [])) := by
  have S1 := S.new2 (o := .ins (c k) dx []) (u := .own a) na nd ne
  obtain ⟨G1, s1, S2, h1⟩ := Sep.keep S1
  exact ⟨G1, s1, ⟨a, dx, rfl, h1⟩, S2.drop⟩
def spFenceG (c : Kd → Addr) : Sp := fun vs H Q _ => ∃ (G : Hp) (M : List (Addr × HO)) (k : Kd), vs = [.str k.wd] ∧ Sep G M H ∧ ∀ v G' H', Same G G' → FnAt c G' v k → Sep G' M H' → Q v H'
theorem ok_fence_ofG (T : Top K mg w) {k : Nat} : FnOk P w K mg base CX0 (k + 1) T.a_fence_of T.d_fence_of ["word"] (spFenceG (kc T)) := by
  refine T.F_fence_of.ok sc_fence_of (fun vs H Q E h => ?_) (fun cdv A outer s H vs Q E hr h => ?_)
  · obtain ⟨G, M, k, rfl, _⟩ := h
    rfl
  · obtain ⟨G, M, k, rfl, S, q⟩ := h
    refine ⟨_, (pss_cons (xs_if (xt_cmp (op_eqLK K hr.u190) (xv 0) pe_str (nomark _))
      (pss_one (ps_ret (pe_mk0 T.mk0_Fence (by rfl) T.g_Fence)))
      pss_nil)
      (pss_cons (xs_if (xt_cmp (op_eqLK K hr.u190) (xv 0) pe_str (nomark _))
      (pss_one (ps_ret (pe_mk0 T.mk0_Own (by rfl) T.g_Own)))
      pss_nil)
      (pss_cons (xs_if (xt_cmp (op_eqLK K hr.u190) (xv 0) pe_str (nomark _))
      (pss_one (ps_ret (pe_mk0 T.mk0_Same (by rfl) T.g_Same)))
      pss_nil)
      (pss_cons (xs_if (xt_cmp (op_eqLK K hr.u190) (xv 0) pe_str (nomark _))
      (pss_one (ps_ret (pe_mk0 T.mk0_Both (by rfl) T.g_Both)))
      pss_nil)
      (pss_cons (xs_if (xt_cmp (op_eqLK K hr.u190) (xv 0) pe_str (nomark _))
      (pss_one (ps_ret (pe_mk0 T.mk0_Last (by rfl) T.g_Last)))
      pss_nil)
      (pss_one ps_never)))))), ?_⟩
    have made : ∀ a dx, H a = none → H dx = none → dx ≠ a → Q (.ref a) (upd (upd H dx (.own a)) a (.ins (kc T k) dx [])) := fun a dx na nd ne => by
      obtain ⟨G1, s1, f1, S1⟩ := fresh_fn k S na nd ne
      exact q _ G1 _ s1 f1 S1
    cases k with
    | a => exact ⟨fun _ => made, fun e => absurd e (by decide +kernel)⟩
    | o => exact ⟨fun e => absurd e (by decide +kernel), fun _ => ⟨fun _ => made, fun e => absurd e (by decide +kernel)⟩⟩
    | s => exact ⟨fun e => absurd e (by decide +kernel), fun _ => ⟨fun e => absurd e (by decide +kernel), fun _ => ⟨fun _ => made, fun e => absurd e (by decide +kernel)⟩⟩⟩
    | b => exact ⟨fun e => absurd e (by decide +kernel), fun _ => ⟨fun e => absurd e (by decide +kernel), fun _ => ⟨fun e => absurd e (by decide +kernel), fun _ => ⟨fun _ => made, fun e => absurd e (by decide +kernel)⟩⟩⟩⟩
    | l => exact ⟨fun e => absurd e (by decide +kernel), fun _ => ⟨fun e => absurd e (by decide +kernel), fun _ => ⟨fun e => absurd e (by decide +kernel), fun _ => ⟨fun e => absurd e (by decide +kernel), fun _ => ⟨fun _ => made, fun e => absurd e (by decide +kernel)⟩⟩⟩⟩⟩

/-! ### the law's words, cases -/
def wds : List Str := ["any", "own", "same", "both", "last"]
def kds : List Kd := [.a, .o, .s, .b, .l]
theorem wds_kd {z : Str} (h : z ∈ wds) : ∃ k : Kd, z = k.wd := by
  simp only [wds, List.mem_cons, List.not_mem_nil, or_false] at h
  rcases h with rfl | rfl | rfl | rfl | rfl
  · exact ⟨.a, rfl⟩
  · exact ⟨.o, rfl⟩
  · exact ⟨.s, rfl⟩
  · exact ⟨.b, rfl⟩
  · exact ⟨.l, rfl⟩

def Kd.lt : Kd → Bool → Bool → Bool → Bool
  | .a, _, _, _ => true
  | .o, x, _, _ => x
  | .s, _, y, _ => y
  | .b, x, y, _ => x && y
  | .l, x, y, z => x && y && z
def spLLets : Sp := fun vs H Q _ => ∃ (k : Kd) (a b c : Bool), vs = [.str k.wd, .bl a, .bl b, .bl c] ∧ Q (.bl (k.lt a b c)) H
theorem ok_lets (T : Top K mg w) {k : Nat} : FnOk P w K mg base CX0 (k + 1) T.a_lets T.d_lets ["_law_word", "_law_own", "_law_same", "_law_last"] spLLets := by
  refine T.F_lets.ok sc_lets (fun vs H Q E h => ?_) (fun cdv A outer s H vs Q E hr h => ?_)
  · obtain ⟨k, a, b, c, rfl, _⟩ := h
    rfl
  · obtain ⟨k, a, b, c, rfl, q⟩ := h
    refine ⟨_, (pss_cons (xs_if (xt_cmp (op_eqLK K hr.u190) (xv 0) pe_str (nomark _))
      (pss_one (ps_ret pe_bl))
      pss_nil)
      (pss_cons (xs_if (xt_cmp (op_eqLK K hr.u190) (xv 0) pe_str (nomark _))
      (pss_one (ps_ret (xv 1)))
      pss_nil)
      (pss_cons (xs_if (xt_cmp (op_eqLK K hr.u190) (xv 0) pe_str (nomark _))
      (pss_one (ps_ret (xv 2)))
      pss_nil)
      (pss_cons (xs_if (xt_cmp (op_eqLK K hr.u190) (xv 0) pe_str (nomark _))
      (pss_one (ps_ret (xe_and (xv 1) (pe_one (xv 2)))))
      pss_nil)
      (pss_one (ps_ret (xe_and (xv 1) (xe_and (xv 2) (pe_one (xv 3)))))))))), ?_⟩
    cases k with
    | a => exact ⟨fun _ => q, fun e => absurd e (by decide +kernel)⟩
    | o => exact ⟨fun e => absurd e (by decide +kernel), fun _ => ⟨fun _ => q, fun e => absurd e (by decide +kernel)⟩⟩
    | s => exact ⟨fun e => absurd e (by decide +kernel), fun _ => ⟨fun e => absurd e (by decide +kernel), fun _ => ⟨fun _ => q, fun e => absurd e (by decide +kernel)⟩⟩⟩
    | b =>
      refine ⟨fun e => absurd e (by decide +kernel), fun _ => ⟨fun e => absurd e (by decide +kernel), fun _ => ⟨fun e => absurd e (by decide +kernel), fun _ => ⟨fun _ => ?_, fun e => absurd e (by decide +kernel)⟩⟩⟩⟩
      cases a with
      | true => exact ⟨fun _ => q, tt⟩
      | false => exact ⟨ff, fun _ => q⟩
    | l =>
      refine ⟨fun e => absurd e (by decide +kernel), fun _ => ⟨fun e => absurd e (by decide +kernel), fun _ => ⟨fun e => absurd e (by decide +kernel), fun _ => ⟨fun e => absurd e (by decide +kernel), fun _ => ?_⟩⟩⟩⟩
      cases a with
      | true =>
        refine ⟨fun _ => ?_, tt⟩
        cases b with
        | true => exact ⟨fun _ => q, tt⟩
        | false => exact ⟨ff, fun _ => q⟩
      | false => exact ⟨ff, fun _ => q⟩

def spWords : Sp := fun vs H Q _ => vs = [] ∧ ∀ l, H l = none → Q (.ref l) (upd H l (.lst (wds.map V.str)))
theorem ok_words (T : Top K mg w) {k : Nat} : FnOk P w K mg base CX0 (k + 1) T.a_words T.d_words [] spWords := by
  refine T.F_words.ok sc_words (fun vs H Q E h => ?_) (fun cdv A outer s H vs Q E hr h => ?_)
  · obtain ⟨rfl, _⟩ := h
    rfl
  · obtain ⟨rfl, q⟩ := h
    refine ⟨_, (pss_one (ps_ret (pe_lst (pa_cons pe_str (pa_cons pe_str (pa_cons pe_str (pa_cons pe_str (pa_cons pe_str pa_nil)))))))), ?_⟩
    exact ⟨sz, fun l nl => q l nl⟩

/-! ### at most, by the law's eight cases -/
def am3 (k1 k2 : Kd) (x y z : Bool) : Bool := !(k1.lt x y z && !k2.lt x y z)
def am2 (k1 k2 : Kd) (x y : Bool) : Bool := ([true, false] : List Bool).all (am3 k1 k2 x y)
def am1 (k1 k2 : Kd) (x : Bool) : Bool := ([true, false] : List Bool).all (am2 k1 k2 x)
def amK (k1 k2 : Kd) : Bool := ([true, false] : List Bool).all (am1 k1 k2)
theorem amK_le (k1 k2 : Kd) : amK k1 k2 = leK k1 k2 := by cases k1 <;> cases k2 <;> decide +kernel
theorem bools_get {l : List Bool} {i : Nat} {x : V} (h : (l.map V.bl)[i]? = some x) : ∃ n, l[i]? = some n ∧ x = .bl n := by
  rw [List.getElem?_map] at h
  obtain ⟨n, h1, h2⟩ := Option.map_eq_some_iff.mp h
  exact ⟨n, h1, h2.symm⟩
def spAtM : Sp := fun vs H Q _ => ∃ (G : Hp) (M : List (Addr × HO)) (k1 k2 : Kd), vs = [.str k1.wd, .str k2.wd] ∧ Sep G M H ∧ ∀ G' H', Same G G' → Sep G' M H' → Q (.bl (leK k1 k2)) H'
theorem ok_at_most (T : Top K mg w) {k : Nat} (G_lets : FnOk P w K mg base CX0 k T.a_lets T.d_lets ["_law_word", "_law_own", "_law_same", "_law_last"] spLLets) : FnOk P w K mg base CX0 (k + 1) T.a_at_most T.d_at_most ["_law_first", "_law_second"] spAtM := by
  refine T.F_at_most.ok sc_at_most (fun vs H Q E h => ?_) (fun cdv A outer s H vs Q E hr h => ?_)
  · obtain ⟨G, M, k1, k2, rfl, _⟩ := h
    rfl
  · obtain ⟨G, M, k1, k2, rfl, S, q⟩ := h
    refine ⟨_, (pss_cons (ps_for PassesOwn.never rfl (pi_tupK K (pe_tup (pa_cons pe_bl (pa_cons pe_bl pa_nil)))) (pg_name (i := 2) sc_at_most.nd rfl (.inl rfl))
      (pss_one (ps_for PassesOwn.never rfl (pi_tupK K (pe_tup (pa_cons pe_bl (pa_cons pe_bl pa_nil)))) (pg_name (i := 3) sc_at_most.nd rfl (.inl rfl))
      (pss_one (ps_for PassesOwn.never rfl (pi_tupK K (pe_tup (pa_cons pe_bl (pa_cons pe_bl pa_nil)))) (pg_name (i := 4) sc_at_most.nd rfl (.inl rfl))
      (pss_one (xs_if (PW.pt (xw_and (xt_truK K (pe_call G_lets (hr.mono (by omega)) (by rfl) T.g_lets T.F_lets.kp T.b_lets .nil pass0 (pa_cons (xv 0) (pa_cons (xv 2) (pa_cons (xv 3) (pa_cons (xv 4) pa_nil)))))) (pw_and1 (pt_not (xt_truK K (pe_call G_lets (hr.mono (by omega)) (by rfl) T.g_lets T.F_lets.kp T.b_lets .nil pass0 (pa_cons (xv 1) (pa_cons (xv 2) (pa_cons (xv 3) (pa_cons (xv 4) pa_nil))))))))))
      (pss_one (ps_ret pe_bl))
      pss_nil)))))))
      (pss_one (ps_ret pe_bl))), ?_⟩
    rw [← amK_le] at q
    refine ⟨sz, fun t1 nt1 => ?_⟩
    obtain ⟨G3, s3, S6, h3⟩ := Sep.mk (o := .tup [.bl true, .bl false]) S nt1
    refine ⟨t1, rfl, ⟨_, SqT.of (S6.st h3)⟩, for_tup (xs := [V.bl true, .bl false]) (fun i σ H' => ∃ (y3 y4 y5 : Option V) (G' : Hp), σ = [some (.str k1.wd), some (.str k2.wd), y3, y4, y5] ∧ (([true, false] : List Bool).take i).all (am1 k1 k2) = true ∧ Same G3 G' ∧ Sep G' M H')
      ⟨_, _, _, G3, rfl, rfl, Same.refl _, S6⟩ (fun i σ H' _ h => ?_) (fun i y σ H' hy h => ?_) (fun σ H' h => ?_)⟩
    · obtain ⟨_, _, _, G', _, _, s', S'⟩ := h
      exact SqT.of (S'.st (s' _ _ h3))
    · obtain ⟨y3, y4, y5, G4, rfl, al1, s4, S7⟩ := h
      obtain ⟨wh, hw, rfl⟩ := bools_get (l := [true, false]) hy
      refine ⟨sz, fun t2 nt2 => ?_⟩
      obtain ⟨G5, s5, S8, h5⟩ := Sep.mk (o := .tup [.bl true, .bl false]) S7 nt2
      refine ⟨t2, rfl, ⟨_, SqT.of (S8.st h5)⟩, for_tup (xs := [V.bl true, .bl false]) (fun j σ H' => ∃ (y4 y5 : Option V) (G' : Hp), σ = [some (.str k1.wd), some (.str k2.wd), some (.bl wh), y4, y5] ∧ (([true, false] : List Bool).take j).all (am2 k1 k2 wh) = true ∧ Same G5 G' ∧ Sep G' M H')
        ⟨_, _, G5, rfl, rfl, Same.refl _, S8⟩ (fun j σ H' _ h => ?_) (fun j y σ H' hy h => ?_) (fun σ H' h => ?_)⟩
      · obtain ⟨_, _, G', _, _, s', S'⟩ := h
        exact SqT.of (S'.st (s' _ _ h5))
      · obtain ⟨y4, y5, G6, rfl, al2, s6, S9⟩ := h
        obtain ⟨qu, hq, rfl⟩ := bools_get (l := [true, false]) hy
        refine ⟨sz, fun t3 nt3 => ?_⟩
        obtain ⟨G7, s7, S10, h7⟩ := Sep.mk (o := .tup [.bl true, .bl false]) S9 nt3
        refine ⟨t3, rfl, ⟨_, SqT.of (S10.st h7)⟩, for_tup (xs := [V.bl true, .bl false]) (fun m σ H' => ∃ (y5 : Option V), σ = [some (.str k1.wd), some (.str k2.wd), some (.bl wh), some (.bl qu), y5] ∧ (([true, false] : List Bool).take m).all (am3 k1 k2 wh qu) = true ∧ Sep G7 M H')
          ⟨_, rfl, rfl, S10⟩ (fun m σ H' _ h => ?_) (fun m y σ H' hy h => ?_) (fun σ H' h => ?_)⟩
        · obtain ⟨_, _, _, S'⟩ := h
          exact SqT.of (S'.st h7)
        · obtain ⟨y5, rfl, al3, S11⟩ := h
          obtain ⟨tk, ht, rfl⟩ := bools_get (l := [true, false]) hy
          have s27 := s3.trans (s4.trans (s5.trans (s6.trans s7)))
          refine ⟨k1, wh, qu, tk, rfl, fun e1 => ?_, fun e1 => ?_⟩
          · refine ⟨k2, wh, qu, tk, rfl, fun e2 => ?_, fun e2 => ?_⟩
            · have z : am3 k1 k2 wh qu tk = false := by unfold am3; rw [e1]; simpa using e2
              have z0 : amK k1 k2 = false := all_no (List.mem_of_getElem? hw) (all_no (List.mem_of_getElem? hq) (all_no (List.mem_of_getElem? ht) z))
              rw [z0] at q
              exact q G7 _ s27 S11
            · have z : am3 k1 k2 wh qu tk = true := by unfold am3; rw [e1]; simpa using e2
              exact ⟨_, rfl, all_take al3 ht z, S11⟩
          · refine ⟨ff, fun _ => ?_⟩
            have z : am3 k1 k2 wh qu tk = true := by unfold am3; rw [e1]; rfl
            exact ⟨_, rfl, all_take al3 ht z, S11⟩
        · obtain ⟨y5, rfl, al3, S11⟩ := h
          exact ⟨_, _, G7, rfl, all_take al2 hq al3, s6.trans s7, S11⟩
      · obtain ⟨y4, y5, G6, rfl, al2, s6, S9⟩ := h
        exact ⟨_, _, _, G6, rfl, all_take al1 hw al2, s4.trans (s5.trans s6), S9⟩
    · obtain ⟨y3, y4, y5, G4, rfl, al1, s4, S7⟩ := h
      rw [show amK k1 k2 = true from al1] at q
      exact q G4 _ (s3.trans s4) S7

end
end K48
set_option Elab.async false
set_option linter.all false
set_option maxRecDepth 100000
set_option maxHeartbeats 4000000
namespace K48
open PySem PySem.Spec PyProof.Rows L2 XL
/-! ### the asker: what a fence shows, without a program -/
structure Oq where
  own : Bool
  lt : Bool
  qu : Nat
  an : Int
structure Pt where
  ed : Nat
  ln : List Oq
  la : Nat
  du : Int
  sh : Int
inductive Stp where
  | ask (q : Nat)
  | land (n : Nat)
  | far
  | again (q : Nat)
/-- the far store, the room, the questions, what the fence lets in -/
structure Wd where
  st : List (List Int)
  rm : Nat
  qs : List Nat
  lt : Bool → Bool → Bool → Bool
def Wd.an (W : Wd) (e q : Nat) : Int := (W.st.getD e []).getD q 0
def stepsP (W : Wd) (p : Pt) : List Stp :=
  ((W.qs.filter fun q => !decide (q = p.la)).map Stp.ask ++ (List.range p.ln.length).map Stp.land) ++ (if p.ed + 1 < W.st.length then [Stp.far] else []) ++ W.qs.map Stp.again
def sentP (W : Wd) (p : Pt) (q : Nat) (new : Bool) : Pt :=
  let l := p.ln.map (fun e => (⟨e.own && !new, false, e.qu, e.an⟩ : Oq)) ++ [⟨true, true, q, W.an p.ed q⟩]
  ⟨p.ed, l.drop (l.length - W.rm), q, W.an p.ed q, 0⟩
def landP (W : Wd) (p : Pt) (n : Nat) (e : Oq) : Pt := ⟨p.ed, p.ln.take n ++ p.ln.drop (n + 1), p.la, p.du, if W.lt e.own (decide (e.qu = p.la)) e.lt then e.an else p.sh⟩
def aftP (W : Wd) (p : Pt) : Stp → Pt
  | .ask q => sentP W p q false
  | .again q => sentP W p q true
  | .far => ⟨p.ed + 1, p.ln, p.la, p.du, p.sh⟩
  | .land n => match p.ln[n]? with
    | some e => landP W p n e
    | none => p
def lateP (p : Pt) : Bool := !decide (p.sh = 0) && !decide (p.sh = p.du)
/-- a stand that there can be -/
def OkP (W : Wd) (p : Pt) : Prop := p.ed < W.st.length ∧ p.ln.length ≤ W.rm ∧ p.la ≤ 3 ∧ ∀ e ∈ p.ln, e.qu ≤ 3
structure OkW (W : Wd) : Prop where
  st : 1 ≤ W.st.length ∧ W.st.length ≤ 3
  row : ∀ r ∈ W.st, r.length = 4
  rm : 1 ≤ W.rm ∧ W.rm ≤ 3
  qs : 1 ≤ W.qs.length ∧ W.qs.length ≤ 4
  q3 : ∀ q ∈ W.qs, q ≤ 3
def StpOk (W : Wd) (p : Pt) : Stp → Prop
  | .ask q => q ∈ W.qs
  | .again q => q ∈ W.qs
  | .far => p.ed + 1 < W.st.length
  | .land n => n < p.ln.length
theorem steps_ok {W : Wd} {p : Pt} {s : Stp} (h : s ∈ stepsP W p) : StpOk W p s := by
  unfold stepsP at h
  rcases List.mem_append.mp h with h | h
  · rcases List.mem_append.mp h with h | h
    · rcases List.mem_append.mp h with h | h
      · obtain ⟨q, h1, rfl⟩ := List.mem_map.mp h
        exact (List.mem_filter.mp h1).1
      · obtain ⟨n, h1, rfl⟩ := List.mem_map.mp h
        exact List.mem_range.mp h1
    · by_cases z : p.ed + 1 < W.st.length
      · rw [if_pos z] at h
        rw [List.mem_singleton.mp h]
        exact z
      · rw [if_neg z] at h
        exact absurd h List.not_mem_nil
  · obtain ⟨q, h1, rfl⟩ := List.mem_map.mp h
    exact h1
theorem steps_len {W : Wd} (w : OkW W) {p : Pt} (h : OkP W p) : (stepsP W p).length ≤ 12 := by
  unfold stepsP
  have h1 := List.length_filter_le (fun q => !decide (q = p.la)) W.qs
  have h2 : (if p.ed + 1 < W.st.length then [Stp.far] else []).length ≤ 1 := by split <;> simp
  simp only [List.length_append, List.length_map, List.length_range]
  have := h.2.1
  have := w.rm.2
  have := w.qs.2
  omega
theorem sentP_ok {W : Wd} (w : OkW W) {p : Pt} (h : OkP W p) {q : Nat} (hq : q ∈ W.qs) (b : Bool) : OkP W (sentP W p q b) := by
  have h3 := w.q3 q hq
  refine ⟨h.1, ?_, h3, fun e he => ?_⟩
  · show (List.drop _ _).length ≤ _
    rw [List.length_drop]
    omega
  · have he := List.mem_of_mem_drop he
    rcases List.mem_append.mp he with z | z
    · obtain ⟨e', k1, rfl⟩ := List.mem_map.mp z
      exact h.2.2.2 e' k1
    · rw [List.mem_singleton.mp z]
      exact h3
theorem aftP_ok {W : Wd} (w : OkW W) {p : Pt} (h : OkP W p) {s : Stp} (hs : StpOk W p s) : OkP W (aftP W p s) := by
  cases s with
  | ask q => exact sentP_ok w h hs false
  | again q => exact sentP_ok w h hs true
  | far => exact ⟨hs, h.2⟩
  | land n =>
    have hs : n < p.ln.length := hs
    show OkP W (match p.ln[n]? with | some e => landP W p n e | none => p)
    rw [List.getElem?_eq_getElem hs]
    refine ⟨h.1, ?_, h.2.2.1, fun e he => ?_⟩
    · show (p.ln.take n ++ p.ln.drop (n + 1)).length ≤ _
      have := h.2.1
      rw [List.length_append, List.length_take, List.length_drop]
      omega
    · rcases List.mem_append.mp he with z | z
      · exact h.2.2.2 e (List.mem_of_mem_take z)
      · exact h.2.2.2 e (List.mem_of_mem_drop z)
/-! ### level by level -/
/-- what is known: each stand once, with its row, in order; further: those of the next level -/
structure Bs where
  kn : List (Pt × List Stp)
  fu : List (Pt × List Stp)
noncomputable instance decPt : DecidableEq Pt := fun _ _ => Classical.propDecidable _
noncomputable def knows (kn : List (Pt × List Stp)) (p : Pt) : Bool := kn.any fun x => decide (x.1 = p)
noncomputable def oneS (W : Wd) (p : Pt) (row : List Stp) (b : Bs) (s : Stp) : Except (List Stp) Bs :=
  if knows b.kn (aftP W p s) then .ok b
  else if lateP (aftP W p s) then .error (row ++ [s])
  else .ok ⟨b.kn ++ [(aftP W p s, row ++ [s])], b.fu ++ [(aftP W p s, row ++ [s])]⟩
noncomputable def stepsS (W : Wd) (p : Pt) (row : List Stp) (l : List Stp) (b : Bs) : Except (List Stp) Bs := l.foldlM (oneS W p row) b
noncomputable def levS (W : Wd) (l : List (Pt × List Stp)) (b : Bs) : Except (List Stp) Bs := l.foldlM (fun b x => stepsS W x.1 x.2 (stepsP W x.1) b) b
inductive Rs where
  | late (r : List Stp)
  | none
  | many
noncomputable def bfs (W : Wd) : Nat → List (Pt × List Stp) → List (Pt × List Stp) → Rs
  | 0, _, _ => .many
  | n + 1, kn, lv => match levS W lv ⟨kn, []⟩ with
    | .error r => .late r
    | .ok b => if b.fu = [] then .none else if 450 < b.kn.length then .many else bfs W n b.kn b.fu
theorem foldM_snoc {α β ε : Type} {f : β → α → Except ε β} {l : List α} {i : Nat} {x : α} {b c : β} (h : (l.take i).foldlM f b = .ok c) (hx : l[i]? = some x) : (l.take (i + 1)).foldlM f b = f c x := by
  rw [List.take_add_one, hx, List.foldlM_append, h]
  show ([x].foldlM f c) = f c x
  rw [List.foldlM_cons]
  show (f c x >>= fun y => [].foldlM f y) = f c x
  cases f c x <;> rfl
theorem foldM_err {α β ε : Type} {f : β → α → Except ε β} {l : List α} {i : Nat} {x : α} {b c : β} {e : ε} (h : (l.take i).foldlM f b = .ok c) (hx : l[i]? = some x) (he : f c x = .error e) : l.foldlM f b = .error e := by
  have h1 := foldM_snoc h hx
  rw [he] at h1
  rw [← List.take_append_drop (i + 1) l, List.foldlM_append, h1]
  rfl
/-- a list that is walked stays good and grows by few -/
theorem foldM_inv {α β ε : Type} {f : β → α → Except ε β} {R : Nat → β → Prop} {l : List α} {c : Nat} (h : ∀ x ∈ l, ∀ n b b', R n b → f b x = .ok b' → R (n + c) b') :
    ∀ {b b' : β} {n : Nat}, R n b → l.foldlM f b = .ok b' → R (n + c * l.length) b' := by
  induction l with
  | nil => intro b b' n r e; cases e; exact r
  | cons x xs ih =>
    intro b b' n r e
    rw [List.foldlM_cons] at e
    cases e1 : f b x with
    | error z => rw [e1] at e; cases e
    | ok c1 =>
      rw [e1] at e
      have := ih (fun y hy => h y (List.mem_cons_of_mem _ hy)) (h x List.mem_cons_self n b c1 r e1) e
      rw [List.length_cons, Nat.mul_add, Nat.mul_one, Nat.add_comm (c * xs.length), ← Nat.add_assoc]
      exact this
/-- good: all stands can be, few, those of the next level are known, no row is longer than there are stands -/
def Gd (W : Wd) (r n : Nat) (b : Bs) : Prop := r ≤ b.kn.length ∧ b.kn.length ≤ n ∧ b.fu.length ≤ b.kn.length ∧ (∀ x ∈ b.kn, OkP W x.1 ∧ x.2.length ≤ b.kn.length) ∧ (∀ x ∈ b.fu, x ∈ b.kn) ∧ (b.kn.map (·.1)).Nodup
theorem Gd.mono {W : Wd} {r n m : Nat} {b : Bs} (h : Gd W r n b) (l : n ≤ m) : Gd W r m b := ⟨h.1, Nat.le_trans h.2.1 l, h.2.2⟩
theorem one_gd {W : Wd} (w : OkW W) {r : Nat} {p : Pt} {row : List Stp} (hr : row.length ≤ r) (hp : OkP W p) {s : Stp} (hs : StpOk W p s) {n : Nat} {b b' : Bs} (h : Gd W r n b) (e : oneS W p row b s = .ok b') : Gd W r (n + 1) b' := by
  unfold oneS at e
  by_cases k : knows b.kn (aftP W p s) = true
  · rw [if_pos k] at e
    cases e
    exact h.mono (by omega)
  · rw [if_neg k] at e
    by_cases l : lateP (aftP W p s) = true
    · rw [if_pos l] at e
      cases e
    · rw [if_neg l] at e
      cases e
      obtain ⟨h0, h1, h2, h3, h4, h5⟩ := h
      have el : (b.kn ++ [(aftP W p s, row ++ [s])]).length = b.kn.length + 1 := by rw [List.length_append]; rfl
      refine ⟨?_, ?_, ?_, fun x hx => ?_, fun x hx => ?_, ?_⟩
      · show r ≤ (_ ++ [_]).length
        rw [el]
        omega
      · show (_ ++ [_]).length ≤ _
        rw [el]
        omega
      · show (_ ++ [_]).length ≤ (_ ++ [_]).length
        rw [el, List.length_append]
        simp
        omega
      · show _ ∧ _ ≤ (_ ++ [_]).length
        rw [el]
        rcases List.mem_append.mp hx with z | z
        · exact ⟨(h3 x z).1, Nat.le_succ_of_le (h3 x z).2⟩
        · rw [List.mem_singleton.mp z]
          refine ⟨aftP_ok w hp hs, ?_⟩
          show (row ++ [s]).length ≤ _
          rw [List.length_append]
          show row.length + 1 ≤ _
          omega
      · rcases List.mem_append.mp hx with z | z
        · exact List.mem_append_left _ (h4 x z)
        · exact List.mem_append_right _ z
      · show ((b.kn ++ [_]).map _).Nodup
        rw [List.map_append, List.nodup_append]
        refine ⟨h5, by simp, fun y hy z hz e => ?_⟩
        obtain ⟨x, hx, rfl⟩ := List.mem_map.mp hy
        simp at hz
        have : knows b.kn (aftP W p s) = true := by
          unfold knows
          rw [List.any_eq_true]
          exact ⟨x, hx, decide_eq_true (e.trans hz)⟩
        exact k this
theorem steps_gd {W : Wd} (w : OkW W) {r : Nat} {p : Pt} {row : List Stp} (hr : row.length ≤ r) (hp : OkP W p) {l : List Stp} (hl : ∀ s ∈ l, StpOk W p s) {n : Nat} {b b' : Bs} (h : Gd W r n b) (e : stepsS W p row l b = .ok b') : Gd W r (n + l.length) b' := by
  have := foldM_inv (R := Gd W r) (c := 1) (fun s hs n b b' q e1 => one_gd w hr hp (hl s hs) q e1) h e
  rw [Nat.one_mul] at this
  exact this
theorem steps_gd12 {W : Wd} (w : OkW W) {r : Nat} {p : Pt} {row : List Stp} (hr : row.length ≤ r) (hp : OkP W p) {n : Nat} {b b' : Bs} (h : Gd W r n b) (e : stepsS W p row (stepsP W p) b = .ok b') : Gd W r (n + 12) b' :=
  (steps_gd w hr hp (fun _ hs => steps_ok hs) h e).mono (by have := steps_len w hp; omega)
theorem lev_gd {W : Wd} (w : OkW W) {r : Nat} {l : List (Pt × List Stp)} (hl : ∀ x ∈ l, OkP W x.1 ∧ x.2.length ≤ r) {n : Nat} {b b' : Bs} (h : Gd W r n b) (e : levS W l b = .ok b') : Gd W r (n + 12 * l.length) b' :=
  foldM_inv (R := Gd W r) (c := 12) (fun x hx _ _ _ q e1 => steps_gd12 w (hl x hx).2 (hl x hx).1 q e1) h e
/-- the walk within a level: the first i stands, of the next one the first j steps -/
theorem in_lev {W : Wd} (w : OkW W) {kn lv : List (Pt × List Stp)} (g : Gd W 0 450 ⟨kn, lv⟩) {i : Nat} {b : Bs} (e : levS W (lv.take i) ⟨kn, []⟩ = .ok b) : Gd W kn.length 6000 b := by
  obtain ⟨h0, h1, h2, h3, h4, h5⟩ := g
  have h1 : kn.length ≤ 450 := h1
  have h2 : lv.length ≤ kn.length := h2
  have g0 : Gd W kn.length 450 ⟨kn, []⟩ := ⟨Nat.le_refl _, h1, Nat.zero_le _, h3, (fun _ h => nomatch h), h5⟩
  refine (lev_gd w (fun x hx => h3 x (h4 x (List.mem_of_mem_take hx))) g0 e).mono ?_
  have : (lv.take i).length ≤ lv.length := by rw [List.length_take]; exact Nat.min_le_right _ _
  show 450 + 12 * (lv.take i).length ≤ 6000
  omega
theorem lev_row {W : Wd} {kn lv : List (Pt × List Stp)} (g : Gd W 0 450 ⟨kn, lv⟩) {i : Nat} {x : Pt × List Stp} (hx : lv[i]? = some x) : OkP W x.1 ∧ x.2.length ≤ kn.length ∧ x ∈ kn := by
  have hm := g.2.2.2.2.1 x (List.mem_of_getElem? hx)
  exact ⟨(g.2.2.2.1 x hm).1, (g.2.2.2.1 x hm).2, hm⟩
theorem in_steps {W : Wd} (w : OkW W) {kn : List (Pt × List Stp)} {x : Pt × List Stp} (hx : OkP W x.1 ∧ x.2.length ≤ kn.length) {b b' : Bs} (g : Gd W kn.length 6000 b) {j : Nat} (e : stepsS W x.1 x.2 ((stepsP W x.1).take j) b = .ok b') : Gd W kn.length 6012 b' := by
  refine (steps_gd w hx.2 hx.1 (fun s hs => steps_ok (List.mem_of_mem_take hs)) g e).mono ?_
  have : ((stepsP W x.1).take j).length ≤ (stepsP W x.1).length := by rw [List.length_take]; exact Nat.min_le_right _ _
  have := steps_len w hx.1
  omega
theorem one_known {W : Wd} {p : Pt} {row : List Stp} {b : Bs} {s : Stp} (k : knows b.kn (aftP W p s) = true) : oneS W p row b s = .ok b := by
  unfold oneS
  rw [if_pos k]
theorem one_late {W : Wd} {p : Pt} {row : List Stp} {b : Bs} {s : Stp} (k : knows b.kn (aftP W p s) = false) (l : lateP (aftP W p s) = true) : oneS W p row b s = .error (row ++ [s]) := by
  unfold oneS
  rw [if_neg (by rw [k]; decide), if_pos l]
theorem one_new {W : Wd} {p : Pt} {row : List Stp} {b : Bs} {s : Stp} (k : knows b.kn (aftP W p s) = false) (l : lateP (aftP W p s) = false) : oneS W p row b s = .ok ⟨b.kn ++ [(aftP W p s, row ++ [s])], b.fu ++ [(aftP W p s, row ++ [s])]⟩ := by
  unfold oneS
  rw [if_neg (by rw [k]; decide), if_neg (by rw [l]; decide)]
theorem bfs_late {W : Wd} {n : Nat} {kn lv : List (Pt × List Stp)} {i j : Nat} {x : Pt × List Stp} {s : Stp} {b b' : Bs} {r : List Stp} (e : levS W (lv.take i) ⟨kn, []⟩ = .ok b) (hx : lv[i]? = some x) (e2 : stepsS W x.1 x.2 ((stepsP W x.1).take j) b = .ok b') (hs : (stepsP W x.1)[j]? = some s) (e3 : oneS W x.1 x.2 b' s = .error r) :
    bfs W (n + 1) kn lv = .late r := by
  have h1 : stepsS W x.1 x.2 (stepsP W x.1) b = .error r := foldM_err e2 hs e3
  have h2 : levS W lv ⟨kn, []⟩ = .error r := foldM_err (f := fun b (x : Pt × List Stp) => stepsS W x.1 x.2 (stepsP W x.1) b) e hx h1
  show (match levS W lv ⟨kn, []⟩ with | .error r => Rs.late r | .ok b => _) = _
  rw [h2]
theorem steps_snoc {W : Wd} {x : Pt × List Stp} {j : Nat} {s : Stp} {b b' : Bs} (e2 : stepsS W x.1 x.2 ((stepsP W x.1).take j) b = .ok b') (hs : (stepsP W x.1)[j]? = some s) : stepsS W x.1 x.2 ((stepsP W x.1).take (j + 1)) b = oneS W x.1 x.2 b' s := foldM_snoc e2 hs
theorem lev_snoc {W : Wd} {kn lv : List (Pt × List Stp)} {i : Nat} {x : Pt × List Stp} {b : Bs} (e : levS W (lv.take i) ⟨kn, []⟩ = .ok b) (hx : lv[i]? = some x) : levS W (lv.take (i + 1)) ⟨kn, []⟩ = stepsS W x.1 x.2 (stepsP W x.1) b := foldM_snoc (f := fun b (x : Pt × List Stp) => stepsS W x.1 x.2 (stepsP W x.1) b) e hx
theorem bfs_ok {W : Wd} {n : Nat} {kn lv : List (Pt × List Stp)} {b : Bs} (e : levS W lv ⟨kn, []⟩ = .ok b) : bfs W (n + 1) kn lv = if b.fu = [] then .none else if 450 < b.kn.length then .many else bfs W n b.kn b.fu := by
  show (match levS W lv ⟨kn, []⟩ with | .error r => Rs.late r | .ok b => _) = _
  rw [e]
theorem start_gd {W : Wd} {p : Pt} (h : OkP W p) : Gd W 0 450 ⟨[(p, [])], [(p, [])]⟩ := ⟨Nat.zero_le _, (by show 1 ≤ 450; decide), Nat.le_refl _, (fun x hx => by
  rw [List.mem_singleton.mp hx]
  exact ⟨h, Nat.zero_le _⟩), (fun x hx => hx), by simp⟩
theorem next_gd {W : Wd} (w : OkW W) {kn lv : List (Pt × List Stp)} (g : Gd W 0 450 ⟨kn, lv⟩) {b : Bs} (e : levS W lv ⟨kn, []⟩ = .ok b) (h : ¬ 450 < b.kn.length) : Gd W 0 450 ⟨b.kn, b.fu⟩ := by
  have := in_lev w g (i := lv.length) (b := b) (by rw [List.take_length]; exact e)
  obtain ⟨h0, h1, h2, h3, h4, h5⟩ := this
  exact ⟨Nat.zero_le _, (by show b.kn.length ≤ 450; omega), h2, h3, h4, h5⟩

section
variable {P : Program} {w : World} {K : PySem.W.Frag} {mg : Str → Option Value} {base : Heap}
end
end K48
set_option Elab.async false
set_option linter.all false
set_option maxRecDepth 100000
set_option maxHeartbeats 4000000
namespace K48
open PySem PySem.Spec PyProof.Rows L2 XL
theorem cutV_from (xs : List V) (k : Nat) (h : k ≤ xs.length) : cutV xs (some (k : Int)) none = xs.drop k := by
  unfold cutV
  rw [HT.sIx_nat, HT.sIx_none, Nat.min_eq_left h]
  exact List.take_of_length_le (by rw [List.length_drop]; exact Nat.le_refl _)

/-! ### stands in the heap -/
def StpAt (G : Hp) (v : V) : Stp → Prop
  | .ask q => ∃ a, v = .ref a ∧ G a = some (.tup [.str "ask", .int (q : Nat)])
  | .land n => ∃ a, v = .ref a ∧ G a = some (.tup [.str "land", .int (n : Nat)])
  | .far => ∃ a, v = .ref a ∧ G a = some (.tup [.str "far"])
  | .again q => ∃ a, v = .ref a ∧ G a = some (.tup [.str "again", .int (q : Nat)])
theorem StpAt.same {G G' : Hp} {v : V} {s : Stp} (e : Same G G') (h : StpAt G v s) : StpAt G' v s := by
  cases s <;> exact let ⟨a, h1, h2⟩ := h; ⟨a, h1, e _ _ h2⟩
def RowAt (G : Hp) (v : V) (r : List Stp) : Prop := ∃ a ws, v = .ref a ∧ G a = some (.lst ws) ∧ Paired (StpAt G) ws r
theorem stps_same {G G' : Hp} {ws : List V} {r : List Stp} (e : Same G G') (h : Paired (StpAt G) ws r) : Paired (StpAt G') ws r := prd_imp (fun _ _ => StpAt.same e) h
theorem RowAt.same {G G' : Hp} {v : V} {r : List Stp} (e : Same G G') (h : RowAt G v r) : RowAt G' v r := let ⟨a, ws, h1, h2, h3⟩ := h; ⟨a, ws, h1, e _ _ h2, stps_same e h3⟩
/-- the program's -/
def zP (b : Bool) : Int := if b then 0 else 1
def zL (b : Bool) : Int := if b then 1 else 0
def OqP (G : Hp) (v : V) (e : Oq) : Prop := ∃ a, v = .ref a ∧ G a = some (.tup [.int (zP e.own), .int (zP e.lt), .int (e.qu : Nat), .int e.an])
theorem OqP.same {G G' : Hp} {v : V} {x : Oq} (e : Same G G') (h : OqP G v x) : OqP G' v x := let ⟨a, h1, h2⟩ := h; ⟨a, h1, e _ _ h2⟩
def PtP (K : PySem.W.Frag) (G : Hp) (v : V) (p : Pt) : Prop := ∃ a l ws, v = .ref a ∧ G a = some (.tup [.int (p.ed : Nat), .ref l, .int (p.la : Nat), .int p.du, .int p.sh]) ∧ SqT K G l ws ∧ Paired (OqP G) ws p.ln
theorem PtP.same {K : PySem.W.Frag} {G G' : Hp} {v : V} {p : Pt} (e : Same G G') (h : PtP K G v p) : PtP K G' v p := let ⟨a, l, ws, h1, h2, h3, h4⟩ := h; ⟨a, l, ws, h1, e _ _ h2, same_t e h3, prd_imp (fun _ _ => OqP.same e) h4⟩
/-- the law's -/
structure Lq where
  who : Nat
  tk : Nat
  qu : Nat
  an : Int
structure Ls where
  ed : Nat
  ln : List Lq
  who : Nat
  la : Nat
  tk : Nat
  du : Int
  sh : Int
def LqAt (G : Hp) (v : V) (e : Lq) : Prop := ∃ a, v = .ref a ∧ G a = some (.tup [.int (e.who : Nat), .int (e.tk : Nat), .int (e.qu : Nat), .int e.an])
theorem LqAt.same {G G' : Hp} {v : V} {x : Lq} (e : Same G G') (h : LqAt G v x) : LqAt G' v x := let ⟨a, h1, h2⟩ := h; ⟨a, h1, e _ _ h2⟩
def LsAt (K : PySem.W.Frag) (G : Hp) (v : V) (p : Ls) : Prop := ∃ a l ws, v = .ref a ∧ G a = some (.tup [.int (p.ed : Nat), .ref l, .int (p.who : Nat), .int (p.la : Nat), .int (p.tk : Nat), .int p.du, .int p.sh]) ∧ SqT K G l ws ∧ Paired (LqAt G) ws p.ln
theorem LsAt.same {K : PySem.W.Frag} {G G' : Hp} {v : V} {p : Ls} (e : Same G G') (h : LsAt K G v p) : LsAt K G' v p := let ⟨a, l, ws, h1, h2, h3, h4⟩ := h; ⟨a, l, ws, h1, e _ _ h2, same_t e h3, prd_imp (fun _ _ => LqAt.same e) h4⟩
def toQ (who tk : Nat) (e : Lq) : Oq := ⟨decide (e.who = who), decide (e.tk = tk), e.qu, e.an⟩
def toP (l : Ls) : Pt := ⟨l.ed, l.ln.map (toQ l.who l.tk), l.la, l.du, l.sh⟩
def LOk (l : Ls) : Prop := ∀ e ∈ l.ln, e.who ≤ l.who ∧ e.tk ≤ l.tk
def sentL (W : Wd) (l : Ls) (q wh : Nat) : Ls := ⟨l.ed, (l.ln ++ [(⟨wh, l.tk + 1, q, W.an l.ed q⟩ : Lq)]).drop ((l.ln.length + 1) - W.rm), wh, q, l.tk + 1, W.an l.ed q, 0⟩
def aftL (W : Wd) (l : Ls) : Stp → Ls
  | .ask q => sentL W l q l.who
  | .again q => sentL W l q (l.who + 1)
  | .far => ⟨l.ed + 1, l.ln, l.who, l.la, l.tk, l.du, l.sh⟩
  | .land n => match l.ln[n]? with
    | some e => ⟨l.ed, l.ln.take n ++ l.ln.drop (n + 1), l.who, l.la, l.tk, l.du, if W.lt (decide (e.who = l.who)) (decide (e.qu = l.la)) (decide (e.tk = l.tk)) then e.an else l.sh⟩
    | none => l
theorem sentL_to {W : Wd} {l : Ls} (h : LOk l) (q : Nat) (b : Bool) : toP (sentL W l q (l.who + if b then 1 else 0)) = sentP W (toP l) q b := by
  have e : (l.ln.map fun e : Lq => toQ (l.who + if b then 1 else 0) (l.tk + 1) e) = (l.ln.map (toQ l.who l.tk)).map fun e => (⟨e.own && !b, false, e.qu, e.an⟩ : Oq) := by
    rw [List.map_map]
    refine List.map_congr_left fun x hx => ?_
    obtain ⟨h1, h2⟩ := h x hx
    show (⟨_, _, _, _⟩ : Oq) = ⟨_, _, _, _⟩
    have e2 : decide (x.tk = l.tk + 1) = false := decide_eq_false (by omega)
    rw [e2]
    cases b with
    | true =>
      have e1 : decide (x.who = l.who + 1) = false := decide_eq_false (by omega)
      show (⟨decide (x.who = l.who + 1), _, _, _⟩ : Oq) = _
      rw [e1]
      simp [toQ]
    | false => simp [toQ]
  unfold sentL toP sentP
  simp only [List.map_drop, List.map_append, e, List.length_append, List.length_map, List.length_cons, List.length_nil, List.map_cons, List.map_nil]
  simp [toQ]
theorem aftL_to {W : Wd} {l : Ls} (h : LOk l) (s : Stp) : toP (aftL W l s) = aftP W (toP l) s := by
  cases s with
  | ask q => exact sentL_to h q false
  | again q => exact sentL_to h q true
  | far => rfl
  | land n =>
    show toP (match l.ln[n]? with | some e => _ | none => l) = match (l.ln.map (toQ l.who l.tk))[n]? with | some e => landP W (toP l) n e | none => toP l
    rw [List.getElem?_map]
    cases l.ln[n]? with
    | none => rfl
    | some e =>
      show toP _ = landP W (toP l) n (toQ l.who l.tk e)
      unfold toP landP
      simp only [toQ, List.map_take, List.map_drop, List.map_append]
      rfl
theorem aftL_ok {W : Wd} {l : Ls} (h : LOk l) (s : Stp) : LOk (aftL W l s) := by
  have sent : ∀ q b, LOk (sentL W l q (l.who + b)) := fun q b x hx => by
    rcases List.mem_append.mp (List.mem_of_mem_drop hx) with z | z
    · obtain ⟨h1, h2⟩ := h x z
      exact ⟨Nat.le_trans h1 (Nat.le_add_right _ _), Nat.le_trans h2 (Nat.le_add_right _ _)⟩
    · rw [List.mem_singleton.mp z]
      exact ⟨Nat.le_refl _, Nat.le_refl _⟩
  cases s with
  | ask q => exact sent q 0
  | again q => exact sent q 1
  | far => exact h
  | land n =>
    show LOk (match l.ln[n]? with | some e => _ | none => l)
    cases l.ln[n]? with
    | none => exact h
    | some e =>
      intro x hx
      rcases List.mem_append.mp hx with z | z
      · exact h x (List.mem_of_mem_take z)
      · exact h x (List.mem_of_mem_drop z)
/-! ### stands as keys -/
def keyO (z : Bool → Int) (e : Oq) : PyData := .tuple [.int (z e.own), .int (z e.lt), .int (e.qu : Nat), .int e.an]
def keyOf (z : Bool → Int) (p : Pt) : PyData := .tuple [.int (p.ed : Nat), .tuple (p.ln.map (keyO z)), .int (p.la : Nat), .int p.du, .int p.sh]
theorem zP_inj : ∀ a b : Bool, zP a = zP b → a = b := by decide
theorem zL_inj : ∀ a b : Bool, zL a = zL b → a = b := by decide
theorem keyO_inj {z : Bool → Int} (hz : ∀ a b, z a = z b → a = b) {x y : Oq} (h : keyO z x = keyO z y) : x = y := by
  cases x
  cases y
  simp only [keyO, PyData.tuple.injEq, List.cons.injEq, PyData.int.injEq, and_true, Int.natCast_inj] at h
  obtain ⟨h1, h2, h3, h4⟩ := h
  rw [hz _ _ h1, hz _ _ h2, h3, h4]
theorem key_inj {z : Bool → Int} (hz : ∀ a b, z a = z b → a = b) {p q : Pt} (h : keyOf z p = keyOf z q) : p = q := by
  cases p
  cases q
  simp only [keyOf, PyData.tuple.injEq, List.cons.injEq, PyData.int.injEq, and_true, Int.natCast_inj] at h
  obtain ⟨h1, h2, h3, h4, h5⟩ := h
  rw [h1, (List.map_inj_right (fun _ _ e => keyO_inj hz e)).mp h2, h3, h4, h5]
theorem keyDs_all : ∀ {ds : List PyData}, (∀ d ∈ ds, keyD d = true) → keyDs ds = true
  | [], _ => by simp only [keyDs]
  | d :: ds, h => by
    simp only [keyDs, h d (by simp), keyDs_all (ds := ds) fun y hy => h y (List.mem_cons_of_mem _ hy), Bool.and_self]
theorem nrms_map : ∀ ds : List PyData, nrms ds = ds.map nrm
  | [] => by simp only [nrms, List.map_nil]
  | d :: ds => by simp only [nrms, nrms_map ds, List.map_cons]
theorem prd_map {α β γ : Type} {F : α → β → Prop} {g : β → γ} : ∀ {xs : List α} {ys : List β}, Paired F xs ys → Paired (fun x z => ∃ y, z = g y ∧ F x y) xs (ys.map g)
  | _, _, .nil => .nil
  | _, _, .cons h t => .cons ⟨_, rfl, h⟩ (prd_map t)
theorem dpa_map {α : Type} {K : PySem.W.Frag} {G : Hp} {F : V → α → Prop} {g : α → PyData} (h : ∀ v x, F v x → Dp K G v (g x)) : ∀ {vs : List V} {xs : List α}, Paired F vs xs → DpAll K G vs (xs.map g)
  | _, _, .nil => .nil
  | _, _, .cons h1 t => .cons (h _ _ h1) (dpa_map h t)
theorem dp_oqP {K : PySem.W.Frag} {G : Hp} {v : V} {e : Oq} (h : OqP G v e) : Dp K G v (keyO zP e) := by
  obtain ⟨a, rfl, h1⟩ := h
  exact .tup (SqT.of h1) (.cons (.int _) (.cons (.int _) (.cons (.int _) (.cons (.int _) .nil))))
theorem dp_ptP {K : PySem.W.Frag} {G : Hp} {v : V} {p : Pt} (h : PtP K G v p) : Dp K G v (keyOf zP p) := by
  obtain ⟨a, l, ws, rfl, h1, h2, h3⟩ := h
  exact .tup (SqT.of h1) (.cons (.int _) (.cons (.tup h2 (dpa_map (F := OqP G) (g := keyO zP) (fun _ _ h => dp_oqP h) h3)) (.cons (.int _) (.cons (.int _) (.cons (.int _) .nil)))))
theorem keyO_d {z : Bool → Int} (e : Oq) : keyD (keyO z e) = true ∧ (keyO z e).depth ≤ 2 ∧ nrm (keyO z e) = keyO z e := by
  refine ⟨?_, ?_, ?_⟩
  · simp [keyO, keyD, keyDs]
  · simp only [keyO, PyData.depth, PyData.depthAll]
    omega
  · simp [keyO, nrm, nrms]
theorem key_d {z : Bool → Int} (p : Pt) : keyD (keyOf z p) = true ∧ (keyOf z p).depth ≤ 8 ∧ nrm (keyOf z p) = keyOf z p := by
  have d1 : keyDs (p.ln.map (keyO z)) = true := keyDs_all fun d hd => by
    obtain ⟨e, _, rfl⟩ := List.mem_map.mp hd
    exact (keyO_d e).1
  have d2 : PyData.depthAll (p.ln.map (keyO z)) ≤ 2 := depthAll_le fun d hd => by
    obtain ⟨e, _, rfl⟩ := List.mem_map.mp hd
    exact (keyO_d e).2.1
  refine ⟨?_, ?_, ?_⟩
  · simp [keyOf, keyD, keyDs, d1]
  · simp only [keyOf, PyData.depth, PyData.depthAll]
    omega
  · have d3 : (p.ln.map (keyO z)).map nrm = p.ln.map (keyO z) := by
      rw [List.map_map]
      exact List.map_congr_left fun e _ => (keyO_d e).2.2
    simp only [keyOf, nrm, nrms, nrms_map, d3]
theorem key_ptP {K : PySem.W.Frag} {G : Hp} {a : Addr} {p : Pt} (h : PtP K G (.ref a) p) : KeyV K G a (keyOf zP p) := ⟨_, dp_ptP h, (key_d p).1, (key_d p).2.1, (key_d p).2.2⟩
/-- what the law folds a stand to -/
def OqB (G : Hp) (v : V) (e : Oq) : Prop := ∃ a, v = .ref a ∧ G a = some (.tup [.bl e.own, .bl e.lt, .int (e.qu : Nat), .int e.an])
theorem OqB.same {G G' : Hp} {v : V} {x : Oq} (e : Same G G') (h : OqB G v x) : OqB G' v x := let ⟨a, h1, h2⟩ := h; ⟨a, h1, e _ _ h2⟩
def datO (e : Oq) : PyData := .tuple [.bool e.own, .bool e.lt, .int (e.qu : Nat), .int e.an]
theorem key_fold {K : PySem.W.Frag} {G : Hp} {a l : Addr} {ws : List V} {p : Pt} (h1 : G a = some (.tup [.int (p.ed : Nat), .ref l, .int (p.la : Nat), .int p.du, .int p.sh])) (h2 : SqT K G l ws) (h3 : Paired (OqB G) ws p.ln) : KeyV K G a (keyOf zL p) := by
  have dO : ∀ v e, OqB G v e → Dp K G v (datO e) := fun v e h => by
    obtain ⟨b, rfl, hb⟩ := h
    exact .tup (SqT.of hb) (.cons (.bl _) (.cons (.bl _) (.cons (.int _) (.cons (.int _) .nil))))
  refine ⟨.tuple [.int (p.ed : Nat), .tuple (p.ln.map datO), .int (p.la : Nat), .int p.du, .int p.sh], .tup (SqT.of h1) (.cons (.int _) (.cons (.tup h2 (dpa_map (F := OqB G) (g := datO) dO h3)) (.cons (.int _) (.cons (.int _) (.cons (.int _) .nil))))), ?_, ?_, ?_⟩
  · have d1 : keyDs (p.ln.map datO) = true := keyDs_all fun d hd => by
      obtain ⟨e, _, rfl⟩ := List.mem_map.mp hd
      simp [datO, keyD, keyDs]
    simp [keyD, keyDs, d1]
  · have d2 : PyData.depthAll (p.ln.map datO) ≤ 2 := depthAll_le fun d hd => by
      obtain ⟨e, _, rfl⟩ := List.mem_map.mp hd
      simp only [datO, PyData.depth, PyData.depthAll]
      omega
    simp only [PyData.depth, PyData.depthAll]
    omega
  · have d3 : (p.ln.map datO).map nrm = p.ln.map (keyO zL) := by
      rw [List.map_map]
      exact List.map_congr_left fun e _ => by
        show nrm (datO e) = keyO zL e
        cases e with
        | mk o l q a => cases o <;> cases l <;> simp [datO, nrm, nrms, keyO, zL]
    simp only [keyOf, nrm, nrms, nrms_map, d3]
/-! ### the known stands as a table -/
def RwK (z : Bool → Int) (F : V → List Stp → Prop) (kv : PyData × V) (x : Pt × List Stp) : Prop := kv.1 = keyOf z x.1 ∧ F kv.2 x.2
theorem kn_val {z : Bool → Int} (hz : ∀ a b, z a = z b → a = b) {F : V → List Stp → Prop} (p : Pt) : ∀ {kvs : List (PyData × V)} {kn : List (Pt × List Stp)}, Paired (RwK z F) kvs kn → (valV kvs (keyOf z p)).isSome = knows kn p
  | _, _, .nil => rfl
  | _, _, @Paired.cons _ _ _ kv x kvs kn h t => by
    have ih := kn_val hz p t
    show (valV (kv :: kvs) (keyOf z p)).isSome = (decide (x.1 = p) || knows kn p)
    by_cases e : x.1 = p
    · rw [valV_pos (h.1.trans (by rw [e])), decide_eq_true e]
      rfl
    · rw [valV_neg (fun c => e (key_inj hz (h.1.symm.trans c))), decide_eq_false e, Bool.false_or]
      exact ih
theorem kn_get {z : Bool → Int} (hz : ∀ a b, z a = z b → a = b) {F : V → List Stp → Prop} {p : Pt} {r : List Stp} : ∀ {kvs : List (PyData × V)} {kn : List (Pt × List Stp)}, Paired (RwK z F) kvs kn → (kn.map (·.1)).Nodup → (p, r) ∈ kn → ∃ v, valV kvs (keyOf z p) = some v ∧ F v r
  | _, _, .nil, _, h => nomatch h
  | _, _, @Paired.cons _ _ _ kv x kvs kn h t, nd, hm => by
    rw [List.map_cons, List.nodup_cons] at nd
    rcases List.mem_cons.mp hm with e | e
    · subst e
      exact ⟨kv.2, valV_pos h.1, h.2⟩
    · have ne : ¬ x.1 = p := fun c => nd.1 (by rw [c]; exact List.mem_map_of_mem (f := (·.1)) e)
      rw [valV_neg (fun c => ne (key_inj hz (h.1.symm.trans c)))]
      exact kn_get hz t nd.2 e
theorem put_new {kvs : List (PyData × V)} {k : PyData} {v : V} (h : valV kvs k = none) : putK kvs k v = kvs ++ [(k, v)] := by
  unfold putK
  rw [valV_any, h]
  rfl
theorem prd_back {α β : Type} {F : α → β → Prop} : ∀ {xs : List α} {ys : List β} {i : Nat} {y : β}, Paired F xs ys → ys[i]? = some y → ∃ x, xs[i]? = some x ∧ F x y
  | _, _, _, _, .nil, h => by simp at h
  | _, _, 0, _, .cons h1 _, h => by
    simp at h
    subst h
    exact ⟨_, rfl, h1⟩
  | _, _, i + 1, _, .cons _ t, h => by
    rw [List.getElem?_cons_succ] at h
    obtain ⟨x, e1, e2⟩ := prd_back t h
    exact ⟨x, by rw [List.getElem?_cons_succ]; exact e1, e2⟩
def nV (n : Nat) : V := .int (n : Nat)
theorem nV_get {l : List Nat} {i : Nat} {x : V} (h : (l.map nV)[i]? = some x) : ∃ n, l[i]? = some n ∧ x = .int (n : Nat) := by
  rw [List.getElem?_map] at h
  obtain ⟨n, h1, h2⟩ := Option.map_eq_some_iff.mp h
  exact ⟨n, h1, h2.symm⟩
theorem st_at {W : Wd} {G : Hp} {sa : Addr} (h : StAt G sa W.st) {e q : Nat} (he : e < W.st.length) (hq : q ≤ 3) : ∃ us r ns, G sa = some (.tup us) ∧ us.length = W.st.length ∧ us[e]? = some (.ref r) ∧ G r = some (.tup ns) ∧ ns[q]? = some (.int (W.an e q)) := by
  obtain ⟨us, h1, h2⟩ := h
  obtain ⟨x, hx, r, rfl, hr, hl⟩ := prd_back h2 (List.getElem?_eq_getElem he)
  refine ⟨us, r, _, h1, prd_len h2, hx, hr, ?_⟩
  have q4 : q < (W.st[e]).length := by omega
  have e1 : W.an e q = (W.st[e])[q] := by
    unfold Wd.an
    have e2 : W.st.getD e [] = W.st[e] := by rw [List.getD_eq_getElem?_getD, List.getElem?_eq_getElem he]; rfl
    rw [e2, List.getD_eq_getElem?_getD, List.getElem?_eq_getElem q4]
    rfl
  rw [e1, List.getElem?_map, List.getElem?_eq_getElem q4]
  rfl
/-- the questions, the store -/
def WAt (G : Hp) (W : Wd) (sa qa : Addr) : Prop := OkW W ∧ StAt G sa W.st ∧ G qa = some (.lst (W.qs.map nV))
theorem WAt.same {G G' : Hp} {W : Wd} {sa qa : Addr} (e : Same G G') (h : WAt G W sa qa) : WAt G' W sa qa := ⟨h.1, h.2.1.same e, e _ _ h.2.2⟩
def q0 (W : Wd) : Nat := W.qs.headD 0
theorem q0_get {W : Wd} (w : OkW W) : (W.qs.map nV)[0]? = some (.int (q0 W : Nat)) ∧ q0 W ≤ 3 := by
  have h := w.qs.1
  have h3 := w.q3
  unfold q0
  cases e : W.qs with
  | nil => rw [e] at h; simp at h
  | cons x xs => exact ⟨rfl, h3 x (by rw [e]; exact List.mem_cons_self)⟩
def startL (W : Wd) : Ls := ⟨0, [⟨0, 0, q0 W, W.an 0 (q0 W)⟩], 0, q0 W, 0, W.an 0 (q0 W), 0⟩
def startP (W : Wd) : Pt := ⟨0, [⟨true, true, q0 W, W.an 0 (q0 W)⟩], q0 W, W.an 0 (q0 W), 0⟩
theorem start_to (W : Wd) : toP (startL W) = startP W := rfl
theorem start_lok (W : Wd) : LOk (startL W) := fun e he => by
  rw [List.mem_singleton.mp he]
  exact ⟨Nat.le_refl _, Nat.le_refl _⟩
theorem start_ok {W : Wd} (w : OkW W) : OkP W (startP W) := ⟨w.st.1, w.rm.1, (q0_get w).2, fun e he => by
  rw [List.mem_singleton.mp he]
  exact (q0_get w).2⟩
theorem prd_drop {α β : Type} {F : α → β → Prop} : ∀ {xs : List α} {ys : List β} (n : Nat), Paired F xs ys → Paired F (xs.drop n) (ys.drop n)
  | _, _, 0, h => h
  | _, _, _ + 1, .nil => .nil
  | _, _, n + 1, .cons _ h2 => prd_drop n h2

section
variable {P : Program} {w : World} {K : PySem.W.Frag} {mg : Str → Option Value} {base : Heap}
end
end K48
set_option Elab.async false
set_option linter.all false
set_option maxRecDepth 100000
set_option maxHeartbeats 4000000
namespace K48
open PySem PySem.Spec PyProof.Rows L2 XL
/-! ### there are fewer stands than a list may hold -/
structure OkA (W : Wd) : Prop where
  w : OkW W
  an : ∀ r ∈ W.st, ∀ x ∈ r, (1 : Int) ≤ x ∧ x ≤ 3
theorem OkA.val {W : Wd} (w : OkA W) {e q : Nat} (he : e < W.st.length) (hq : q ≤ 3) : 1 ≤ W.an e q ∧ W.an e q ≤ 3 := by
  have hr := w.w.row _ (List.getElem_mem he)
  have e2 : W.st.getD e [] = W.st[e] := by rw [List.getD_eq_getElem?_getD, List.getElem?_eq_getElem he]; rfl
  have q4 : q < (W.st[e]).length := by omega
  unfold Wd.an
  rw [e2, List.getD_eq_getElem?_getD, List.getElem?_eq_getElem q4]
  exact w.an _ (List.getElem_mem he) _ (List.getElem_mem q4)
/-- a stand that there can be, with its answers -/
structure OkQ (W : Wd) (p : Pt) : Prop where
  ok : OkP W p
  du : 1 ≤ p.du ∧ p.du ≤ 3
  sh : 0 ≤ p.sh ∧ p.sh ≤ 3
  an : ∀ e ∈ p.ln, (1 : Int) ≤ e.an ∧ e.an ≤ 3
theorem sentP_okQ {W : Wd} (w : OkA W) {p : Pt} (h : OkQ W p) {q : Nat} (hq : q ∈ W.qs) (b : Bool) : OkQ W (sentP W p q b) := by
  have v := w.val h.ok.1 (w.w.q3 q hq)
  refine ⟨sentP_ok w.w h.ok hq b, v, ⟨Int.le_refl _, by show (0 : Int) ≤ 3; decide⟩, fun e he => ?_⟩
  rcases List.mem_append.mp (List.mem_of_mem_drop he) with z | z
  · obtain ⟨e', k1, rfl⟩ := List.mem_map.mp z
    exact h.an e' k1
  · rw [List.mem_singleton.mp z]
    exact v
theorem aftP_okQ {W : Wd} (w : OkA W) {p : Pt} (h : OkQ W p) {s : Stp} (hs : StpOk W p s) : OkQ W (aftP W p s) := by
  cases s with
  | ask q => exact sentP_okQ w h hs false
  | again q => exact sentP_okQ w h hs true
  | far => exact ⟨aftP_ok w.w h.ok hs, h.du, h.sh, h.an⟩
  | land n =>
    have ok := aftP_ok w.w h.ok hs
    have hs : n < p.ln.length := hs
    have e0 : aftP W p (.land n) = landP W p n p.ln[n] := by
      show (match p.ln[n]? with | some e => landP W p n e | none => p) = _
      rw [List.getElem?_eq_getElem hs]
    rw [e0] at ok ⊢
    have ha := h.an _ (List.getElem_mem hs)
    refine ⟨ok, h.du, ?_, fun e he => ?_⟩
    · have c : (landP W p n p.ln[n]).sh = p.ln[n].an ∨ (landP W p n p.ln[n]).sh = p.sh := by
        unfold landP
        dsimp only
        split
        · exact .inl rfl
        · exact .inr rfl
      have := h.sh
      rcases c with c | c <;> rw [c] <;> omega
    · rcases List.mem_append.mp he with z | z
      · exact h.an e (List.mem_of_mem_take z)
      · exact h.an e (List.mem_of_mem_drop z)
theorem mix {a b c d m : Nat} (h : a * m + c = b * m + d) (hc : c < m) (hd : d < m) : a = b ∧ c = d := by
  have m0 : 0 < m := by omega
  have h1 : (a * m + c) / m = a := by rw [Nat.mul_comm, Nat.mul_add_div m0, Nat.div_eq_of_lt hc, Nat.add_zero]
  have h2 : (b * m + d) / m = b := by rw [Nat.mul_comm, Nat.mul_add_div m0, Nat.div_eq_of_lt hd, Nat.add_zero]
  have e : a = b := by rw [← h1, ← h2, h]
  subst e
  exact ⟨rfl, by omega⟩
def b2 (b : Bool) : Nat := if b then 1 else 0
theorem b2_lt (b : Bool) : b2 b < 2 := by cases b <;> decide
theorem b2_inj : ∀ {a b : Bool}, b2 a = b2 b → a = b := by decide
def codeO (e : Oq) : Nat := ((b2 e.own * 2 + b2 e.lt) * 4 + e.qu) * 3 + (e.an - 1).toNat
theorem codeO_lt {e : Oq} (h1 : e.qu ≤ 3) (h2 : 1 ≤ e.an ∧ e.an ≤ 3) : codeO e < 48 := by
  have := b2_lt e.own
  have := b2_lt e.lt
  unfold codeO
  omega
theorem codeO_inj {x y : Oq} (x1 : x.qu ≤ 3) (x2 : 1 ≤ x.an ∧ x.an ≤ 3) (y1 : y.qu ≤ 3) (y2 : 1 ≤ y.an ∧ y.an ≤ 3) (h : codeO x = codeO y) : x = y := by
  obtain ⟨h1, h2⟩ := mix h (by omega) (by omega)
  obtain ⟨h3, h4⟩ := mix h1 (by omega) (by omega)
  obtain ⟨h5, h6⟩ := mix h3 (b2_lt _) (b2_lt _)
  cases x with
  | mk xo xl xq xa =>
    cases y with
    | mk yo yl yq ya =>
      have e1 : xo = yo := b2_inj h5
      have e2 : xl = yl := b2_inj h6
      have e3 : xq = yq := h4
      have h2 : (xa - 1).toNat = (ya - 1).toNat := h2
      have x2 : 1 ≤ xa ∧ xa ≤ 3 := x2
      have y2 : 1 ≤ ya ∧ ya ≤ 3 := y2
      have e4 : xa = ya := by omega
      rw [e1, e2, e3, e4]
def codeL : List Oq → Nat
  | [] => 0
  | e :: r => codeL r * 48 + codeO e + 1
theorem codeL_lt : ∀ {l : List Oq} (n : Nat), l.length ≤ n → (∀ e ∈ l, codeO e < 48) → codeL l * 47 + 47 < 48 ^ (n + 1)
  | [], n, _, _ => by
    show 0 * 47 + 47 < 48 ^ (n + 1)
    rw [Nat.pow_succ]
    have : 0 < 48 ^ n := Nat.pow_pos (by decide)
    omega
  | e :: r, 0, h, _ => by simp at h
  | e :: r, n + 1, h, k => by
    have ih := codeL_lt (l := r) n (by simpa using h) fun x hx => k x (List.mem_cons_of_mem _ hx)
    have := k e List.mem_cons_self
    show (codeL r * 48 + codeO e + 1) * 47 + 47 < 48 ^ (n + 1 + 1)
    rw [Nat.pow_succ]
    omega
theorem codeL_inj : ∀ {l m : List Oq}, (∀ e ∈ l, e.qu ≤ 3 ∧ 1 ≤ e.an ∧ e.an ≤ 3) → (∀ e ∈ m, e.qu ≤ 3 ∧ 1 ≤ e.an ∧ e.an ≤ 3) → codeL l = codeL m → l = m
  | [], [], _, _, _ => rfl
  | [], _ :: _, _, _, h => by simp [codeL] at h
  | _ :: _, [], _, _, h => by simp [codeL] at h
  | x :: l, y :: m, hl, hm, h => by
    have hx := hl x List.mem_cons_self
    have hy := hm y List.mem_cons_self
    have h0 : codeL l * 48 + codeO x = codeL m * 48 + codeO y := by
      have h : codeL l * 48 + codeO x + 1 = codeL m * 48 + codeO y + 1 := h
      omega
    obtain ⟨h1, h2⟩ := mix h0 (codeO_lt hx.1 hx.2) (codeO_lt hy.1 hy.2)
    rw [codeO_inj hx.1 hx.2 hy.1 hy.2 h2, codeL_inj (fun e he => hl e (List.mem_cons_of_mem _ he)) (fun e he => hm e (List.mem_cons_of_mem _ he)) h1]
def codeP (p : Pt) : Nat := (((p.ed * 112945 + codeL p.ln) * 4 + p.la) * 3 + (p.du - 1).toNat) * 4 + p.sh.toNat
theorem okQ_ln {W : Wd} {p : Pt} (w : OkA W) (h : OkQ W p) : codeL p.ln < 112945 := by
  have := codeL_lt (l := p.ln) 3 (Nat.le_trans h.ok.2.1 w.w.rm.2) fun e he => codeO_lt (h.ok.2.2.2 e he) (h.an e he)
  have e : (48 : Nat) ^ (3 + 1) = 5308416 := by decide
  omega
theorem codeP_lt {W : Wd} {p : Pt} (w : OkA W) (h : OkQ W p) : codeP p < 16264080 := by
  have h1 := okQ_ln w h
  have h2 := h.ok.1
  have h3 := w.w.st.2
  have h4 := h.ok.2.2.1
  have h5 := h.du
  have h6 := h.sh
  unfold codeP
  omega
theorem codeP_inj {W : Wd} {p q : Pt} (w : OkA W) (hp : OkQ W p) (hq : OkQ W q) (h : codeP p = codeP q) : p = q := by
  have p5 := hp.du
  have p6 := hp.sh
  have q5 := hq.du
  have q6 := hq.sh
  obtain ⟨h1, h2⟩ := mix h (by omega) (by omega)
  obtain ⟨h3, h4⟩ := mix h1 (by omega) (by omega)
  obtain ⟨h5, h6⟩ := mix h3 (by have := hp.ok.2.2.1; omega) (by have := hq.ok.2.2.1; omega)
  obtain ⟨h7, h8⟩ := mix h5 (okQ_ln w hp) (okQ_ln w hq)
  have el := codeL_inj (fun e he => ⟨hp.ok.2.2.2 e he, hp.an e he⟩) (fun e he => ⟨hq.ok.2.2.2 e he, hq.an e he⟩) h8
  have e5 : p.du = q.du := by omega
  have e6 : p.sh = q.sh := by omega
  cases p with
  | mk pe pl pa pd ps =>
    cases q with
    | mk qe ql qa qd qs =>
      have e1 : pe = qe := h7
      have e2 : pl = ql := el
      have e3 : pa = qa := h6
      have e4 : pd = qd := e5
      have e5 : ps = qs := e6
      rw [e1, e2, e3, e4, e5]
theorem nodup_le : ∀ (n : Nat) (l : List Nat), l.Nodup → (∀ x ∈ l, x < n) → l.length ≤ n
  | 0, l, _, h => by
    cases l with
    | nil => exact Nat.le_refl _
    | cons x _ => exact absurd (h x List.mem_cons_self) (Nat.not_lt_zero _)
  | n + 1, l, nd, h => by
    have ih := nodup_le n (l.erase n) (nd.erase n) fun x hx => by
      have h1 := h x (List.mem_of_mem_erase hx)
      have h2 : x ≠ n := fun e => (nd.not_mem_erase) (e ▸ hx)
      omega
    have := List.length_erase_le (a := n) (l := l)
    by_cases m : n ∈ l
    · rw [List.length_erase_of_mem m] at ih
      omega
    · rw [List.erase_of_not_mem m] at ih
      omega
theorem okQ_few {W : Wd} (w : OkA W) {l : List Pt} (nd : l.Nodup) (h : ∀ p ∈ l, OkQ W p) : l.length ≤ 16264080 := by
  rw [← List.length_map (f := codeP)]
  refine nodup_le _ _ ?_ fun x hx => ?_
  · refine List.pairwise_map.mpr (List.Pairwise.imp_of_mem (fun {a b} ha hb ne e => ne (codeP_inj w (h a ha) (h b hb) e)) nd)
  · obtain ⟨p, hp, rfl⟩ := List.mem_map.mp hx
    exact codeP_lt w (h p hp)

/-! ### the search without a bound, and what it finds -/
noncomputable def bfsN (W : Wd) : Nat → List (Pt × List Stp) → List (Pt × List Stp) → Rs
  | 0, _, _ => .many
  | n + 1, kn, lv => match levS W lv ⟨kn, []⟩ with
    | .error r => .late r
    | .ok b => if b.fu = [] then .none else bfsN W n b.kn b.fu
def endP (W : Wd) (p : Pt) (r : List Stp) : Pt := r.foldl (aftP W) p
def okRow (W : Wd) : Pt → List Stp → Prop
  | _, [] => True
  | p, s :: r => s ∈ stepsP W p ∧ okRow W (aftP W p s) r
theorem end_snoc {W : Wd} {p : Pt} {r : List Stp} {s : Stp} : endP W p (r ++ [s]) = aftP W (endP W p r) s := by
  unfold endP
  rw [List.foldl_append]
  rfl
theorem okRow_snoc {W : Wd} : ∀ {r : List Stp} {p : Pt} {s : Stp}, okRow W p (r ++ [s]) ↔ okRow W p r ∧ s ∈ stepsP W (endP W p r)
  | [], p, s => ⟨fun h => ⟨True.intro, h.1⟩, fun h => ⟨h.2, True.intro⟩⟩
  | t :: r, p, s => by
    have ih := okRow_snoc (W := W) (r := r) (p := aftP W p t) (s := s)
    exact ⟨fun h => ⟨⟨h.1, (ih.mp h.2).1⟩, (ih.mp h.2).2⟩, fun h => ⟨h.1.1, ih.mpr ⟨h.1.2, h.2⟩⟩⟩
/-- not late on the way -/
def noLate (W : Wd) (p : Pt) (r : List Stp) : Prop := ∀ i, i ≤ r.length → lateP (endP W p (r.take i)) = false
theorem noLate_snoc {W : Wd} {p : Pt} {r : List Stp} {s : Stp} (h : noLate W p r) (h2 : lateP (aftP W (endP W p r) s) = false) : noLate W p (r ++ [s]) := fun i hi => by
  rw [List.length_append] at hi
  have hi : i ≤ r.length + 1 := hi
  by_cases e : i ≤ r.length
  · rw [List.take_append_of_le_length e]
    exact h i e
  · have e2 : i = (r ++ [s]).length := by rw [List.length_append]; show i = r.length + 1; omega
    rw [e2, List.take_length, end_snoc]
    exact h2
theorem fold_ok {α β ε : Type} {f : β → α → Except ε β} {I : List α → β → Prop} (hs : ∀ pre x b b', I pre b → f b x = .ok b' → I (pre ++ [x]) b') : ∀ (l pre : List α) {b b' : β}, I pre b → l.foldlM f b = .ok b' → I (pre ++ l) b'
  | [], pre, b, b', h, e => by
    cases e
    rw [List.append_nil]
    exact h
  | x :: xs, pre, b, b', h, e => by
    rw [List.foldlM_cons] at e
    cases e1 : f b x with
    | error z => rw [e1] at e; cases e
    | ok c =>
      rw [e1] at e
      have := fold_ok hs xs (pre ++ [x]) (hs _ _ _ _ h e1) e
      rw [List.append_assoc] at this
      exact this
theorem fold_er {α β ε : Type} {f : β → α → Except ε β} {I : List α → β → Prop} (hs : ∀ pre x b b', I pre b → f b x = .ok b' → I (pre ++ [x]) b') : ∀ (l pre : List α) {b : β} {z : ε}, I pre b → l.foldlM f b = .error z → ∃ pre' x b', x ∈ l ∧ I pre' b' ∧ f b' x = .error z
  | [], _, _, _, _, e => by cases e
  | x :: xs, pre, b, z, h, e => by
    rw [List.foldlM_cons] at e
    cases e1 : f b x with
    | error y =>
      rw [e1] at e
      cases e
      exact ⟨pre, x, b, List.mem_cons_self, h, e1⟩
    | ok c =>
      rw [e1] at e
      obtain ⟨p', y, b', k1, k2, k3⟩ := fold_er hs xs (pre ++ [x]) (hs _ _ _ _ h e1) e
      exact ⟨p', y, b', List.mem_cons_of_mem _ k1, k2, k3⟩
/-- what stands behind a part of a level: o is the list of those from which steps were taken -/
structure Lev (W : Wd) (kn : List (Pt × List Stp)) (new : Pt × List Stp → Prop) (b : Bs) : Prop where
  old : ∀ y ∈ kn, y ∈ b.kn
  spl : ∀ y ∈ b.kn, y ∈ kn ∨ y ∈ b.fu
  fu : ∀ y ∈ b.fu, y ∈ b.kn
  new : ∀ y ∈ b.fu, new y
  len : b.kn.length = kn.length + b.fu.length
  nd : (b.kn.map (·.1)).Nodup
theorem knows_iff {kn : List (Pt × List Stp)} {p : Pt} : knows kn p = true ↔ ∃ x ∈ kn, x.1 = p := by
  unfold knows
  rw [List.any_eq_true]
  exact ⟨fun ⟨x, h, e⟩ => ⟨x, h, of_decide_eq_true e⟩, fun ⟨x, h, e⟩ => ⟨x, h, decide_eq_true e⟩⟩
theorem knows_mono {kn kn' : List (Pt × List Stp)} {p : Pt} (h : ∀ y ∈ kn, y ∈ kn') (k : knows kn p = true) : knows kn' p = true := by
  obtain ⟨x, h1, h2⟩ := knows_iff.mp k
  exact knows_iff.mpr ⟨x, h x h1, h2⟩
/-- y is one step behind a stand of lv, not late -/
def Beh (W : Wd) (lv : List (Pt × List Stp)) (y : Pt × List Stp) : Prop := ∃ x ∈ lv, ∃ s ∈ stepsP W x.1, y = (aftP W x.1 s, x.2 ++ [s]) ∧ lateP y.1 = false
theorem one_lev {W : Wd} {kn lv : List (Pt × List Stp)} {x : Pt × List Stp} (hx : x ∈ lv) {s : Stp} (hs : s ∈ stepsP W x.1) {b b' : Bs} (h : Lev W kn (Beh W lv) b) (e : oneS W x.1 x.2 b s = .ok b') : Lev W kn (Beh W lv) b' ∧ knows b'.kn (aftP W x.1 s) = true ∧ ∀ y ∈ b.kn, y ∈ b'.kn := by
  unfold oneS at e
  by_cases k : knows b.kn (aftP W x.1 s) = true
  · rw [if_pos k] at e
    cases e
    exact ⟨h, k, fun _ hy => hy⟩
  · rw [if_neg k] at e
    by_cases l : lateP (aftP W x.1 s) = true
    · rw [if_pos l] at e
      cases e
    · rw [if_neg l] at e
      cases e
      have mem : (aftP W x.1 s, x.2 ++ [s]) ∈ b.kn ++ [(aftP W x.1 s, x.2 ++ [s])] := List.mem_append_right _ (List.mem_singleton.mpr rfl)
      refine ⟨⟨fun y hy => List.mem_append_left _ (h.old y hy), fun y hy => ?_, fun y hy => ?_, fun y hy => ?_, ?_, ?_⟩, knows_iff.mpr ⟨_, mem, rfl⟩, fun y hy => List.mem_append_left _ hy⟩
      · rcases List.mem_append.mp hy with z | z
        · rcases h.spl y z with z | z
          · exact .inl z
          · exact .inr (List.mem_append_left _ z)
        · exact .inr (List.mem_append_right _ z)
      · rcases List.mem_append.mp hy with z | z
        · exact List.mem_append_left _ (h.fu y z)
        · exact List.mem_append_right _ z
      · rcases List.mem_append.mp hy with z | z
        · exact h.new y z
        · rw [List.mem_singleton.mp z]
          exact ⟨x, hx, s, hs, rfl, by simpa using l⟩
      · show (b.kn ++ [_]).length = kn.length + (b.fu ++ [_]).length
        rw [List.length_append, List.length_append, h.len]
        rfl
      · show ((b.kn ++ [_]).map _).Nodup
        rw [List.map_append, List.nodup_append]
        refine ⟨h.nd, by simp, fun y hy z hz e => ?_⟩
        obtain ⟨u, hu, rfl⟩ := List.mem_map.mp hy
        simp at hz
        exact k (knows_iff.mpr ⟨u, hu, e.trans hz⟩)
theorem steps_lev {W : Wd} {kn lv : List (Pt × List Stp)} {x : Pt × List Stp} (hx : x ∈ lv) {b b' : Bs} (h : Lev W kn (Beh W lv) b) (e : stepsS W x.1 x.2 (stepsP W x.1) b = .ok b') : Lev W kn (Beh W lv) b' ∧ (∀ s ∈ stepsP W x.1, knows b'.kn (aftP W x.1 s) = true) ∧ ∀ y ∈ b.kn, y ∈ b'.kn := by
  have key := fold_ok (f := fun b (s : {s // s ∈ stepsP W x.1}) => oneS W x.1 x.2 b s.1) (I := fun pre c => Lev W kn (Beh W lv) c ∧ (∀ s ∈ pre, knows c.kn (aftP W x.1 s.1) = true) ∧ ∀ y ∈ b.kn, y ∈ c.kn)
    (fun pre s c c' I e => by
      obtain ⟨k1, k2, k3⟩ := one_lev hx s.2 I.1 e
      refine ⟨k1, fun t ht => ?_, fun y hy => k3 y (I.2.2 y hy)⟩
      rcases List.mem_append.mp ht with z | z
      · exact knows_mono k3 (I.2.1 t z)
      · rw [List.mem_singleton.mp z]
        exact k2) (stepsP W x.1).attach [] (b := b) (b' := b') ⟨h, (fun _ h => nomatch h), fun _ hy => hy⟩
  have e2 : (stepsP W x.1).attach.foldlM (fun b s => oneS W x.1 x.2 b s.1) b = .ok b' := by
    rw [← e]
    unfold stepsS
    rw [← List.foldlM_map (f := fun s : {s // s ∈ stepsP W x.1} => s.1) (g := oneS W x.1 x.2), List.attach_map_subtype_val]
  obtain ⟨k1, k2, k3⟩ := key e2
  exact ⟨k1, fun s hs => k2 ⟨s, hs⟩ (by simp), k3⟩

/-! ### the search finds the nearest late stand -/
theorem lev_lev {W : Wd} {kn lv : List (Pt × List Stp)} (nd : (kn.map (·.1)).Nodup) {b : Bs} (e : levS W lv ⟨kn, []⟩ = .ok b) : Lev W kn (Beh W lv) b ∧ ∀ x ∈ lv, ∀ s ∈ stepsP W x.1, knows b.kn (aftP W x.1 s) = true := by
  have h0 : Lev W kn (Beh W lv) ⟨kn, []⟩ := ⟨fun _ h => h, fun _ h => .inl h, (fun _ h => nomatch h), (fun _ h => nomatch h), rfl, nd⟩
  have key := fold_ok (f := fun b (x : {x // x ∈ lv}) => stepsS W x.1.1 x.1.2 (stepsP W x.1.1) b) (I := fun pre c => Lev W kn (Beh W lv) c ∧ ∀ x ∈ pre, ∀ s ∈ stepsP W x.1.1, knows c.kn (aftP W x.1.1 s) = true)
    (fun pre x c c' I e => by
      obtain ⟨k1, k2, k3⟩ := steps_lev x.2 I.1 e
      refine ⟨k1, fun y hy s hs => ?_⟩
      rcases List.mem_append.mp hy with z | z
      · exact knows_mono k3 (I.2 y z s hs)
      · rw [List.mem_singleton.mp z] at hs ⊢
        exact k2 s hs) lv.attach [] (b := ⟨kn, []⟩) (b' := b) ⟨h0, (fun _ h => nomatch h)⟩
  have e2 : lv.attach.foldlM (fun b x => stepsS W x.1.1 x.1.2 (stepsP W x.1.1) b) ⟨kn, []⟩ = .ok b := by
    rw [← e]
    unfold levS
    rw [← List.foldlM_map (f := fun s : {s // s ∈ lv} => s.1) (g := fun b (x : Pt × List Stp) => stepsS W x.1 x.2 (stepsP W x.1) b), List.attach_map_subtype_val]
  obtain ⟨k1, k2⟩ := key e2
  exact ⟨k1, fun x hx => k2 ⟨x, hx⟩ (by simp)⟩
theorem one_er {W : Wd} {p : Pt} {row : List Stp} {b : Bs} {s : Stp} {r : List Stp} (e : oneS W p row b s = .error r) : r = row ++ [s] ∧ lateP (aftP W p s) = true := by
  unfold oneS at e
  split at e
  · cases e
  · split at e
    · next l =>
      cases e
      exact ⟨rfl, l⟩
    · cases e
theorem lev_er {W : Wd} {lv : List (Pt × List Stp)} {b : Bs} {r : List Stp} (e : levS W lv b = .error r) : ∃ x ∈ lv, ∃ s ∈ stepsP W x.1, r = x.2 ++ [s] ∧ lateP (aftP W x.1 s) = true := by
  obtain ⟨_, x, b1, hx, _, e1⟩ := fold_er (f := fun b (x : Pt × List Stp) => stepsS W x.1 x.2 (stepsP W x.1) b) (I := fun _ _ => True) (fun _ _ _ _ _ _ => True.intro) lv [] True.intro e
  obtain ⟨_, s, b2, hs, _, e2⟩ := fold_er (f := oneS W x.1 x.2) (I := fun _ _ => True) (fun _ _ _ _ _ _ => True.intro) (stepsP W x.1) [] True.intro e1
  obtain ⟨k1, k2⟩ := one_er e2
  exact ⟨x, hx, s, hs, k1, k2⟩
/-- what is known behind d levels, from p0 -/
structure Srch (W : Wd) (p0 : Pt) (d : Nat) (kn lv : List (Pt × List Stp)) : Prop where
  row : ∀ x ∈ kn, okRow W p0 x.2 ∧ endP W p0 x.2 = x.1 ∧ noLate W p0 x.2 ∧ x.2.length ≤ d
  lev : ∀ x ∈ lv, x ∈ kn ∧ x.2.length = d
  out : ∀ x ∈ kn, x ∈ lv ∨ ∀ s ∈ stepsP W x.1, knows kn (aftP W x.1 s) = true
  all : ∀ r, okRow W p0 r → r.length ≤ d → knows kn (endP W p0 r) = true
  nd : (kn.map (·.1)).Nodup
  few : lv.length ≤ kn.length
  len : ∀ x ∈ kn, x.2.length = d → x ∈ lv
theorem srch0 {W : Wd} {p0 : Pt} (h : lateP p0 = false) : Srch W p0 0 [(p0, [])] [(p0, [])] := by
  refine ⟨fun x hx => ?_, fun x hx => ⟨hx, by rw [List.mem_singleton.mp hx]; rfl⟩, fun x hx => .inl hx, fun r hr hl => ?_, by simp, Nat.le_refl _, fun x hx _ => hx⟩
  · rw [List.mem_singleton.mp hx]
    refine ⟨True.intro, rfl, fun i hi => ?_, Nat.le_refl _⟩
    have e : i = 0 := Nat.le_zero.mp hi
    rw [e]
    exact h
  · have e : r = [] := List.length_eq_zero_iff.mp (Nat.le_zero.mp hl)
    rw [e]
    exact knows_iff.mpr ⟨_, List.mem_singleton.mpr rfl, rfl⟩
theorem srch_next {W : Wd} {p0 : Pt} {d : Nat} {kn lv : List (Pt × List Stp)} (h : Srch W p0 d kn lv) {b : Bs} (e : levS W lv ⟨kn, []⟩ = .ok b) : Srch W p0 (d + 1) b.kn b.fu ∧ b.kn.length = kn.length + b.fu.length := by
  obtain ⟨L, ex⟩ := lev_lev h.nd e
  have newrow : ∀ y ∈ b.fu, okRow W p0 y.2 ∧ endP W p0 y.2 = y.1 ∧ noLate W p0 y.2 ∧ y.2.length = d + 1 := fun y hy => by
    obtain ⟨x, hx, s, hs, rfl, hl⟩ := L.new y hy
    obtain ⟨hk, hd⟩ := h.lev x hx
    obtain ⟨r1, r2, r3, _⟩ := h.row x hk
    refine ⟨okRow_snoc.mpr ⟨r1, by rw [r2]; exact hs⟩, by rw [end_snoc, r2], noLate_snoc r3 (by rw [r2]; exact hl), by rw [List.length_append, hd]; rfl⟩
  refine ⟨⟨fun y hy => ?_, fun y hy => ⟨L.fu y hy, (newrow y hy).2.2.2⟩, fun y hy => ?_, fun r hr hl => ?_, L.nd, by rw [L.len]; exact Nat.le_add_left _ _, fun y hy hl => ?_⟩, L.len⟩
  · rcases L.spl y hy with z | z
    · obtain ⟨r1, r2, r3, r4⟩ := h.row y z
      exact ⟨r1, r2, r3, Nat.le_succ_of_le r4⟩
    · obtain ⟨r1, r2, r3, r4⟩ := newrow y z
      exact ⟨r1, r2, r3, Nat.le_of_eq r4⟩
  · rcases L.spl y hy with z | z
    · rcases h.out y z with c | c
      · exact .inr (ex y c)
      · exact .inr fun s hs => knows_mono L.old (c s hs)
    · exact .inl z
  · by_cases hd : r.length ≤ d
    · exact knows_mono L.old (h.all r hr hd)
    · have ne : r ≠ [] := fun z => by rw [z] at hd; exact hd (Nat.zero_le _)
      obtain ⟨r0, s, rfl⟩ : ∃ r0 s, r = r0 ++ [s] := ⟨r.dropLast, r.getLast ne, (List.dropLast_concat_getLast ne).symm⟩
      obtain ⟨k1, k2⟩ := okRow_snoc.mp hr
      have l0 : r0.length ≤ d := by
        rw [List.length_append] at hl
        have hl : r0.length + 1 ≤ d + 1 := hl
        omega
      obtain ⟨x, hx, e1⟩ := knows_iff.mp (h.all r0 k1 l0)
      rw [end_snoc, ← e1]
      rw [← e1] at k2
      rcases h.out x hx with c | c
      · exact ex x c s k2
      · exact knows_mono L.old (c s k2)
  · rcases L.spl y hy with z | z
    · have := (h.row y z).2.2.2
      omega
    · exact z
/-- the nearest late stand -/
structure LateRow (W : Wd) (p0 : Pt) (r : List Stp) : Prop where
  ok : okRow W p0 r
  late : lateP (endP W p0 r) = true
  way : ∀ i, i < r.length → lateP (endP W p0 (r.take i)) = false
  min : ∀ r', okRow W p0 r' → r'.length < r.length → lateP (endP W p0 r') = false
theorem srch_late {W : Wd} {p0 : Pt} {d : Nat} {kn lv : List (Pt × List Stp)} (h : Srch W p0 d kn lv) {r : List Stp} (e : levS W lv ⟨kn, []⟩ = .error r) : LateRow W p0 r := by
  obtain ⟨x, hx, s, hs, rfl, hl⟩ := lev_er e
  obtain ⟨hk, hd⟩ := h.lev x hx
  obtain ⟨r1, r2, r3, _⟩ := h.row x hk
  have len : (x.2 ++ [s]).length = d + 1 := by rw [List.length_append, hd]; rfl
  refine ⟨okRow_snoc.mpr ⟨r1, by rw [r2]; exact hs⟩, by rw [end_snoc, r2]; exact hl, fun i hi => ?_, fun r' k1 k2 => ?_⟩
  · rw [len] at hi
    rw [List.take_append_of_le_length (by omega)]
    exact r3 i (by omega)
  · rw [len] at k2
    obtain ⟨y, hy, e1⟩ := knows_iff.mp (h.all r' k1 (by omega))
    obtain ⟨_, c2, c3, _⟩ := h.row y hy
    have := c3 y.2.length (Nat.le_refl _)
    rw [List.take_length, c2, e1] at this
    exact this
theorem srch_none {W : Wd} {p0 : Pt} {d : Nat} {kn : List (Pt × List Stp)} (h : Srch W p0 d kn []) : ∀ r, okRow W p0 r → lateP (endP W p0 r) = false := by
  have cl : ∀ r, okRow W p0 r → knows kn (endP W p0 r) = true := by
    intro r
    generalize hn : r.length = n
    induction n generalizing r with
    | zero => exact fun k => h.all r k (by omega)
    | succ n ih =>
      intro k
      have ne : r ≠ [] := fun z => by rw [z] at hn; cases hn
      obtain ⟨r0, s, rfl⟩ : ∃ r0 s, r = r0 ++ [s] := ⟨r.dropLast, r.getLast ne, (List.dropLast_concat_getLast ne).symm⟩
      obtain ⟨k1, k2⟩ := okRow_snoc.mp k
      have l0 : r0.length = n := by
        rw [List.length_append] at hn
        have hn : r0.length + 1 = n + 1 := hn
        omega
      obtain ⟨x, hx, e1⟩ := knows_iff.mp (ih r0 l0 k1)
      rw [end_snoc, ← e1]
      rw [← e1] at k2
      rcases h.out x hx with c | c
      · exact nomatch c
      · exact c s k2
  intro r k
  obtain ⟨y, hy, e1⟩ := knows_iff.mp (cl r k)
  obtain ⟨_, c2, c3, _⟩ := h.row y hy
  have := c3 y.2.length (Nat.le_refl _)
  rw [List.take_length, c2, e1] at this
  exact this
def Found (W : Wd) (p0 : Pt) : Rs → Prop
  | .late r => LateRow W p0 r
  | .none => ∀ r, okRow W p0 r → lateP (endP W p0 r) = false
  | .many => True
theorem bfsN_found {W : Wd} {p0 : Pt} : ∀ (n d : Nat) (kn lv : List (Pt × List Stp)), Srch W p0 d kn lv → Found W p0 (bfsN W n kn lv)
  | 0, _, _, _, _ => True.intro
  | n + 1, d, kn, lv, h => by
    show Found W p0 (match levS W lv ⟨kn, []⟩ with | .error r => Rs.late r | .ok b => if b.fu = [] then .none else bfsN W n b.kn b.fu)
    cases e : levS W lv ⟨kn, []⟩ with
    | error r => exact srch_late h e
    | ok b =>
      obtain ⟨h1, _⟩ := srch_next h e
      show Found W p0 (if b.fu = [] then .none else bfsN W n b.kn b.fu)
      by_cases z : b.fu = []
      · rw [if_pos z]
        rw [z] at h1
        exact srch_none h1
      · rw [if_neg z]
        exact bfsN_found n (d + 1) b.kn b.fu h1
theorem okRow_okQ {W : Wd} (w : OkA W) : ∀ {r : List Stp} {p : Pt}, OkQ W p → okRow W p r → OkQ W (endP W p r)
  | [], _, h, _ => h
  | s :: r, p, h, k => okRow_okQ w (r := r) (aftP_okQ w h (steps_ok k.1)) k.2
theorem srch_few {W : Wd} (w : OkA W) {p0 : Pt} (h0 : OkQ W p0) {d : Nat} {kn lv : List (Pt × List Stp)} (h : Srch W p0 d kn lv) : kn.length ≤ 16264080 := by
  rw [← List.length_map (f := fun x : Pt × List Stp => x.1)]
  refine okQ_few w h.nd fun p hp => ?_
  obtain ⟨x, hx, rfl⟩ := List.mem_map.mp hp
  obtain ⟨k1, k2, _⟩ := h.row x hx
  rw [← k2]
  exact okRow_okQ w h0 k1
theorem bfsN_ends {W : Wd} (w : OkA W) {p0 : Pt} (h0 : OkQ W p0) : ∀ (n d : Nat) (kn lv : List (Pt × List Stp)), Srch W p0 d kn lv → 16264080 < n + kn.length → bfsN W n kn lv ≠ .many
  | 0, d, kn, lv, h, hl => by
    have := srch_few w h0 h
    omega
  | n + 1, d, kn, lv, h, hl => by
    show (match levS W lv ⟨kn, []⟩ with | .error r => Rs.late r | .ok b => if b.fu = [] then .none else bfsN W n b.kn b.fu) ≠ .many
    cases e : levS W lv ⟨kn, []⟩ with
    | error r => exact fun z => by cases z
    | ok b =>
      obtain ⟨h1, hb⟩ := srch_next h e
      show (if b.fu = [] then Rs.none else bfsN W n b.kn b.fu) ≠ .many
      by_cases z : b.fu = []
      · rw [if_pos z]
        exact fun z => by cases z
      · rw [if_neg z]
        have : 0 < b.fu.length := List.length_pos_iff.mpr z
        exact bfsN_ends w h0 n (d + 1) b.kn b.fu h1 (by omega)

/-! ### late, and what could be late -/
/-- the same world with a fence that lets nothing in: a stand's shown answer stays 0 -/
def W0 (W : Wd) : Wd := ⟨W.st, W.rm, W.qs, fun _ _ _ => false⟩
def flat (p : Pt) : Pt := ⟨p.ed, p.ln, p.la, p.du, 0⟩
theorem flat_steps (W : Wd) (p : Pt) : stepsP (W0 W) (flat p) = stepsP W p := rfl
theorem flat_aft (W : Wd) (p : Pt) (s : Stp) : flat (aftP W p s) = aftP (W0 W) (flat p) s := by
  cases s with
  | ask q => rfl
  | again q => rfl
  | far => rfl
  | land n =>
    show flat (match p.ln[n]? with | some e => landP W p n e | none => p) = (match p.ln[n]? with | some e => landP (W0 W) (flat p) n e | none => flat p)
    cases p.ln[n]? with
    | none => rfl
    | some e => rfl
theorem flat_end (W : Wd) : ∀ (r : List Stp) (p : Pt), flat (endP W p r) = endP (W0 W) (flat p) r
  | [], _ => rfl
  | s :: r, p => by
    have := flat_end W r (aftP W p s)
    rw [flat_aft] at this
    exact this
theorem flat_row (W : Wd) : ∀ (r : List Stp) (p : Pt), okRow W p r ↔ okRow (W0 W) (flat p) r
  | [], _ => Iff.rfl
  | s :: r, p => by
    have := flat_row W r (aftP W p s)
    rw [flat_aft] at this
    exact ⟨fun h => ⟨h.1, this.mp h.2⟩, fun h => ⟨h.1, this.mpr h.2⟩⟩
def canLate (lt : Bool → Bool → Bool → Bool) (p : Pt) : Prop := ∃ e ∈ p.ln, lt e.own (decide (e.qu = p.la)) e.lt = true ∧ e.an ≠ p.du
theorem can_flat {lt : Bool → Bool → Bool → Bool} {p : Pt} : canLate lt (flat p) ↔ canLate lt p := Iff.rfl
theorem late_iff {p : Pt} : lateP p = true ↔ p.sh ≠ 0 ∧ p.sh ≠ p.du := by
  unfold lateP
  rw [Bool.and_eq_true]
  simp
theorem late_last {W : Wd} {p : Pt} {s : Stp} (h1 : lateP p = false) (h2 : lateP (aftP W p s) = true) : canLate W.lt p := by
  obtain ⟨a, b⟩ := late_iff.mp h2
  cases s with
  | ask q => exact absurd rfl a
  | again q => exact absurd rfl a
  | far =>
    have : lateP p = true := late_iff.mpr ⟨a, b⟩
    rw [this] at h1
    cases h1
  | land n =>
    cases e : p.ln[n]? with
    | none =>
      have e0 : aftP W p (.land n) = p := by
        show (match p.ln[n]? with | some e => landP W p n e | none => p) = _
        rw [e]
      rw [e0] at h2
      rw [h2] at h1
      cases h1
    | some x =>
      have e0 : aftP W p (.land n) = landP W p n x := by
        show (match p.ln[n]? with | some e => landP W p n e | none => p) = _
        rw [e]
      rw [e0] at a b
      by_cases c : W.lt x.own (decide (x.qu = p.la)) x.lt = true
      · have hs : (landP W p n x).sh = x.an := by
          unfold landP
          dsimp only
          rw [if_pos c]
        rw [hs] at b
        exact ⟨x, List.mem_of_getElem? e, c, b⟩
      · have hs : (landP W p n x).sh = p.sh := by
          unfold landP
          dsimp only
          rw [if_neg c]
        rw [hs] at a b
        have : lateP p = true := late_iff.mpr ⟨a, b⟩
        rw [this] at h1
        cases h1
theorem late_land {W : Wd} {p : Pt} (h : OkQ W p) (c : canLate W.lt p) : ∃ n, Stp.land n ∈ stepsP W p ∧ lateP (aftP W p (.land n)) = true := by
  obtain ⟨x, hx, c1, c2⟩ := c
  obtain ⟨n, hn, e⟩ := List.getElem_of_mem hx
  refine ⟨n, ?_, ?_⟩
  · unfold stepsP
    refine List.mem_append_left _ (List.mem_append_left _ (List.mem_append_right _ ?_))
    exact List.mem_map_of_mem (List.mem_range.mpr hn)
  · have e0 : aftP W p (.land n) = landP W p n x := by
      show (match p.ln[n]? with | some e => landP W p n e | none => p) = _
      rw [List.getElem?_eq_getElem hn, e]
    rw [e0]
    have hs : (landP W p n x).sh = x.an := by
      unfold landP
      dsimp only
      rw [if_pos c1]
    have := h.an x hx
    refine late_iff.mpr ⟨?_, ?_⟩
    · rw [hs]
      omega
    · rw [hs]
      exact c2
/-- the fewest steps to a stand that could be late: those that the law's own search of n turns tells -/
def FewQ (W : Wd) (lt : Bool → Bool → Bool → Bool) (p0 : Pt) (n : Nat) : Option Nat → Prop
  | some d => ∃ r, okRow W p0 r ∧ r.length + 1 = d ∧ canLate lt (endP W p0 r) ∧ ∀ r', okRow W p0 r' → r'.length < r.length → ¬ canLate lt (endP W p0 r')
  | none => ∀ r, okRow W p0 r → r.length < n → ¬ canLate lt (endP W p0 r)
theorem start_okQ {W : Wd} (w : OkA W) : OkQ W (startP W) := by
  have h3 := (q0_get w.w).2
  have v := w.val w.w.st.1 h3
  refine ⟨start_ok w.w, v, ⟨Int.le_refl _, by show (0 : Int) ≤ 3; decide⟩, fun e he => ?_⟩
  rw [List.mem_singleton.mp he]
  exact v
/-- the program's row and the law's number -/
theorem few_late {W : Wd} (w : OkA W) {n : Nat} {f : Option Nat} (short : ∀ r, okRow (W0 W) (startP W) r → canLate W.lt (endP (W0 W) (startP W) r) → ∃ r', okRow (W0 W) (startP W) r' ∧ canLate W.lt (endP (W0 W) (startP W) r') ∧ r'.length < n) (hf : FewQ (W0 W) W.lt (startP W) n f) {R : Rs} (nm : R ≠ .many) (hR : Found W (startP W) R) :
    match R with
    | .late r => f = some r.length
    | _ => f = none := by
  have h0 := start_okQ w
  have fs : flat (startP W) = startP W := rfl
  have toQ : ∀ r, okRow W (startP W) r ↔ okRow (W0 W) (startP W) r := fun r => flat_row W r (startP W)
  have toE : ∀ r, canLate W.lt (endP W (startP W) r) ↔ canLate W.lt (endP (W0 W) (startP W) r) := fun r => by
    rw [← can_flat, flat_end]
    exact Iff.rfl
  have up : ∀ r, okRow W (startP W) r → canLate W.lt (endP W (startP W) r) → ∃ m, okRow W (startP W) (r ++ [.land m]) ∧ lateP (endP W (startP W) (r ++ [.land m])) = true := fun r k c => by
    obtain ⟨m, h1, h2⟩ := late_land (okRow_okQ w h0 k) c
    exact ⟨m, okRow_snoc.mpr ⟨k, h1⟩, by rw [end_snoc]; exact h2⟩
  cases R with
  | many => exact absurd rfl nm
  | none =>
    have hR : ∀ r, okRow W (startP W) r → lateP (endP W (startP W) r) = false := hR
    show f = none
    cases f with
    | none => rfl
    | some d =>
      obtain ⟨r, k1, _, k3, _⟩ := hf
      obtain ⟨m, c1, c2⟩ := up r ((toQ r).mpr k1) ((toE r).mpr k3)
      rw [hR _ c1] at c2
      cases c2
  | late r =>
    have hR : LateRow W (startP W) r := hR
    show f = some r.length
    have ne : r ≠ [] := fun z => by
      have := hR.late
      rw [z] at this
      cases this
    obtain ⟨r0, s, rfl⟩ : ∃ r0 s, r = r0 ++ [s] := ⟨r.dropLast, r.getLast ne, (List.dropLast_concat_getLast ne).symm⟩
    have len : (r0 ++ [s]).length = r0.length + 1 := by rw [List.length_append]; rfl
    have k0 := (okRow_snoc.mp hR.ok).1
    have l0 : lateP (endP W (startP W) r0) = false := hR.min r0 k0 (by rw [len]; exact Nat.lt_succ_self _)
    have c0 : canLate W.lt (endP W (startP W) r0) := late_last l0 (by rw [← end_snoc]; exact hR.late)
    have least : ∀ r', okRow (W0 W) (startP W) r' → canLate W.lt (endP (W0 W) (startP W) r') → r0.length ≤ r'.length := fun r' k c => by
      obtain ⟨m, c1, c2⟩ := up r' ((toQ r').mpr k) ((toE r').mpr c)
      by_cases z : r'.length < r0.length
      · have := hR.min _ c1 (by rw [len, List.length_append]; show r'.length + 1 < _; omega)
        rw [this] at c2
        cases c2
      · omega
    cases f with
    | none =>
      obtain ⟨r', k1, k2, k3⟩ := short r0 ((toQ r0).mp k0) ((toE r0).mp c0)
      exact absurd k2 (hf r' k1 k3)
    | some d =>
      obtain ⟨r', k1, k2, k3, k4⟩ := hf
      have h1 := least r' k1 k3
      have h2 : r'.length ≤ r0.length := by
        by_cases z : r0.length < r'.length
        · exact absurd ((toE r0).mp c0) (k4 r0 ((toQ r0).mp k0) z)
        · omega
      rw [len, ← k2]
      congr 2
      omega

/-! ### what could be late could be late soon -/
section
variable {W : Wd} {p : Pt}
theorem mem_ask {q : Nat} (h : q ∈ W.qs) (n : q ≠ p.la) : Stp.ask q ∈ stepsP W p := by
  unfold stepsP
  refine List.mem_append_left _ (List.mem_append_left _ (List.mem_append_left _ (List.mem_map_of_mem (List.mem_filter.mpr ⟨h, ?_⟩))))
  rw [decide_eq_false n]
  rfl
theorem mem_again {q : Nat} (h : q ∈ W.qs) : Stp.again q ∈ stepsP W p := by
  unfold stepsP
  exact List.mem_append_right _ (List.mem_map_of_mem h)
theorem mem_far (h : p.ed + 1 < W.st.length) : Stp.far ∈ stepsP W p := by
  unfold stepsP
  refine List.mem_append_left _ (List.mem_append_right _ ?_)
  rw [if_pos h]
  exact List.mem_singleton.mpr rfl
theorem mem_land {n : Nat} (h : n < p.ln.length) : Stp.land n ∈ stepsP W p := by
  unfold stepsP
  exact List.mem_append_left _ (List.mem_append_left _ (List.mem_append_right _ (List.mem_map_of_mem (List.mem_range.mpr h))))
theorem ask_ne {q : Nat} (h : Stp.ask q ∈ stepsP W p) : q ≠ p.la := by
  unfold stepsP at h
  rcases List.mem_append.mp h with h | h
  · rcases List.mem_append.mp h with h | h
    · rcases List.mem_append.mp h with h | h
      · obtain ⟨q', h1, e⟩ := List.mem_map.mp h
        cases e
        have := (List.mem_filter.mp h1).2
        simpa using this
      · obtain ⟨q', h1, e⟩ := List.mem_map.mp h
        cases e
    · by_cases z : p.ed + 1 < W.st.length
      · rw [if_pos z] at h
        cases List.mem_singleton.mp h
      · rw [if_neg z] at h
        exact absurd h List.not_mem_nil
  · obtain ⟨q', h1, e⟩ := List.mem_map.mp h
    cases e
def oldQ (b : Bool) (e : Oq) : Oq := ⟨e.own && !b, false, e.qu, e.an⟩
/-- the last entries behind a question -/
theorem sent_one (h : 1 ≤ W.rm) (q : Nat) (b : Bool) : ∃ pre, (sentP W p q b).ln = pre ++ [⟨true, true, q, W.an p.ed q⟩] := by
  refine ⟨(p.ln.map (oldQ b)).drop ((p.ln.length + 1) - W.rm), ?_⟩
  show (_ ++ [_]).drop ((_ ++ [_]).length - W.rm) = _
  rw [List.length_append, List.length_map]
  show (_ ++ [_]).drop ((p.ln.length + 1) - W.rm) = _
  rw [List.drop_append_of_le_length (by rw [List.length_map]; omega)]
  rfl
theorem sent_two (h : 2 ≤ W.rm) {pre : List Oq} {x : Oq} (e : p.ln = pre ++ [x]) (q : Nat) (b : Bool) : ∃ pre', (sentP W p q b).ln = pre' ++ [⟨x.own && !b, false, x.qu, x.an⟩] ++ [⟨true, true, q, W.an p.ed q⟩] := by
  refine ⟨(pre.map (oldQ b)).drop ((pre.length + 2) - W.rm), ?_⟩
  show (p.ln.map (oldQ b) ++ [_]).drop ((p.ln.map (oldQ b) ++ [_]).length - W.rm) = _
  rw [e, List.map_append, List.length_append, List.length_append, List.length_map]
  show (_ ++ [_] ++ [_]).drop ((pre.length + 1 + 1) - W.rm) = _
  rw [List.append_assoc, List.append_assoc, List.drop_append_of_le_length (by rw [List.length_map]; omega)]
  rfl
end
/-- what holds at every stand that there can be -/
structure Ever (W : Wd) (p : Pt) : Prop where
  la : p.la ∈ W.qs
  en : ∀ x ∈ p.ln, x.qu ∈ W.qs ∧ (∃ e1 e2, e1 ≤ e2 ∧ e2 ≤ p.ed ∧ x.an = W.an e1 x.qu ∧ p.du = W.an e2 p.la) ∧ (x.lt = true → x.qu = p.la ∧ x.an = p.du) ∧ (x.lt = false → 2 ≤ W.rm ∧ (x.own = true → x.qu = p.la → ∃ m ∈ W.qs, m ≠ p.la))
theorem ever_sent {W : Wd} (w : OkW W) {p : Pt} (h : Ever W p) {q : Nat} (hq : q ∈ W.qs) (b : Bool) (hb : b = false → q ≠ p.la) : Ever W (sentP W p q b) := by
  have new : ∀ x : Oq, x = ⟨true, true, q, W.an p.ed q⟩ → x.qu ∈ W.qs ∧ (∃ e1 e2, e1 ≤ e2 ∧ e2 ≤ p.ed ∧ x.an = W.an e1 x.qu ∧ W.an p.ed q = W.an e2 q) ∧ (x.lt = true → x.qu = q ∧ x.an = W.an p.ed q) ∧ (x.lt = false → 2 ≤ W.rm ∧ (x.own = true → x.qu = q → ∃ m ∈ W.qs, m ≠ q)) := fun x e => by
    subst e
    exact ⟨hq, ⟨p.ed, p.ed, Nat.le_refl _, Nat.le_refl _, rfl, rfl⟩, fun _ => ⟨rfl, rfl⟩, fun z => by cases z⟩
  refine ⟨hq, fun x hx => ?_⟩
  by_cases r2 : 2 ≤ W.rm
  · rcases List.mem_append.mp (List.mem_of_mem_drop hx) with z | z
    · obtain ⟨y, hy, rfl⟩ := List.mem_map.mp z
      obtain ⟨k1, ⟨e1, e2, k2, k3, k4, k5⟩, k6, k7⟩ := h.en y hy
      refine ⟨k1, ⟨e1, p.ed, Nat.le_trans k2 k3, Nat.le_refl _, k4, rfl⟩, (fun z => by cases z), fun _ => ⟨r2, fun o eq => ?_⟩⟩
      have o : (y.own && !b) = true := o
      have eq : y.qu = q := eq
      rw [Bool.and_eq_true] at o
      have bf : b = false := by simpa using o.2
      exact ⟨p.la, h.la, fun c => hb bf c.symm⟩
    · exact new x (List.mem_singleton.mp z)
  · have r1 : W.rm = 1 := by have := w.rm.1; omega
    have hx : x ∈ (p.ln.map (oldQ b) ++ [(⟨true, true, q, W.an p.ed q⟩ : Oq)]).drop ((p.ln.map (oldQ b) ++ [(⟨true, true, q, W.an p.ed q⟩ : Oq)]).length - W.rm) := hx
    rw [r1, List.length_append] at hx
    have hx : x ∈ (p.ln.map (oldQ b) ++ [(⟨true, true, q, W.an p.ed q⟩ : Oq)]).drop (p.ln.map (oldQ b)).length := hx
    rw [List.drop_left] at hx
    exact new x (List.mem_singleton.mp hx)
theorem ever_aft {W : Wd} (w : OkW W) {p : Pt} (h : Ever W p) {s : Stp} (hs : s ∈ stepsP W p) : Ever W (aftP W p s) := by
  cases s with
  | ask q => exact ever_sent w h (steps_ok hs) false fun _ => ask_ne hs
  | again q => exact ever_sent w h (steps_ok hs) true fun z => by cases z
  | far =>
    refine ⟨h.la, fun x hx => ?_⟩
    obtain ⟨k1, ⟨e1, e2, k2, k3, k4, k5⟩, k6, k7⟩ := h.en x hx
    exact ⟨k1, ⟨e1, e2, k2, Nat.le_succ_of_le k3, k4, k5⟩, k6, k7⟩
  | land n =>
    have hn : n < p.ln.length := steps_ok hs
    have e0 : aftP W p (.land n) = landP W p n p.ln[n] := by
      show (match p.ln[n]? with | some e => landP W p n e | none => p) = _
      rw [List.getElem?_eq_getElem hn]
    rw [e0]
    refine ⟨h.la, fun x hx => h.en x ?_⟩
    rcases List.mem_append.mp hx with z | z
    · exact List.mem_of_mem_take z
    · exact List.mem_of_mem_drop z
theorem ever_row {W : Wd} (w : OkW W) : ∀ {r : List Stp} {p : Pt}, Ever W p → okRow W p r → Ever W (endP W p r)
  | [], _, h, _ => h
  | s :: r, p, h, k => ever_row w (r := r) (ever_aft w h k.1) k.2
theorem ever_start {W : Wd} (w : OkW W) : Ever W (startP W) := by
  have hm : q0 W ∈ W.qs := by
    have h := w.qs.1
    unfold q0
    cases e : W.qs with
    | nil => rw [e] at h; simp at h
    | cons x xs => exact List.mem_cons_self
  refine ⟨hm, fun x hx => ?_⟩
  have e := List.mem_singleton.mp hx
  subst e
  exact ⟨hm, ⟨0, 0, Nat.le_refl _, Nat.le_refl _, rfl, rfl⟩, fun _ => ⟨rfl, rfl⟩, fun z => by cases z⟩
/-- n editions on -/
theorem fars {W : Wd} : ∀ (n : Nat) (p : Pt), p.ed + n < W.st.length → okRow W p (List.replicate n .far) ∧ endP W p (List.replicate n .far) = ⟨p.ed + n, p.ln, p.la, p.du, p.sh⟩
  | 0, p, _ => ⟨True.intro, rfl⟩
  | n + 1, p, h => by
    obtain ⟨k1, k2⟩ := fars (W := W) n (aftP W p .far) (by show p.ed + 1 + n < _; omega)
    refine ⟨⟨mem_far (by omega), k1⟩, ?_⟩
    show endP W (aftP W p .far) (List.replicate n .far) = _
    rw [k2]
    show (⟨p.ed + 1 + n, p.ln, p.la, p.du, p.sh⟩ : Pt) = _
    rw [Nat.add_right_comm, Nat.add_assoc]
theorem okRow_app {W : Wd} : ∀ {r r' : List Stp} {p : Pt}, okRow W p r → okRow W (endP W p r) r' → okRow W p (r ++ r')
  | [], _, _, _, h => h
  | s :: r, r', p, h, k => ⟨h.1, okRow_app (r := r) h.2 k⟩
theorem end_app {W : Wd} {p : Pt} {r r' : List Stp} : endP W p (r ++ r') = endP W (endP W p r) r' := by
  unfold endP
  rw [List.foldl_append]
theorem short_row {W : Wd} (w : OkW W) (kd : Kd) {r : List Stp} (hr : okRow W (startP W) r) (c : canLate kd.lt (endP W (startP W) r)) : ∃ r', okRow W (startP W) r' ∧ canLate kd.lt (endP W (startP W) r') ∧ r'.length < 60 := by
  have hE := ever_row w (ever_start w) hr
  have hed : (endP W (startP W) r).ed < W.st.length := by
    have : ∀ (r : List Stp) (p : Pt), OkP W p → okRow W p r → OkP W (endP W p r) := fun r => by
      induction r with
      | nil => exact fun _ h _ => h
      | cons s r ih => exact fun p h k => ih _ (aftP_ok w h (steps_ok k.1)) k.2
    exact (this r _ (start_ok w) hr).1
  generalize endP W (startP W) r = p at hE hed c
  obtain ⟨x, hx, lets, ne⟩ := c
  obtain ⟨kq, ⟨e1, e2, h12, h2d, ea, ed⟩, kl, ko⟩ := hE.en x hx
  have xl : x.lt = false := by
    cases z : x.lt with
    | false => rfl
    | true => exact absurd (kl z).2 ne
  obtain ⟨r2, own⟩ := ko xl
  have s3 := w.st.2
  -- far to the edition of the entry, the question, far to the edition of the last question
  obtain ⟨f1, g1⟩ := fars (W := W) e1 (startP W) (by show 0 + e1 < _; omega)
  let pa := endP W (startP W) (List.replicate e1 .far)
  have pae : pa.ed = e1 := by
    show (endP W (startP W) (List.replicate e1 .far)).ed = e1
    rw [g1]
    exact Nat.zero_add _
  obtain ⟨pre1, l1⟩ := sent_one (W := W) (p := pa) w.rm.1 x.qu true
  let pb := sentP W pa x.qu true
  have pbe : pb.ed = e1 := pae
  obtain ⟨f2, g2⟩ := fars (W := W) (e2 - e1) pb (by rw [pbe]; omega)
  let ra := List.replicate e1 Stp.far ++ ([Stp.again x.qu] ++ List.replicate (e2 - e1) Stp.far)
  have okA : okRow W (startP W) ra := okRow_app f1 (okRow_app (r := [Stp.again x.qu]) ⟨mem_again kq, True.intro⟩ f2)
  let pc := endP W (startP W) ra
  have ec : pc = ⟨pb.ed + (e2 - e1), pb.ln, pb.la, pb.du, pb.sh⟩ := by
    show endP W (startP W) ra = _
    rw [end_app, end_app]
    exact g2
  have pce : pc.ed = e2 := by rw [ec]; show pb.ed + (e2 - e1) = e2; rw [pbe]; omega
  have pcl : pc.la = x.qu := by rw [ec]; rfl
  have pcn : pc.ln = pre1 ++ [⟨true, true, x.qu, x.an⟩] := by
    rw [ec]
    show pb.ln = _
    rw [show pb.ln = _ from l1, pae, ← ea]
  have lra : ra.length ≤ 4 := by
    show (List.replicate e1 Stp.far ++ ([Stp.again x.qu] ++ List.replicate (e2 - e1) Stp.far)).length ≤ 4
    rw [List.length_append, List.length_append, List.length_replicate, List.length_replicate]
    show e1 + (1 + (e2 - e1)) ≤ 4
    omega
  have done : ∀ (rb : List Stp) (pd : Pt) (b : Bool) (o : Bool) (s : Stp), okRow W (startP W) (rb ++ [s]) → endP W (startP W) (rb ++ [s]) = sentP W pd p.la b → pd.ed = e2 → (∃ pre, pd.ln = pre ++ [⟨true, o, x.qu, x.an⟩]) → kd.lt (!b) (decide (x.qu = p.la)) false = true → rb.length ≤ 50 → ∃ r', okRow W (startP W) r' ∧ canLate kd.lt (endP W (startP W) r') ∧ r'.length < 60 := fun rb pd b o s k1 k2 k3 k4 k5 k6 => by
    obtain ⟨pre, hpre⟩ := k4
    obtain ⟨pre', l2⟩ := sent_two (W := W) r2 hpre p.la b
    refine ⟨rb ++ [s], k1, ?_, by rw [List.length_append]; show rb.length + 1 < 60; omega⟩
    rw [k2]
    refine ⟨⟨true && !b, false, x.qu, x.an⟩, ?_, ?_, ?_⟩
    · rw [l2]
      simp
    · rw [Bool.true_and]
      exact k5
    · show x.an ≠ W.an pd.ed p.la
      rw [k3, ← ed]
      exact ne
  have viaAgain : kd.lt false (decide (x.qu = p.la)) false = true → ∃ r', okRow W (startP W) r' ∧ canLate kd.lt (endP W (startP W) r') ∧ r'.length < 60 := fun k =>
    done ra pc true true (.again p.la) (okRow_snoc.mpr ⟨okA, mem_again hE.la⟩) (by rw [end_snoc]; rfl) pce ⟨pre1, pcn⟩ k (by omega)
  have viaAsk : x.own = true → kd.lt true (decide (x.qu = p.la)) false = true → ∃ r', okRow W (startP W) r' ∧ canLate kd.lt (endP W (startP W) r') ∧ r'.length < 60 := fun xo k => by
    by_cases eq : x.qu = p.la
    · obtain ⟨m, hm, mne⟩ := own xo eq
      -- another question between, which lands at once
      obtain ⟨pre2, l2⟩ := sent_two (W := W) (p := pc) r2 pcn m false
      let pd := sentP W pc m false
      have okD : okRow W (startP W) (ra ++ [.ask m]) := okRow_snoc.mpr ⟨okA, mem_ask hm (by show m ≠ pc.la; rw [pcl, eq]; exact mne)⟩
      have ndl : pre2.length + 1 < pd.ln.length := by
        rw [show pd.ln = _ from l2]
        simp
      have endD : endP W (startP W) (ra ++ [.ask m]) = pd := by rw [end_snoc]; rfl
      have okF : okRow W (startP W) (ra ++ [.ask m] ++ [.land (pre2.length + 1)]) := okRow_snoc.mpr ⟨okD, by rw [endD]; exact mem_land ndl⟩
      let pf := aftP W pd (.land (pre2.length + 1))
      have endF : endP W (startP W) (ra ++ [.ask m] ++ [.land (pre2.length + 1)]) = pf := by rw [end_snoc, endD]
      have ef : pf = landP W pd (pre2.length + 1) pd.ln[pre2.length + 1] := by
        show (match pd.ln[pre2.length + 1]? with | some e => landP W pd (pre2.length + 1) e | none => pd) = _
        rw [List.getElem?_eq_getElem ndl]
      have pfn : ∃ pre, pf.ln = pre ++ [⟨true, false, x.qu, x.an⟩] := by
        refine ⟨pre2, ?_⟩
        rw [ef]
        show pd.ln.take (pre2.length + 1) ++ pd.ln.drop (pre2.length + 1 + 1) = _
        rw [show pd.ln = _ from l2]
        have len : (pre2 ++ [(⟨true && !false, false, x.qu, x.an⟩ : Oq)]).length = pre2.length + 1 := by rw [List.length_append]; rfl
        rw [← len, List.take_left, List.drop_eq_nil_of_le (by rw [List.length_append]; exact Nat.le_refl _), List.append_nil]
        rfl
      have pfe : pf.ed = e2 := by rw [ef]; exact pce
      have pfl : pf.la = m := by rw [ef]; rfl
      refine done (ra ++ [.ask m] ++ [.land (pre2.length + 1)]) pf false false (.ask p.la) (okRow_snoc.mpr ⟨okF, by rw [endF]; exact mem_ask hE.la (by rw [pfl]; exact mne.symm)⟩) (by rw [end_snoc, endF]; rfl) pfe pfn k ?_
      rw [List.length_append, List.length_append]
      show ra.length + 1 + 1 ≤ 50
      omega
    · exact done ra pc false true (.ask p.la) (okRow_snoc.mpr ⟨okA, mem_ask hE.la (by show p.la ≠ pc.la; rw [pcl]; exact fun z => eq z.symm)⟩) (by rw [end_snoc]; rfl) pce ⟨pre1, pcn⟩ k (by omega)
  rw [xl] at lets
  cases kd with
  | a => exact viaAgain rfl
  | s => exact viaAgain lets
  | o => exact viaAsk lets rfl
  | b =>
    have l2 : (x.own && decide (x.qu = p.la)) = true := lets
    rw [Bool.and_eq_true] at l2
    exact viaAsk l2.1 (by show (true && decide (x.qu = p.la)) = true; rw [l2.2]; rfl)
  | l =>
    have l2 : (x.own && decide (x.qu = p.la) && false) = true := lets
    rw [Bool.and_false] at l2
    cases l2

/-! ### bounds by the number of all stands -/
def Gc (W : Wd) (r : Nat) (b : Bs) : Prop := Gd W r 16264080 b ∧ ∀ x ∈ b.kn, OkQ W x.1
theorem gc_of {W : Wd} (w : OkA W) {r n : Nat} {b : Bs} (h : Gd W r n b) (k : ∀ x ∈ b.kn, OkQ W x.1) : Gc W r b := by
  refine ⟨⟨h.1, ?_, h.2.2⟩, k⟩
  rw [← List.length_map (f := fun x : Pt × List Stp => x.1)]
  refine okQ_few w h.2.2.2.2.2 fun p hp => ?_
  obtain ⟨x, hx, rfl⟩ := List.mem_map.mp hp
  exact k x hx
theorem one_gc {W : Wd} (w : OkA W) {r : Nat} {p : Pt} {row : List Stp} (hr : row.length ≤ r) (hp : OkQ W p) {s : Stp} (hs : StpOk W p s) {b b' : Bs} (h : Gc W r b) (e : oneS W p row b s = .ok b') : Gc W r b' := by
  refine gc_of w (one_gd w.w hr hp.ok hs h.1 e) fun x hx => ?_
  unfold oneS at e
  split at e
  · cases e
    exact h.2 x hx
  · split at e
    · cases e
    · cases e
      rcases List.mem_append.mp hx with z | z
      · exact h.2 x z
      · rw [List.mem_singleton.mp z]
        exact aftP_okQ w hp hs
theorem steps_gc {W : Wd} (w : OkA W) {r : Nat} {p : Pt} {row : List Stp} (hr : row.length ≤ r) (hp : OkQ W p) {l : List Stp} (hl : ∀ s ∈ l, StpOk W p s) {b b' : Bs} (h : Gc W r b) (e : stepsS W p row l b = .ok b') : Gc W r b' := by
  have := fold_ok (f := fun b (s : {s // s ∈ l}) => oneS W p row b s.1) (I := fun _ c => Gc W r c) (fun _ s c c' I e => one_gc w hr hp (hl s.1 s.2) I e) l.attach [] (b := b) (b' := b') h
  refine this ?_
  rw [← e]
  unfold stepsS
  rw [← List.foldlM_map (f := fun s : {s // s ∈ l} => s.1) (g := oneS W p row), List.attach_map_subtype_val]
theorem lev_gc {W : Wd} (w : OkA W) {r : Nat} {l : List (Pt × List Stp)} (hl : ∀ x ∈ l, OkQ W x.1 ∧ x.2.length ≤ r) {b b' : Bs} (h : Gc W r b) (e : levS W l b = .ok b') : Gc W r b' := by
  have := fold_ok (f := fun b (x : {x // x ∈ l}) => stepsS W x.1.1 x.1.2 (stepsP W x.1.1) b) (I := fun _ c => Gc W r c) (fun _ x c c' I e => steps_gc w (hl x.1 x.2).2 (hl x.1 x.2).1 (fun _ hs => steps_ok hs) I e) l.attach [] (b := b) (b' := b') h
  refine this ?_
  rw [← e]
  unfold levS
  rw [← List.foldlM_map (f := fun s : {s // s ∈ l} => s.1) (g := fun b (x : Pt × List Stp) => stepsS W x.1 x.2 (stepsP W x.1) b), List.attach_map_subtype_val]
theorem in_levC {W : Wd} (w : OkA W) {kn lv : List (Pt × List Stp)} (g : Gc W 0 ⟨kn, lv⟩) {i : Nat} {b : Bs} (e : levS W (lv.take i) ⟨kn, []⟩ = .ok b) : Gc W kn.length b := by
  obtain ⟨⟨h0, h1, h2, h3, h4, h5⟩, k⟩ := g
  have g0 : Gc W kn.length ⟨kn, []⟩ := ⟨⟨Nat.le_refl _, h1, Nat.zero_le _, h3, (fun _ h => nomatch h), h5⟩, k⟩
  exact lev_gc w (fun x hx => ⟨k x (h4 x (List.mem_of_mem_take hx)), (h3 x (h4 x (List.mem_of_mem_take hx))).2⟩) g0 e
theorem lev_rowC {W : Wd} {kn lv : List (Pt × List Stp)} (g : Gc W 0 ⟨kn, lv⟩) {i : Nat} {x : Pt × List Stp} (hx : lv[i]? = some x) : OkQ W x.1 ∧ x.2.length ≤ kn.length ∧ x ∈ kn := by
  have hm := g.1.2.2.2.2.1 x (List.mem_of_getElem? hx)
  exact ⟨g.2 x hm, (g.1.2.2.2.1 x hm).2, hm⟩
theorem in_stepsC {W : Wd} (w : OkA W) {kn : List (Pt × List Stp)} {x : Pt × List Stp} (hx : OkQ W x.1 ∧ x.2.length ≤ kn.length) {b b' : Bs} (g : Gc W kn.length b) {j : Nat} (e : stepsS W x.1 x.2 ((stepsP W x.1).take j) b = .ok b') : Gc W kn.length b' :=
  steps_gc w hx.2 hx.1 (fun s hs => steps_ok (List.mem_of_mem_take hs)) g e
theorem bfsN_late {W : Wd} {n : Nat} {kn lv : List (Pt × List Stp)} {i j : Nat} {x : Pt × List Stp} {s : Stp} {b b' : Bs} {r : List Stp} (e : levS W (lv.take i) ⟨kn, []⟩ = .ok b) (hx : lv[i]? = some x) (e2 : stepsS W x.1 x.2 ((stepsP W x.1).take j) b = .ok b') (hs : (stepsP W x.1)[j]? = some s) (e3 : oneS W x.1 x.2 b' s = .error r) :
    bfsN W (n + 1) kn lv = .late r := by
  have h1 : stepsS W x.1 x.2 (stepsP W x.1) b = .error r := foldM_err e2 hs e3
  have h2 : levS W lv ⟨kn, []⟩ = .error r := foldM_err (f := fun b (x : Pt × List Stp) => stepsS W x.1 x.2 (stepsP W x.1) b) e hx h1
  show (match levS W lv ⟨kn, []⟩ with | .error r => Rs.late r | .ok b => _) = _
  rw [h2]
theorem bfsN_ok {W : Wd} {n : Nat} {kn lv : List (Pt × List Stp)} {b : Bs} (e : levS W lv ⟨kn, []⟩ = .ok b) : bfsN W (n + 1) kn lv = if b.fu = [] then .none else bfsN W n b.kn b.fu := by
  show (match levS W lv ⟨kn, []⟩ with | .error r => Rs.late r | .ok b => _) = _
  rw [e]
theorem start_gc {W : Wd} (w : OkA W) : Gc W 0 ⟨[(startP W, [])], [(startP W, [])]⟩ := gc_of w (start_gd (start_ok w.w)) fun x hx => by
  rw [List.mem_singleton.mp hx]
  exact start_okQ w
theorem next_gc {W : Wd} (w : OkA W) {kn lv : List (Pt × List Stp)} (g : Gc W 0 ⟨kn, lv⟩) {b : Bs} (e : levS W lv ⟨kn, []⟩ = .ok b) : Gc W 0 ⟨b.kn, b.fu⟩ := by
  obtain ⟨⟨h0, h1, h2, h3, h4, h5⟩, k⟩ := in_levC w g (i := lv.length) (b := b) (by rw [List.take_length]; exact e)
  exact ⟨⟨Nat.zero_le _, h1, h2, h3, h4, h5⟩, k⟩

section
variable {P : Program} {w : World} {K : PySem.W.Frag} {mg : Str → Option Value} {base : Heap}
end
end K48
set_option Elab.async false
set_option linter.all false
set_option maxRecDepth 100000
set_option maxHeartbeats 4000000
namespace K48
open PySem PySem.Spec PyProof.Rows L2 XL
/-! ### rows of steps as data -/
def datS : Stp → PyData
  | .ask q => .tuple [.str "ask", .int (q : Nat)]
  | .land n => .tuple [.str "land", .int (n : Nat)]
  | .far => .tuple [.str "far"]
  | .again q => .tuple [.str "again", .int (q : Nat)]
theorem datS_lay (s : Stp) : (datS s).canLay0 = true ∧ (datS s).depth ≤ 3 := by
  have h1 : PyData.canLay0 (.str "ask") = true := by decide +kernel
  have h2 : PyData.canLay0 (.str "land") = true := by decide +kernel
  have h3 : PyData.canLay0 (.str "far") = true := by decide +kernel
  have h4 : PyData.canLay0 (.str "again") = true := by decide +kernel
  simp only [PyData.canLay0] at h1 h2 h3 h4
  refine ⟨?_, ?_⟩
  · cases s <;> simp only [datS, PyData.canLay0, PyData.canLayAll0, h1, h2, h3, h4, Bool.and_self]
  · cases s <;> simp only [datS, PyData.depth, PyData.depthAll] <;> omega
theorem dp_stp {K : PySem.W.Frag} {G : Hp} {v : V} {s : Stp} (h : StpAt G v s) : Dp K G v (datS s) := by
  cases s with
  | ask q => exact let ⟨a, e, h1⟩ := h; e ▸ .tup (SqT.of h1) (.cons (.str _) (.cons (.int _) .nil))
  | land q => exact let ⟨a, e, h1⟩ := h; e ▸ .tup (SqT.of h1) (.cons (.str _) (.cons (.int _) .nil))
  | far => exact let ⟨a, e, h1⟩ := h; e ▸ .tup (SqT.of h1) (.cons (.str _) .nil)
  | again q => exact let ⟨a, e, h1⟩ := h; e ▸ .tup (SqT.of h1) (.cons (.str _) (.cons (.int _) .nil))
def datR (r : List Stp) : PyData := .list (r.map datS)
theorem datR_lay (r : List Stp) : (datR r).canLay0 = true ∧ (datR r).depth ≤ 4 := by
  refine ⟨?_, ?_⟩
  · simp only [datR, PyData.canLay0]
    exact layAll fun d hd => by
      obtain ⟨s, _, rfl⟩ := List.mem_map.mp hd
      exact (datS_lay s).1
  · simp only [datR, PyData.depth]
    have := depthAll_le (n := 3) (xs := r.map datS) fun d hd => by
      obtain ⟨s, _, rfl⟩ := List.mem_map.mp hd
      exact (datS_lay s).2
    omega
theorem dp_row {K : PySem.W.Frag} {G : Hp} {v : V} {r : List Stp} (h : RowAt G v r) : Dp K G v (datR r) := by
  obtain ⟨a, ws, rfl, h1, h2⟩ := h
  exact .lst (SqL.of h1) (dpa_map (F := StpAt G) (g := datS) (fun _ _ h => dp_stp h) h2)
/-- what is answered -/
def RsAt (G : Hp) (v : V) : Rs → Prop
  | .none => v = .non
  | .many => v = .str "many"
  | .late r => RowAt G v r
theorem RsAt.same {G G' : Hp} {v : V} {R : Rs} (e : Same G G') (h : RsAt G v R) : RsAt G' v R := by
  cases R with
  | none => exact h
  | many => exact h
  | late r => exact RowAt.same e h
/-! ### stands as data -/
def datQ (e : Lq) : PyData := .tuple [.int (e.who : Nat), .int (e.tk : Nat), .int (e.qu : Nat), .int e.an]
def datL (l : Ls) : PyData := .tuple [.int (l.ed : Nat), .tuple (l.ln.map datQ), .int (l.who : Nat), .int (l.la : Nat), .int (l.tk : Nat), .int l.du, .int l.sh]
theorem datL_lay (l : Ls) : (datL l).canLay0 = true ∧ (datL l).depth ≤ 5 := by
  refine ⟨?_, ?_⟩
  · have h1 : PyData.canLayAll0 (l.ln.map datQ) = true := layAll fun d hd => by
      obtain ⟨s, _, rfl⟩ := List.mem_map.mp hd
      simp only [datQ, PyData.canLay0, PyData.canLayAll0, Bool.and_self]
    simp only [datL, PyData.canLay0, PyData.canLayAll0, h1, Bool.and_self]
  · have h2 := depthAll_le (n := 3) (xs := l.ln.map datQ) fun d hd => by
      obtain ⟨s, _, rfl⟩ := List.mem_map.mp hd
      simp only [datQ, PyData.depth, PyData.depthAll]
      omega
    simp only [datL, PyData.depth, PyData.depthAll]
    omega
theorem dp_ls {K : PySem.W.Frag} {G : Hp} {v : V} {l : Ls} (h : LsAt K G v l) : Dp K G v (datL l) := by
  obtain ⟨a, ll, ws, rfl, h1, h2, h3⟩ := h
  refine .tup (SqT.of h1) (.cons (.int _) (.cons (.tup h2 (dpa_map (F := LqAt G) (g := datQ) (fun v e h => ?_) h3)) (.cons (.int _) (.cons (.int _) (.cons (.int _) (.cons (.int _) (.cons (.int _) .nil)))))))
  obtain ⟨b, rfl, hb⟩ := h
  exact .tup (SqT.of hb) (.cons (.int _) (.cons (.int _) (.cons (.int _) (.cons (.int _) .nil))))
/-- a stand of the law's with its row -/
def LvAt (K : PySem.W.Frag) (G : Hp) (v : V) (x : Pt × List Stp) : Prop := ∃ a u y l, v = .ref a ∧ G a = some (.tup [u, y]) ∧ LsAt K G u l ∧ LOk l ∧ toP l = x.1 ∧ RowAt G y x.2
theorem LvAt.same {K : PySem.W.Frag} {G G' : Hp} {v : V} {x : Pt × List Stp} (e : Same G G') (h : LvAt K G v x) : LvAt K G' v x := let ⟨a, u, y, l, h1, h2, h3, h4, h5, h6⟩ := h; ⟨a, u, y, l, h1, e _ _ h2, h3.same e, h4, h5, h6.same e⟩
theorem dp_lv {K : PySem.W.Frag} {G : Hp} {v : V} {x : Pt × List Stp} (h : LvAt K G v x) : ∃ d, Dp K G v d ∧ d.canLay0 = true ∧ d.depth ≤ 7 := by
  obtain ⟨a, u, y, l, rfl, h2, h3, _, _, h6⟩ := h
  refine ⟨.tuple [datL l, datR x.2], .tup (SqT.of h2) (.cons (dp_ls h3) (.cons (dp_row h6) .nil)), ?_, ?_⟩
  · simp only [PyData.canLay0, PyData.canLayAll0, (datL_lay l).1, (datR_lay x.2).1, Bool.and_self]
  · have h1 := (datL_lay l).2
    have h2 := (datR_lay x.2).2
    simp only [PyData.depth, PyData.depthAll]
    omega
theorem dp_lvs {K : PySem.W.Frag} {G : Hp} : ∀ {ws : List V} {lv : List (Pt × List Stp)}, Paired (LvAt K G) ws lv → ∃ ds, DpAll K G ws ds ∧ ds.length = ws.length ∧ ∀ d ∈ ds, PyData.canLay0 d = true ∧ d.depth ≤ 7
  | _, _, .nil => ⟨[], .nil, rfl, fun _ h => nomatch h⟩
  | _, _, .cons h t => by
    obtain ⟨d, h1, h2, h3⟩ := dp_lv h
    obtain ⟨ds, k1, k2, k3⟩ := dp_lvs t
    refine ⟨d :: ds, .cons h1 k1, by rw [List.length_cons, List.length_cons, k2], fun e he => ?_⟩
    rcases List.mem_cons.mp he with z | z
    · rw [z]
      exact ⟨h2, h3⟩
    · exact k3 e z
theorem eqv_nil (ds : List PyData) : PyData.eqv (.list ds) (.list []) = decide (ds.length = 0) := by
  cases ds with
  | nil => simp [PyData.eqv, PyData.eqvAll]
  | cons d ds => simp [PyData.eqv, PyData.eqvAll]

section
variable {P : Program} {w : World} {K : PySem.W.Frag} {mg : Str → Option Value} {base : Heap}
end
end K48
set_option Elab.async false
set_option linter.all false
set_option maxRecDepth 100000
set_option maxHeartbeats 4000000
namespace K48
open PySem PySem.Spec PyProof.Rows L2 XL
section
variable {P : Program} {w : World} {K : PySem.W.Frag} {mg : Str → Option Value} {base : Heap}
/-! ### the program's asker -/
theorem cutV_neg (xs : List V) (k : Nat) (h : 1 ≤ k) : cutV xs (some (-(k : Int))) none = xs.drop (xs.length - k) := by
  have e : HT.sIx xs.length 0 (some (-(k : Int))) = xs.length - k := by
    show (if -(k : Int) < 0 then (-(k : Int) + (xs.length : Int)).toNat else _) = _
    rw [if_pos (by omega)]
    omega
  unfold cutV
  rw [e, HT.sIx_none]
  exact List.take_of_length_le (by rw [List.length_drop]; exact Nat.le_refl _)
def oldE (r : Bool) (e : Oq) : Oq := ⟨e.own && !r, false, e.qu, e.an⟩
def spSendP (K : PySem.W.Frag) : Sp := fun vs H Q _ => ∃ (G : Hp) (M : List (Addr × HO)) (W : Wd) (sa qa : Addr) (v : V) (p : Pt) (qn : Nat) (r : Bool), vs = [v, .ref sa, .int (W.rm : Nat), .int (qn : Nat), .bl r] ∧ Sep G M H ∧ WAt G W sa qa ∧ PtP K G v p ∧ OkP W p ∧ qn ≤ 3 ∧
  ∀ v' G' H', Same G G' → PtP K G' v' (sentP W p qn r) → Sep G' M H' → Q v' H'
theorem ok_sending (T : Top K mg w) {k : Nat} : FnOk P w K mg base CX0 (k + 1) T.a_sending T.d_sending ["stand", "far", "room", "question", "renewed"] (spSendP K) := by
  refine T.F_sending.ok sc_sending (fun vs H Q E h => ?_) (fun cdv A outer s H vs Q E hr h => ?_)
  · obtain ⟨G, M, W, sa, qa, v, p, qn, r, rfl, _⟩ := h
    rfl
  · obtain ⟨G, M, W, sa, qa, v, p, qn, r, rfl, S, hw, hp, okp, q3, q⟩ := h
    refine ⟨_, (pss_cons (ps_asg (xv 0) (pg_tupK K 5 (pgs_cons (pg_name (i := 5) sc_sending.nd rfl (.inl rfl)) (pgs_cons (pg_name (i := 6) sc_sending.nd rfl (.inl rfl)) (pgs_cons (pg_name (i := 7) sc_sending.nd rfl (.inl rfl)) (pgs_cons (pg_name (i := 8) sc_sending.nd rfl (.inl rfl)) (pgs_cons (pg_name (i := 9) sc_sending.nd rfl (.inl rfl)) pgs_nil)))))))
      (pss_cons (ps_set (i := 10) sc_sending.nd rfl (.inl rfl) (pe_ix (ix_k K) (pe_ix (ix_k K) (xv 1) (xv 5) (fun _ _ => rfl)) (xv 3) (fun _ _ => rfl)))
      (pss_cons (ps_set (i := 11) sc_sending.nd rfl (.inl rfl) (pe_lst pa_nil))
      (pss_cons (ps_for PassesOwn.never rfl (pi_tupK K (xv 6)) (pg_tupK K 4 (pgs_cons (pg_name (i := 12) sc_sending.nd rfl (.inl rfl)) (pgs_cons (pg_name (i := 13) sc_sending.nd rfl (.inl rfl)) (pgs_cons (pg_name (i := 14) sc_sending.nd rfl (.inl rfl)) (pgs_cons (pg_name (i := 15) sc_sending.nd rfl (.inl rfl)) pgs_nil)))))
      (pss_one (ps_expr (pe_bmK K PySem.F.plainAttrs_list PySem.F.slot_list_append PySem.F.type_list_append mt_append (xv 11) (pa_cons (pe_tup (pa_cons (xe_if (xt_truK K (xv 4)) pe_int (xv 12)) (pa_cons pe_int (pa_cons (xv 14) (pa_cons (xv 15) pa_nil))))) pa_nil)))))
      (pss_cons (ps_expr (pe_bmK K PySem.F.plainAttrs_list PySem.F.slot_list_append PySem.F.type_list_append mt_append (xv 11) (pa_cons (pe_tup (pa_cons pe_int (pa_cons pe_int (pa_cons (xv 3) (pa_cons (xv 10) pa_nil))))) pa_nil)))
      (pss_one (ps_ret (pe_tup (pa_cons (xv 5) (pa_cons (pe_callTy (call_tupleK K) (by rfl) T.m_tuple (by decide +kernel) (pa_cons (pe_slice (sl_listK K) (xv 11) (po_some (pe_un un_neg (xv 2))) po_none) pa_nil)) (pa_cons (xv 3) (pa_cons (xv 10) (pa_cons pe_int pa_nil))))))))))))), ?_⟩
    obtain ⟨a, ll, ws, rfl, h1, h2, h3⟩ := hp
    have el := prd_len h3
    have l3 : p.ln.length ≤ 3 := Nat.le_trans okp.2.1 hw.1.rm.2
    obtain ⟨us, rr, ns, hs, _, hr', hn, ha⟩ := st_at hw.2.1 (e := p.ed) okp.1 q3
    refine ⟨a, _, rfl, SqT.of (S.st h1), rfl, _, _, rfl, _, _, rfl, _, _, rfl, _, _, rfl, _, _, rfl, rfl, ?_⟩
    refine ⟨_, _, .inr (SqT.of (S.st hs)), atI_nat hr', _, _, .inr (SqT.of (S.st hn)), atI_nat ha, ?_⟩
    refine ⟨sz, fun L nL => ?_⟩
    have S1 := S.new (o := .lst []) nL
    refine ⟨ll, rfl, ⟨_, S1.t h2⟩, for_tup (xs := ws) (fun i σ H' => ∃ (y1 y2 y3 y4 : Option V) (G' : Hp) (vs : List V), σ = [some (.ref a), some (.ref sa), some (.int (W.rm : Nat)), some (.int (qn : Nat)), some (.bl r), some (.int (p.ed : Nat)), some (.ref ll), some (.int (p.la : Nat)), some (.int p.du), some (.int p.sh), some (.int (W.an p.ed qn)), some (.ref L), y1, y2, y3, y4] ∧ Same G G' ∧ vs.length = i ∧ Paired (OqP G') vs ((p.ln.map (oldE r)).take i) ∧ Sep G' ((L, .lst vs) :: M) H')
      ⟨_, _, _, _, G, [], rfl, Same.refl _, rfl, .nil, S1⟩ (fun i σ H' _ h => ?_) (fun i y σ H' hy h => ?_) (fun σ H' h => ?_)⟩
    · obtain ⟨_, _, _, _, G', _, _, s', _, _, S'⟩ := h
      exact S'.t (same_t s' h2)
    · obtain ⟨y1, y2, y3, y4, G', vs, rfl, s', vl, pv, S'⟩ := h
      obtain ⟨e, he, b, rfl, hb⟩ := prd_get h3 hy
      have i3 : i < ws.length := (List.getElem?_eq_some_iff.mp hy).1
      refine ⟨b, _, rfl, SqT.of (S'.st (s' _ _ hb)), rfl, _, _, rfl, _, _, rfl, _, _, rfl, _, _, rfl, rfl, ?_⟩
      refine ⟨.inl ⟨rfl, _, SqL.of S'.hd⟩, ?_⟩
      have fin : ∀ i1 : Int, i1 = zP (oldE r e).own → ∀ t, H' t = none → ∃ (y1 y2 y3 y4 : Option V) (G'' : Hp) (vs' : List V), ([some (.ref a), some (.ref sa), some (.int (W.rm : Nat)), some (.int (qn : Nat)), some (.bl r), some (.int (p.ed : Nat)), some (.ref ll), some (.int (p.la : Nat)), some (.int p.du), some (.int p.sh), some (.int (W.an p.ed qn)), some (.ref L), some (.int (zP e.own)), some (.int (zP e.lt)), some (.int (e.qu : Nat)), some (.int e.an)] : List (Option V)) = [some (.ref a), some (.ref sa), some (.int (W.rm : Nat)), some (.int (qn : Nat)), some (.bl r), some (.int (p.ed : Nat)), some (.ref ll), some (.int (p.la : Nat)), some (.int p.du), some (.int p.sh), some (.int (W.an p.ed qn)), some (.ref L), y1, y2, y3, y4] ∧ Same G G'' ∧ vs'.length = i + 1 ∧ Paired (OqP G'') vs' ((p.ln.map (oldE r)).take (i + 1)) ∧ Sep G'' ((L, .lst vs') :: M) (upd (upd H' t (.tup [.int i1, .int 1, .int (e.qu : Nat), .int e.an])) L (.lst (vs ++ [.ref t]))) := fun i1 e1 t nt => by
        obtain ⟨G2, s2, S2, k2⟩ := Sep.mk (o := .tup [.int i1, .int 1, .int (e.qu : Nat), .int e.an]) S' nt
        refine ⟨_, _, _, _, G2, vs ++ [.ref t], rfl, s'.trans s2, by simp [vl], ?_, S2.set⟩
        rw [List.take_add_one, List.getElem?_map, he]
        refine prd_app (prd_imp (fun _ _ => OqP.same s2) pv) (.cons ⟨t, rfl, ?_⟩ .nil)
        rw [k2, e1]
        rfl
      have hd : ∀ t i1, H' t = none → upd H' t (.tup [.int i1, .int 1, .int (e.qu : Nat), .int e.an]) L = some (.lst vs) := fun t i1 nt => by
        obtain ⟨G2, s2, S2, k2⟩ := Sep.mk (o := .tup [.int i1, .int 1, .int (e.qu : Nat), .int e.an]) S' nt
        exact S2.hd
      refine ⟨fun e1 => ⟨sz, fun t nt => ?_⟩, fun e1 => ⟨sz, fun t nt => ?_⟩⟩
      · have e1 : r = true := e1
        exact ⟨L, vs, _, rfl, rfl, hd t 1 nt, smallL (by omega), fin 1 (by rw [e1]; simp [oldE, zP]) t nt⟩
      · have e1 : r = false := e1
        exact ⟨L, vs, _, rfl, rfl, hd t _ nt, smallL (by omega), fin _ (by rw [e1]; simp [oldE]) t nt⟩
    · obtain ⟨y1, y2, y3, y4, G2, vs, rfl, s2, vl, pv, S2⟩ := h
      rw [el, ← List.length_map (f := oldE r), List.take_length] at pv
      refine ⟨.inl ⟨rfl, _, SqL.of S2.hd⟩, sz, fun t nt => ?_⟩
      obtain ⟨G3, s3, S3, k3⟩ := Sep.mk (o := .tup [.int 0, .int 0, .int (qn : Nat), .int (W.an p.ed qn)]) S2 nt
      refine ⟨L, vs, _, rfl, rfl, S3.hd, smallL (by omega), ?_⟩
      have S4 := S3.set (o' := .lst (vs ++ [.ref t]))
      have p4 : Paired (OqP G3) (vs ++ [.ref t]) (p.ln.map (oldE r) ++ [⟨true, true, qn, W.an p.ed qn⟩]) := prd_app (prd_imp (fun _ _ => OqP.same s3) pv) (.cons ⟨t, rfl, k3⟩ .nil)
      refine ⟨((W.rm : Nat) : Int), rfl, -((W.rm : Nat) : Int), rfl, ?_⟩
      unfold tNoPart
      refine ⟨L, _, rfl, SqL.of S4.hd, fun c nc => ?_⟩
      rw [cutV_neg _ _ hw.1.rm.1]
      have S5 := S4.new (o := .lst ((vs ++ [V.ref t]).drop ((vs ++ [V.ref t]).length - W.rm))) nc
      refine ⟨c, _, rfl, .inl ⟨SqL.of S5.hd, fun d nd => ?_⟩⟩
      obtain ⟨G6, s6, S6, k6⟩ := Sep.mk (o := .tup ((vs ++ [V.ref t]).drop ((vs ++ [V.ref t]).length - W.rm))) S5 nd
      refine ⟨sz, fun e ne => ?_⟩
      obtain ⟨G7, s7, S7, k7⟩ := Sep.mk (o := .tup [.int (p.ed : Nat), .ref d, .int (qn : Nat), .int (W.an p.ed qn), .int 0]) S6 ne
      refine q _ G7 _ (s2.trans (s3.trans (s6.trans s7))) ⟨e, d, _, rfl, k7, SqT.of (s7 _ _ k6), ?_⟩ S7.drop.drop
      have ee : (vs ++ [V.ref t]).length = (p.ln.map (oldE r) ++ [(⟨true, true, qn, W.an p.ed qn⟩ : Oq)]).length := prd_len p4
      rw [ee]
      exact prd_drop _ (prd_imp (fun _ _ => OqP.same (s6.trans s7)) p4)
def spLandP (T : Top K mg w) (K' : PySem.W.Frag) : Sp := fun vs H Q _ => ∃ (G : Hp) (M : List (Addr × HO)) (W : Wd) (kd : Kd) (v fv : V) (p : Pt) (n : Nat), vs = [v, .int (n : Nat), fv] ∧ W.lt = kd.lt ∧ Sep G M H ∧ FnAt (kc T) G fv kd ∧ PtP K' G v p ∧ p.ln.length ≤ 3 ∧ n < p.ln.length ∧
  ∀ v' G' H', Same G G' → PtP K' G' v' (aftP W p (.land n)) → Sep G' M H' → Q v' H'
theorem kd_f (k : Kd) (r : Rw) (la : Int) : k.f r 0 la 0 = k.lt (decide (r.who = 0)) (decide (r.qu = la)) (decide (r.tk = 0)) := by cases k <;> rfl
theorem zP_0 (b : Bool) : decide (zP b = 0) = b := by cases b <;> rfl
theorem cutV_up2 (xs : List V) (k : Nat) (h : k ≤ xs.length) : cutV xs none (some (k : Int)) = xs.take k := by
  unfold cutV
  rw [HT.sIx_nat, HT.sIx_none, Nat.min_eq_left h, Nat.sub_zero, List.drop_zero]
theorem ok_landing (T : Top K mg w) {k : Nat} (G_Entry_init : FnOk P w K mg base CX0 k T.a_Entry_init T.d_Entry_init ["self", "owner", "word", "who", "ticket", "question", "answer"] (spEn T.C_Entry))
    (G_Fence_lets : FnOk P w K mg base CX0 k T.a_Fence_lets T.d_Fence_lets ["self", "entry", "who", "question", "ticket"] (fun vs H Q E => ∃ C, spLets C T.C_Entry ltA vs H Q E)) (G_Own_lets : FnOk P w K mg base CX0 k T.a_Own_lets T.d_Own_lets ["self", "entry", "who", "question", "ticket"] (spLets T.C_Own T.C_Entry ltO))
    (G_Same_lets : FnOk P w K mg base CX0 k T.a_Same_lets T.d_Same_lets ["self", "entry", "who", "question", "ticket"] (spLets T.C_Same T.C_Entry ltS)) (G_Both_lets : FnOk P w K mg base CX0 k T.a_Both_lets T.d_Both_lets ["self", "entry", "who", "question", "ticket"] (spLets T.C_Both T.C_Entry ltB)) (G_Last_lets : FnOk P w K mg base CX0 k T.a_Last_lets T.d_Last_lets ["self", "entry", "who", "question", "ticket"] (spLets T.C_Last T.C_Entry ltL)) :
    FnOk P w K mg base CX0 (k + 2) T.a_landing T.d_landing ["stand", "number", "fence"] (spLandP T K) := by
  refine T.F_landing.ok sc_landing (fun vs H Q E h => ?_) (fun cdv A outer s H vs Q E hr h => ?_)
  · obtain ⟨G, M, W, kd, v, fv, p, n, rfl, _⟩ := h
    rfl
  · obtain ⟨G, M, W, kd, v, fv, p, n, rfl, ek, S, hf, hp, l3, hn, q⟩ := h
    refine ⟨_, (pss_cons (ps_asg (xv 0) (pg_tupK K 5 (pgs_cons (pg_name (i := 3) sc_landing.nd rfl (.inl rfl)) (pgs_cons (pg_name (i := 4) sc_landing.nd rfl (.inl rfl)) (pgs_cons (pg_name (i := 5) sc_landing.nd rfl (.inl rfl)) (pgs_cons (pg_name (i := 6) sc_landing.nd rfl (.inl rfl)) (pgs_cons (pg_name (i := 7) sc_landing.nd rfl (.inl rfl)) pgs_nil)))))))
      (pss_cons (ps_asg (pe_ix (ix_k K) (xv 4) (xv 1) (fun _ _ => rfl)) (pg_tupK K 4 (pgs_cons (pg_name (i := 8) sc_landing.nd rfl (.inl rfl)) (pgs_cons (pg_name (i := 9) sc_landing.nd rfl (.inl rfl)) (pgs_cons (pg_name (i := 10) sc_landing.nd rfl (.inl rfl)) (pgs_cons (pg_name (i := 11) sc_landing.nd rfl (.inl rfl)) pgs_nil))))))
      (pss_cons (ps_set (i := 12) sc_landing.nd rfl (.inl rfl) (pe_make T.mk_Entry G_Entry_init (hr.mono (by omega)) (by rfl) T.g_Entry T.b_Entry_init .nil pass0 (pa_cons (pe_tup pa_nil) (pa_cons pe_str (pa_cons (xv 8) (pa_cons (xv 9) (pa_cons (xv 10) (pa_cons (xv 11) pa_nil))))))))
      (xss_cut (xs_if (xt_truK K (pe_or (pe_meth (xv 2) T.cl_Fence T.me_Fence_lets G_Fence_lets (hr.mono (by omega)) T.b_Fence_lets .nil pass0 (pa_cons (xv 12) (pa_cons pe_int (pa_cons (xv 5) (pa_cons pe_int pa_nil))))) (pe_or (pe_meth (xv 2) T.cl_Own T.me_Own_lets G_Own_lets (hr.mono (by omega)) T.b_Own_lets .nil pass0 (pa_cons (xv 12) (pa_cons pe_int (pa_cons (xv 5) (pa_cons pe_int pa_nil))))) (pe_or (pe_meth (xv 2) T.cl_Same T.me_Same_lets G_Same_lets (hr.mono (by omega)) T.b_Same_lets .nil pass0 (pa_cons (xv 12) (pa_cons pe_int (pa_cons (xv 5) (pa_cons pe_int pa_nil))))) (pe_or (pe_meth (xv 2) T.cl_Both T.me_Both_lets G_Both_lets (hr.mono (by omega)) T.b_Both_lets .nil pass0 (pa_cons (xv 12) (pa_cons pe_int (pa_cons (xv 5) (pa_cons pe_int pa_nil))))) (pe_meth (xv 2) T.cl_Last T.me_Last_lets G_Last_lets (hr.mono (by omega)) T.b_Last_lets .nil pass0 (pa_cons (xv 12) (pa_cons pe_int (pa_cons (xv 5) (pa_cons pe_int pa_nil))))))))))
      (pss_one (ps_set (i := 7) sc_landing.nd rfl (.inl rfl) (xv 11)))
      pss_nil)
      (pss_one (ps_ret (pe_tup (pa_cons (xv 3) (pa_cons (pe_op (op_catAK K) (pe_slice (sl_tupAK K) (xv 4) po_none (po_some (xv 1))) (pe_slice (sl_tupAK K) (xv 4) (po_some (pe_op op_addY (xv 1) pe_int)) po_none)) (pa_cons (xv 5) (pa_cons (xv 6) (pa_cons (xv 7) pa_nil)))))))))))), ?_⟩
    obtain ⟨a, ll, ws, rfl, h1, h2, h3⟩ := hp
    have el := prd_len h3
    obtain ⟨fx, fdx, rfl, hf⟩ := hf
    obtain ⟨x, hx, b, rfl, hb⟩ := prd_back h3 (List.getElem?_eq_getElem hn)
    refine ⟨a, _, rfl, SqT.of (S.st h1), rfl, _, _, rfl, _, _, rfl, _, _, rfl, _, _, rfl, _, _, rfl, rfl, ?_⟩
    refine ⟨_, _, .inr (S.t h2), atI_nat hx, ?_⟩
    refine ⟨b, _, rfl, SqT.of (S.st hb), rfl, _, _, rfl, _, _, rfl, _, _, rfl, _, _, rfl, rfl, ?_⟩
    refine ⟨sz, fun t nt => ?_⟩
    obtain ⟨G1, s1, S1, k1⟩ := Sep.mk (o := .tup []) S nt
    refine fun e de ne nde hne => ?_
    have S2 := S1.new2 (o := .ins T.C_Entry de []) (u := .own e) ne nde hne
    let r : Rw := ⟨.ref t, "ask", zP (p.ln[n]).own, zP (p.ln[n]).lt, ((p.ln[n]).qu : Nat), (p.ln[n]).an⟩
    refine ⟨G1, _, e, de, r, rfl, S2, fun H3 S3 => ⟨rfl, ?_⟩⟩
    obtain ⟨G2, s2, S4, k2⟩ := Sep.keep S3
    have S5 := S4.drop
    have s02 := s1.trans s2
    refine ⟨fun σ H' => ∃ sh : Int, σ = [some (.ref a), some (.int (n : Nat)), some (.ref fx), some (.int (p.ed : Nat)), some (.ref ll), some (.int (p.la : Nat)), some (.int p.du), some (.int sh), some (.int (zP (p.ln[n]).own)), some (.int (zP (p.ln[n]).lt)), some (.int ((p.ln[n]).qu : Nat)), some (.int (p.ln[n]).an), some (.ref e)] ∧ sh = (if W.lt (p.ln[n]).own (decide ((p.ln[n]).qu = p.la)) (p.ln[n]).lt then (p.ln[n]).an else p.sh) ∧ Sep G2 M H', ?_, fun σ H4 h => ?_⟩
    · have ez : kd.f r 0 (p.la : Nat) 0 = W.lt (p.ln[n]).own (decide ((p.ln[n]).qu = p.la)) (p.ln[n]).lt := by
        rw [kd_f, ek]
        show kd.lt (decide (zP (p.ln[n]).own = 0)) (decide ((((p.ln[n]).qu : Nat) : Int) = (p.la : Nat))) (decide (zP (p.ln[n]).lt = 0)) = _
        rw [zP_0, zP_0]
        simp only [Int.natCast_inj]
      refine lets5 T (fun R h => h) (fun R h => h) (S5.st (s02 _ _ hf)) (S5.st k2) ?_
      refine ⟨fun e1 => ?_, fun e1 => ?_⟩
      · have e1 := ez.symm.trans e1
        exact ⟨_, rfl, by rw [if_pos e1], S5⟩
      · have e1 := ez.symm.trans e1
        exact ⟨_, rfl, by rw [if_neg (by rw [e1]; decide)], S5⟩
    · obtain ⟨sh, rfl, esh, S6⟩ := h
      have two : ∀ x y : Option Int, (cutV ws none x).length + (cutV ws y none).length ≤ sizeLine := fun x y => by
        have a1 := cutV_length ws none x
        have a2 := cutV_length ws y none
        rw [sizeLine_eq]
        omega
      refine ⟨n, rfl, ?_⟩
      refine cutA_ok S6 (same_t s02 h2) fun c1 G3 H3 s3 hc1 S7 => ?_
      refine ⟨((n : Nat) : Int) + 1, rfl, ?_⟩
      unfold tNoPart
      refine cutA_ok S7 (same_t (s02.trans s3) h2) fun c2 G4 H5 s4 hc2 S8 => ?_
      refine cat_ok S8 (same_t s4 hc1) hc2 (two _ _) fun c3 G5 H6 s5 hc3 S9 => ?_
      have e2 : cutV ws none (some (n : Int)) = ws.take n := cutV_up2 ws n (by omega)
      have e3 : cutV ws (some ((n : Int) + 1)) none = ws.drop (n + 1) := cutV_from ws (n + 1) (by omega)
      rw [e2, e3] at hc3
      refine ⟨sz, fun u nu => ?_⟩
      obtain ⟨G6, s6, S10, k6⟩ := Sep.mk (o := .tup [.int (p.ed : Nat), .ref c3, .int (p.la : Nat), .int p.du, .int sh]) S9 nu
      have s06 := s02.trans (s3.trans (s4.trans (s5.trans s6)))
      refine q _ G6 _ s06 ?_ S10
      have e0 : aftP W p (.land n) = ⟨p.ed, p.ln.take n ++ p.ln.drop (n + 1), p.la, p.du, sh⟩ := by
        show (match p.ln[n]? with | some e => landP W p n e | none => p) = _
        rw [List.getElem?_eq_getElem hn, esh]
        rfl
      rw [e0]
      refine ⟨u, c3, _, rfl, k6, same_t s6 hc3, ?_⟩
      exact prd_app (prd_take n (prd_imp (fun _ _ => OqP.same s06) h3)) (prd_drop (n + 1) (prd_imp (fun _ _ => OqP.same s06) h3))

end
end K48
set_option Elab.async false
set_option linter.all false
set_option maxRecDepth 100000
set_option maxHeartbeats 4000000
namespace K48
open PySem PySem.Spec PyProof.Rows L2 XL
section
variable {P : Program} {w : World} {K : PySem.W.Frag} {mg : Str → Option Value} {base : Heap}
theorem smallT {n m : Nat} (h : n ≤ 100) (k : m ≤ 100) : n + m ≤ sizeLine := by rw [sizeLine_eq]; omega
def spStepsP (K : PySem.W.Frag) : Sp := fun vs H Q _ => ∃ (G : Hp) (M : List (Addr × HO)) (W : Wd) (sa qa : Addr) (v : V) (p : Pt), vs = [v, .ref sa, .ref qa] ∧ Sep G M H ∧ WAt G W sa qa ∧ PtP K G v p ∧ OkP W p ∧
  ∀ l ws G' H', Same G G' → G' l = some (.lst ws) → Paired (StpAt G') ws (stepsP W p) → Sep G' M H' → Q (.ref l) H'
theorem ok_steps_of (T : Top K mg w) {k : Nat} : FnOk P w K mg base CX0 (k + 1) T.a_steps_of T.d_steps_of ["stand", "far", "questions"] (spStepsP K) := by
  refine T.F_steps_of.ok sc_steps_of (fun vs H Q E h => ?_) (fun cdv A outer s H vs Q E hr h => ?_)
  · obtain ⟨G, M, W, sa, qa, v, p, rfl, _⟩ := h
    rfl
  · obtain ⟨G, M, W, sa, qa, v, p, rfl, S, hw, hp, okp, q⟩ := h
    refine ⟨_, (pss_cons (ps_asg (xv 0) (pg_tupK K 5 (pgs_cons (pg_name (i := 3) sc_steps_of.nd rfl (.inl rfl)) (pgs_cons (pg_name (i := 4) sc_steps_of.nd rfl (.inl rfl)) (pgs_cons (pg_name (i := 5) sc_steps_of.nd rfl (.inr rfl)) (pgs_cons (pg_name (i := 6) sc_steps_of.nd rfl (.inl rfl)) (pgs_cons (pg_name (i := 7) sc_steps_of.nd rfl (.inl rfl)) pgs_nil)))))))
      (pss_cons (ps_setLc (i := 8) (own := [("question", 9)]) (by rfl) sc_steps_of.nd rfl rfl (sw_true rfl rfl rfl (by decide +kernel)) (pi_listK K (xv 2)) (blkOk_by (N := ["stand", "far", "questions", "edition", "line", "last", "due", "shown", "steps", "question", "number"]) (sc := defScope s_steps_of) (by decide +kernel)) (fun _ _ _ _ _ => (pg_name (i := 9) sc_steps_of.nd rfl (.inl rfl))) (fun _ _ _ _ _ => (pts_one (xt_cmp (op_neLK K hr.u190) (xv 9) (xv 5) (nomark _)))) (fun _ _ _ _ _ => (pe_tup (pa_cons pe_str (pa_cons (xv 9) pa_nil)))))
      (pss_cons (ps_expr (pe_bmK K PySem.F.plainAttrs_list PySem.F.slot_list_extend PySem.F.type_list_extend mt_extend (xv 8) (pa_cons (pe_lc (own := [("number", 10)]) (by rfl) sc_steps_of.nd (pi_range1 (by rfl) T.m_range (pa_cons (pe_callB (cr_lenK K) (by rfl) T.m_len (by decide +kernel) (pa_cons (xv 4) pa_nil)) pa_nil)) (blkOk_by (N := ["stand", "far", "questions", "edition", "line", "last", "due", "shown", "steps", "question", "number"]) (sc := defScope s_steps_of) (by decide +kernel)) (fun _ _ _ _ _ => (pg_name (i := 10) sc_steps_of.nd rfl (.inl rfl))) (fun _ _ _ _ _ => pts_nil) (fun _ _ _ _ _ => (pe_tup (pa_cons pe_str (pa_cons (xv 10) pa_nil))))) pa_nil)))
      (xss_cut (xs_if (xt_cmp op_ltY (pe_op op_addY (xv 3) pe_int) (pe_callB (cr_lenK K) (by rfl) T.m_len (by decide +kernel) (pa_cons (xv 1) pa_nil)) (nomark _))
      (pss_one (ps_expr (pe_bmK K PySem.F.plainAttrs_list PySem.F.slot_list_append PySem.F.type_list_append mt_append (xv 8) (pa_cons (pe_tup (pa_cons pe_str pa_nil)) pa_nil))))
      pss_nil)
      (pss_cons (ps_expr (pe_bmK K PySem.F.plainAttrs_list PySem.F.slot_list_extend PySem.F.type_list_extend mt_extend (xv 8) (pa_cons (pe_lc (own := [("question", 9)]) (by rfl) sc_steps_of.nd (pi_listK K (xv 2)) (blkOk_by (N := ["stand", "far", "questions", "edition", "line", "last", "due", "shown", "steps", "question", "number"]) (sc := defScope s_steps_of) (by decide +kernel)) (fun _ _ _ _ _ => (pg_name (i := 9) sc_steps_of.nd rfl (.inl rfl))) (fun _ _ _ _ _ => pts_nil) (fun _ _ _ _ _ => (pe_tup (pa_cons pe_str (pa_cons (xv 9) pa_nil))))) pa_nil)))
      (pss_one (ps_ret (xv 8)))))))), ?_⟩
    obtain ⟨a, ll, ws, rfl, h1, h2, h3⟩ := hp
    have el := prd_len h3
    have q4 : W.qs.length ≤ 4 := hw.1.qs.2
    have l3 : p.ln.length ≤ 3 := Nat.le_trans okp.2.1 hw.1.rm.2
    obtain ⟨us, hs, hus⟩ := hw.2.1
    have usl : us.length = W.st.length := prd_len hus
    have hq := hw.2.2
    let as := fun i => ((W.qs.take i).filter fun q => !decide (q = p.la)).map Stp.ask
    refine ⟨a, _, rfl, SqT.of (S.st h1), rfl, _, _, rfl, _, _, rfl, _, _, rfl, _, _, rfl, _, _, rfl, rfl, ?_⟩
    -- the questions
    refine ⟨qa, rfl, ⟨_, SqL.of (S.st hq)⟩, fun D nD => lc_list (xs := W.qs.map nV) (fun i H' => ∃ (G' : Hp) (vs : List V), Same G G' ∧ vs.length ≤ i ∧ Paired (StpAt G') vs (as i) ∧ Sep G' ((D, .lst vs) :: M) H')
      ⟨G, [], Same.refl _, Nat.le_refl _, .nil, S.new nD⟩ (fun i H' _ h => ?_) (fun i y H' hy h => ⟨rfl, ?_⟩) (fun H' h => ?_)⟩
    · obtain ⟨G', vs, s', _, _, S'⟩ := h
      exact SqL.of (S'.st (s' _ _ hq))
    · obtain ⟨G', vs, s', vl, pv, S'⟩ := h
      obtain ⟨n, hn, rfl⟩ := nV_get hy
      have i4 : i < W.qs.length := (List.getElem?_eq_some_iff.mp hn).1
      have e0 : as (i + 1) = as i ++ (if n = p.la then [] else [Stp.ask n]) := by
        show List.map _ (List.filter _ (List.take (i + 1) _)) = _
        rw [List.take_add_one, hn, List.filter_append, List.map_append]
        by_cases z : n = p.la <;> simp [as, z]
      refine tst (fun e1 => ?_) (fun e1 => ?_)
      · have ne : n ≠ p.la := fun z => by
          have e1 : (!decide ((n : Int) = (p.la : Nat))) = true := e1
          simp [z] at e1
        rw [if_neg ne] at e0
        refine ⟨sz, fun t nt => ?_⟩
        obtain ⟨G2, s2, S2, k2⟩ := Sep.mk (o := .tup [.str "ask", .int (n : Nat)]) S' nt
        refine ⟨vs, S2.hd, smallL (by omega), G2, vs ++ [.ref t], s'.trans s2, by simp; omega, ?_, S2.set⟩
        rw [e0]
        exact prd_app (stps_same s2 pv) (.cons ⟨t, rfl, k2⟩ .nil)
      · have eq : n = p.la := by
          have e1 : (!decide ((n : Int) = (p.la : Nat))) = false := e1
          have e2 : (n : Int) = (p.la : Nat) := by simpa using e1
          omega
        rw [if_pos eq, List.append_nil] at e0
        exact ⟨G', vs, s', by omega, by rw [e0]; exact pv, S'⟩
    obtain ⟨G1, va, s1, val, pa, S1⟩ := h
    have pa : Paired (StpAt G1) va ((W.qs.filter fun q => !decide (q = p.la)).map Stp.ask) := by
      have := pa
      simp only [as, List.length_map, List.take_length] at this
      exact this
    have va4 : va.length ≤ 4 := by rw [List.length_map] at val; omega
    -- the open ones
    refine ⟨.inl ⟨rfl, _, SqL.of S1.hd⟩, _, .inr (S1.t (same_t s1 h2)), ?_⟩
    refine ⟨ws.length, rfl, by omega, by omega, fun D2 nD2 => lc_range (lo := 0) (n := ((ws.length : Nat) : Int).toNat) (fun i H' => ∃ (G' : Hp) (vs : List V), Same G1 G' ∧ vs.length = i ∧ Paired (StpAt G') vs ((List.range i).map Stp.land) ∧ Sep G' ((D2, .lst vs) :: (D, .lst va) :: M) H')
      ⟨G1, [], Same.refl _, rfl, .nil, S1.new nD2⟩ (fun i H' hi h => ⟨rfl, ?_⟩) (fun H' h => ?_)⟩
    · obtain ⟨G', vs, s', vl, pv, S'⟩ := h
      refine ⟨sz, fun t nt => ?_⟩
      have e0 : (0 : Int) + (i : Nat) = (i : Nat) := by omega
      obtain ⟨G2, s2, S2, k2⟩ := Sep.mk (o := .tup [.str "land", .int (0 + (i : Nat))]) S' nt
      have hi : i < ((ws.length : Nat) : Int).toNat := hi
      rw [Int.toNat_natCast] at hi
      refine ⟨vs, S2.hd, smallL (by omega), G2, vs ++ [.ref t], s'.trans s2, by simp [vl], ?_, S2.set⟩
      rw [List.range_succ, List.map_append]
      refine prd_app (stps_same s2 pv) (.cons ⟨t, rfl, ?_⟩ .nil)
      rw [k2, e0]
    obtain ⟨G2, vb, s2, vbl, pb, S2⟩ := h
    rw [Int.toNat_natCast] at vbl pb
    refine ⟨D, D2, va, vb, rfl, rfl, S2.sw.hd, S2.hd, smallT (by omega) (by omega), ?_⟩
    have S3 := (S2.sw.set (o' := .lst (va ++ vb))).sw.drop
    have s02 := s1.trans s2
    have pab : Paired (StpAt G2) (va ++ vb) ((W.qs.filter fun q => !decide (q = p.la)).map Stp.ask ++ (List.range p.ln.length).map Stp.land) := prd_app (stps_same s2 pa) (by rw [← el]; exact pb)
    refine ⟨fun σ H' => ∃ (G' : Hp) (vs : List V), σ = [some (.ref a), some (.ref sa), some (.ref qa), some (.int (p.ed : Nat)), some (.ref ll), some (.int (p.la : Nat)), some (.int p.du), some (.int p.sh), some (.ref D), none, none] ∧ Same G G' ∧ vs.length ≤ 20 ∧ Paired (StpAt G') vs (((W.qs.filter fun q => !decide (q = p.la)).map Stp.ask ++ (List.range p.ln.length).map Stp.land) ++ (if p.ed + 1 < W.st.length then [Stp.far] else [])) ∧ Sep G' ((D, .lst vs) :: M) H', ?_, fun σ H4 h => ?_⟩
    · refine ⟨_, .inr (SqT.of (S3.st (s02 _ _ hs))), fun e1 => ?_, fun e1 => ?_⟩
      · have lt : p.ed + 1 < W.st.length := by
          have e1 : decide (((p.ed : Nat) : Int) + 1 < (us.length : Nat)) = true := e1
          have := of_decide_eq_true e1
          omega
        refine ⟨.inl ⟨rfl, _, SqL.of S3.hd⟩, sz, fun t nt => ?_⟩
        obtain ⟨G4, s4, S4, k4⟩ := Sep.mk (o := .tup [.str "far"]) S3 nt
        refine ⟨D, _, _, rfl, rfl, S4.hd, smallL (by rw [List.length_append]; omega), ?_⟩
        refine ⟨G4, _, rfl, s02.trans s4, by simp; omega, ?_, S4.set⟩
        rw [if_pos lt]
        exact prd_app (stps_same s4 pab) (.cons ⟨t, rfl, k4⟩ .nil)
      · have ge : ¬ p.ed + 1 < W.st.length := by
          have e1 : decide (((p.ed : Nat) : Int) + 1 < (us.length : Nat)) = false := e1
          have := of_decide_eq_false e1
          omega
        refine ⟨G2, _, rfl, s02, by simp; omega, ?_, S3⟩
        rw [if_neg ge, List.append_nil]
        exact pab
    · obtain ⟨G4, vc, rfl, s4, vcl, pc, S4⟩ := h
      have hq4 := s4 _ _ hq
      refine ⟨.inl ⟨rfl, _, SqL.of S4.hd⟩, qa, rfl, ⟨_, SqL.of (S4.st hq4)⟩, fun D5 nD5 => lc_list (xs := W.qs.map nV) (fun i H' => ∃ (G' : Hp) (vs : List V), Same G4 G' ∧ vs.length = i ∧ Paired (StpAt G') vs ((W.qs.take i).map Stp.again) ∧ Sep G' ((D5, .lst vs) :: (D, .lst vc) :: M) H')
        ⟨G4, [], Same.refl _, rfl, .nil, S4.new nD5⟩ (fun i H' _ h => ?_) (fun i y H' hy h => ⟨rfl, ?_⟩) (fun H' h => ?_)⟩
      · obtain ⟨G', vs, s', _, _, S'⟩ := h
        exact SqL.of (S'.st (s' _ _ hq4))
      · obtain ⟨G', vs, s', vl, pv, S'⟩ := h
        obtain ⟨n, hn, rfl⟩ := nV_get hy
        have i4 : i < W.qs.length := (List.getElem?_eq_some_iff.mp hn).1
        refine ⟨sz, fun t nt => ?_⟩
        obtain ⟨G2, s2, S2, k2⟩ := Sep.mk (o := .tup [.str "again", .int (n : Nat)]) S' nt
        refine ⟨vs, S2.hd, smallL (by omega), G2, vs ++ [.ref t], s'.trans s2, by simp [vl], ?_, S2.set⟩
        rw [List.take_add_one, hn, List.map_append]
        exact prd_app (stps_same s2 pv) (.cons ⟨t, rfl, k2⟩ .nil)
      · obtain ⟨G5, vd, s5, vdl, pd, S5⟩ := h
        rw [List.length_map, List.take_length] at pd
        rw [List.length_map] at vdl
        refine ⟨D, D5, vc, vd, rfl, rfl, S5.sw.hd, S5.hd, smallT (by omega) (by omega), ?_⟩
        obtain ⟨G6, s6, S6, k6⟩ := Sep.keep (S5.sw.set (o' := .lst (vc ++ vd)))
        refine q D (vc ++ vd) G6 _ (s4.trans (s5.trans s6)) k6 ?_ S6.drop
        unfold stepsP
        exact prd_app (stps_same (s5.trans s6) pc) (stps_same s6 pd)
def spBehind (T : Top K mg w) (K' : PySem.W.Frag) : Sp := fun vs H Q _ => ∃ (G : Hp) (M : List (Addr × HO)) (W : Wd) (kd : Kd) (sa qa : Addr) (v sv fv : V) (p : Pt) (s : Stp), vs = [v, sv, .ref sa, .int (W.rm : Nat), fv] ∧ W.lt = kd.lt ∧ Sep G M H ∧ WAt G W sa qa ∧ FnAt (kc T) G fv kd ∧ PtP K' G v p ∧ OkP W p ∧ StpAt G sv s ∧ StpOk W p s ∧
  ∀ v' G' H', Same G G' → PtP K' G' v' (aftP W p s) → Sep G' M H' → Q v' H'
theorem ok_stand_behind (T : Top K mg w) {k : Nat} (G_sending : FnOk P w K mg base CX0 k T.a_sending T.d_sending ["stand", "far", "room", "question", "renewed"] (spSendP K)) (G_landing : FnOk P w K mg base CX0 k T.a_landing T.d_landing ["stand", "number", "fence"] (spLandP T K)) :
    FnOk P w K mg base CX0 (k + 1) T.a_stand_behind T.d_stand_behind ["stand", "step", "far", "room", "fence"] (spBehind T K) := by
  refine T.F_stand_behind.ok sc_stand_behind (fun vs H Q E h => ?_) (fun cdv A outer s H vs Q E hr h => ?_)
  · obtain ⟨G, M, W, kd, sa, qa, v, sv, fv, p, st, rfl, _⟩ := h
    rfl
  · obtain ⟨G, M, W, kd, sa, qa, v, sv, fv, p, st, rfl, ek, S, hw, hf, hp, okp, hs, hok, q⟩ := h
    refine ⟨_, (pss_cons (xs_if (xt_cmp (op_eqLK K hr.u190) (pe_ix (ix_k K) (xv 1) pe_int (fun _ _ => rfl)) pe_str (nomark _))
      (pss_one (ps_ret (pe_call G_sending (hr.mono (by omega)) (by rfl) T.g_sending T.F_sending.kp T.b_sending .nil pass0 (pa_cons (xv 0) (pa_cons (xv 2) (pa_cons (xv 3) (pa_cons (pe_ix (ix_k K) (xv 1) pe_int (fun _ _ => rfl)) (pa_cons pe_bl pa_nil))))))))
      pss_nil)
      (pss_cons (xs_if (xt_cmp (op_eqLK K hr.u190) (pe_ix (ix_k K) (xv 1) pe_int (fun _ _ => rfl)) pe_str (nomark _))
      (pss_one (ps_ret (pe_call G_landing (hr.mono (by omega)) (by rfl) T.g_landing T.F_landing.kp T.b_landing .nil pass0 (pa_cons (xv 0) (pa_cons (pe_ix (ix_k K) (xv 1) pe_int (fun _ _ => rfl)) (pa_cons (xv 4) pa_nil))))))
      pss_nil)
      (pss_cons (xs_if (xt_cmp (op_eqLK K hr.u190) (pe_ix (ix_k K) (xv 1) pe_int (fun _ _ => rfl)) pe_str (nomark _))
      (pss_one (ps_ret (pe_call G_sending (hr.mono (by omega)) (by rfl) T.g_sending T.F_sending.kp T.b_sending .nil pass0 (pa_cons (xv 0) (pa_cons (xv 2) (pa_cons (xv 3) (pa_cons (pe_ix (ix_k K) (xv 1) pe_int (fun _ _ => rfl)) (pa_cons pe_bl pa_nil))))))))
      pss_nil)
      (pss_cons (ps_asg (xv 0) (pg_tupK K 5 (pgs_cons (pg_name (i := 5) sc_stand_behind.nd rfl (.inl rfl)) (pgs_cons (pg_name (i := 6) sc_stand_behind.nd rfl (.inl rfl)) (pgs_cons (pg_name (i := 7) sc_stand_behind.nd rfl (.inl rfl)) (pgs_cons (pg_name (i := 8) sc_stand_behind.nd rfl (.inl rfl)) (pgs_cons (pg_name (i := 9) sc_stand_behind.nd rfl (.inl rfl)) pgs_nil)))))))
      (pss_one (ps_ret (pe_tup (pa_cons (pe_op op_addY (xv 5) pe_int) (pa_cons (xv 6) (pa_cons (xv 7) (pa_cons (xv 8) (pa_cons (xv 9) pa_nil)))))))))))), ?_⟩
    have l3 : p.ln.length ≤ 3 := Nat.le_trans okp.2.1 hw.1.rm.2
    cases st with
    | ask qn =>
      obtain ⟨b, rfl, hb⟩ := hs
      have hT := SqT.of (K := K) (S.st hb)
      refine ⟨_, _, .inr hT, atI_nat (j := 0) rfl, fun _ => ?_, fun e => absurd e (by decide +kernel)⟩
      refine ⟨_, _, .inr hT, atI_nat (j := 1) rfl, ?_⟩
      exact ⟨G, M, W, sa, qa, _, p, qn, false, rfl, S, hw, hp, okp, hw.1.q3 _ hok, q⟩
    | land n =>
      obtain ⟨b, rfl, hb⟩ := hs
      have hT := SqT.of (K := K) (S.st hb)
      refine ⟨_, _, .inr hT, atI_nat (j := 0) rfl, fun e => absurd e (by decide +kernel), fun _ => ?_⟩
      refine ⟨_, _, .inr hT, atI_nat (j := 0) rfl, fun _ => ?_, fun e => absurd e (by decide +kernel)⟩
      refine ⟨_, _, .inr hT, atI_nat (j := 1) rfl, ?_⟩
      exact ⟨G, M, W, kd, _, _, p, n, rfl, ek, S, hf, hp, l3, hok, q⟩
    | again qn =>
      obtain ⟨b, rfl, hb⟩ := hs
      have hT := SqT.of (K := K) (S.st hb)
      refine ⟨_, _, .inr hT, atI_nat (j := 0) rfl, fun e => absurd e (by decide +kernel), fun _ => ?_⟩
      refine ⟨_, _, .inr hT, atI_nat (j := 0) rfl, fun e => absurd e (by decide +kernel), fun _ => ?_⟩
      refine ⟨_, _, .inr hT, atI_nat (j := 0) rfl, fun _ => ?_, fun e => absurd e (by decide +kernel)⟩
      refine ⟨_, _, .inr hT, atI_nat (j := 1) rfl, ?_⟩
      exact ⟨G, M, W, sa, qa, _, p, qn, true, rfl, S, hw, hp, okp, hw.1.q3 _ hok, q⟩
    | far =>
      obtain ⟨b, rfl, hb⟩ := hs
      have hT := SqT.of (K := K) (S.st hb)
      refine ⟨_, _, .inr hT, atI_nat (j := 0) rfl, fun e => absurd e (by decide +kernel), fun _ => ?_⟩
      refine ⟨_, _, .inr hT, atI_nat (j := 0) rfl, fun e => absurd e (by decide +kernel), fun _ => ?_⟩
      refine ⟨_, _, .inr hT, atI_nat (j := 0) rfl, fun e => absurd e (by decide +kernel), fun _ => ?_⟩
      obtain ⟨a, ll, ws, rfl, h1, h2, h3⟩ := hp
      refine ⟨a, _, rfl, SqT.of (S.st h1), rfl, _, _, rfl, _, _, rfl, _, _, rfl, _, _, rfl, _, _, rfl, rfl, ?_⟩
      refine ⟨sz, fun t nt => ?_⟩
      obtain ⟨G2, s2, S2, k2⟩ := Sep.mk (o := .tup [.int ((p.ed : Nat) + 1), .ref ll, .int (p.la : Nat), .int p.du, .int p.sh]) S nt
      exact q _ G2 _ s2 ⟨t, ll, ws, rfl, k2, same_t s2 h2, prd_imp (fun _ _ => OqP.same s2) h3⟩ S2

end
end K48
set_option Elab.async false
set_option linter.all false
set_option maxRecDepth 100000
set_option maxHeartbeats 4000000
namespace K48
open PySem PySem.Spec PyProof.Rows L2 XL
section
variable {P : Program} {w : World} {K : PySem.W.Frag} {mg : Str → Option Value} {base : Heap}
/-! ### late_row -/
def TabP (K : PySem.W.Frag) (w : World) (G : Hp) (D : Addr) (o : HO) (kn : List (Pt × List Stp)) : Prop := ∃ kvs, DD K w G D o kvs ∧ Paired (RwK zP (RowAt G)) kvs kn
theorem TabP.same {K : PySem.W.Frag} {w : World} {G G' : Hp} {D : Addr} {o : HO} {kn : List (Pt × List Stp)} (e : Same G G') (h : TabP K w G D o kn) : TabP K w G' D o kn := let ⟨kvs, h1, h2⟩ := h; ⟨kvs, h1.same e, prd_imp (fun _ _ z => ⟨z.1, z.2.same e⟩) h2⟩
abbrev LP (K : PySem.W.Frag) (G : Hp) : List V → List (Pt × List Stp) → Prop := Paired fun v x => PtP K G v x.1
theorem lp_same {K : PySem.W.Frag} {G G' : Hp} {ws : List V} {lv : List (Pt × List Stp)} (e : Same G G') (h : LP K G ws lv) : LP K G' ws lv := prd_imp (fun _ _ => PtP.same e) h
theorem prd_nil {α β : Type} {F : α → β → Prop} {xs : List α} {ys : List β} (h : Paired F xs ys) : xs = [] ↔ ys = [] := by
  cases h with
  | nil => exact ⟨fun _ => rfl, fun _ => rfl⟩
  | cons _ _ => exact ⟨(fun e => nomatch e), (fun e => nomatch e)⟩
theorem one_kn {W : Wd} {p : Pt} {row : List Stp} {b b' : Bs} {s : Stp} (e : oneS W p row b s = .ok b') : ∀ y ∈ b.kn, y ∈ b'.kn := by
  intro y hy
  unfold oneS at e
  split at e
  · cases e
    exact hy
  · split at e
    · cases e
    · cases e
      exact List.mem_append_left _ hy
theorem foldM_rel {α β ε : Type} {f : β → α → Except ε β} {R : β → β → Prop} (hr : ∀ b, R b b) (ht : ∀ a b c, R a b → R b c → R a c) (h : ∀ b x b', f b x = .ok b' → R b b') : ∀ {l : List α} {b b' : β}, l.foldlM f b = .ok b' → R b b'
  | [], b, b', e => by cases e; exact hr _
  | x :: xs, b, b', e => by
    rw [List.foldlM_cons] at e
    cases e1 : f b x with
    | error z => rw [e1] at e; cases e
    | ok c => rw [e1] at e; exact ht _ _ _ (h _ _ _ e1) (foldM_rel hr ht h e)
theorem steps_kn {W : Wd} {p : Pt} {row : List Stp} {l : List Stp} {b b' : Bs} (e : stepsS W p row l b = .ok b') : ∀ y ∈ b.kn, y ∈ b'.kn :=
  foldM_rel (R := fun b b' => ∀ y ∈ b.kn, y ∈ b'.kn) (fun _ _ h => h) (fun _ _ _ h1 h2 y hy => h2 y (h1 y hy)) (fun _ _ _ e => one_kn e) e
theorem in_kn {W : Wd} {kn : List (Pt × List Stp)} {l : List (Pt × List Stp)} {x y : Pt × List Stp} {ls : List Stp} {b b' : Bs} (e : levS W l ⟨kn, []⟩ = .ok b) (e2 : stepsS W x.1 x.2 ls b = .ok b') (h : y ∈ kn) : y ∈ b'.kn := by
  refine steps_kn e2 y ?_
  exact foldM_rel (f := fun b (x : Pt × List Stp) => stepsS W x.1 x.2 (stepsP W x.1) b) (R := fun b b' => ∀ y ∈ b.kn, y ∈ b'.kn) (fun _ _ h => h) (fun _ _ _ h1 h2 y hy => h2 y (h1 y hy)) (fun _ _ _ e => steps_kn e) e y h
def spLateRowN (K : PySem.W.Frag) : Sp := fun vs H Q _ => ∃ (G : Hp) (M : List (Addr × HO)) (W : Wd) (kd : Kd) (sa qa : Addr) (R : Rs), vs = [.str kd.wd, .ref sa, .int (W.rm : Nat), .ref qa] ∧ W.lt = kd.lt ∧ Sep G M H ∧ WAt G W sa qa ∧ OkA W ∧ R ≠ .many ∧ (∃ N, bfsN W N [(startP W, [])] [(startP W, [])] = R) ∧
  ∀ v G' H', Same G G' → RsAt G' v R → Sep G' M H' → Q v H'
theorem ok_late_row (T : Top K mg w) {k : Nat} (G_fence_of : FnOk P w K mg base CX0 k T.a_fence_of T.d_fence_of ["word"] (spFenceG (kc T))) (G_steps_of : FnOk P w K mg base CX0 k T.a_steps_of T.d_steps_of ["stand", "far", "questions"] (spStepsP K)) (G_stand_behind : FnOk P w K mg base CX0 k T.a_stand_behind T.d_stand_behind ["stand", "step", "far", "room", "fence"] (spBehind T K)) :
    FnOk P w K mg base CX0 (k + 1) T.a_late_row T.d_late_row ["word", "far", "room", "questions"] (spLateRowN K) := by
  refine T.F_late_row.ok sc_late_row (fun vs H Q E h => ?_) (fun cdv A outer s H vs Q E hr h => ?_)
  · obtain ⟨G, M, W, kd, sa, qa, R, rfl, _⟩ := h
    rfl
  · obtain ⟨G, M, W, kd, sa, qa, R, rfl, ek, S, hw, wa, nm, ⟨N, hR⟩, q⟩ := h
    refine ⟨_, (pss_cons (ps_set (i := 4) sc_late_row.nd rfl (.inl rfl) (pe_call G_fence_of (hr.mono (by omega)) (by rfl) T.g_fence_of T.F_fence_of.kp T.b_fence_of .nil pass0 (pa_cons (xv 0) pa_nil)))
      (pss_cons (ps_set (i := 5) sc_late_row.nd rfl (.inl rfl) (pe_ix (ix_k K) (xv 3) pe_int (fun _ _ => rfl)))
      (pss_cons (ps_set (i := 6) sc_late_row.nd rfl (.inl rfl) (pe_ix (ix_k K) (pe_ix (ix_k K) (xv 1) pe_int (fun _ _ => rfl)) (xv 5) (fun _ _ => rfl)))
      (pss_cons (ps_set (i := 7) sc_late_row.nd rfl (.inl rfl) (pe_tup (pa_cons pe_int (pa_cons (pe_tup (pa_cons (pe_tup (pa_cons pe_int (pa_cons pe_int (pa_cons (xv 5) (pa_cons (xv 6) pa_nil))))) pa_nil)) (pa_cons (xv 5) (pa_cons (xv 6) (pa_cons pe_int pa_nil)))))))
      (pss_cons (ps_set (i := 8) sc_late_row.nd rfl (.inl rfl) (pe_dd1 K w hr.u9 (xv 7) (pe_lst pa_nil)))
      (pss_cons (ps_set (i := 9) sc_late_row.nd rfl (.inl rfl) (pe_lst (pa_cons (xv 7) pa_nil)))
      (pss_cons (xs_while PassesOwn.never (xt_truK K (xv 9))
      (pss_cons (ps_set (i := 10) sc_late_row.nd rfl (.inl rfl) (pe_lst pa_nil))
      (pss_cons (ps_for PassesOwn.never rfl (pi_listK K (xv 9)) (pg_name (i := 11) sc_late_row.nd rfl (.inl rfl))
      (pss_one (ps_for PassesOwn.never rfl (pi_listK K (pe_call G_steps_of (hr.mono (by omega)) (by rfl) T.g_steps_of T.F_steps_of.kp T.b_steps_of .nil pass0 (pa_cons (xv 11) (pa_cons (xv 1) (pa_cons (xv 3) pa_nil))))) (pg_name (i := 12) sc_late_row.nd rfl (.inl rfl))
      (pss_cons (ps_set (i := 13) sc_late_row.nd rfl (.inl rfl) (pe_call G_stand_behind (hr.mono (by omega)) (by rfl) T.g_stand_behind T.F_stand_behind.kp T.b_stand_behind .nil pass0 (pa_cons (xv 11) (pa_cons (xv 12) (pa_cons (xv 1) (pa_cons (xv 2) (pa_cons (xv 4) pa_nil)))))))
      (pss_one (xs_if (pt_cmp (pc_ddnotin K w hr.u9 (xv 13) (xv 8)))
      (pss_cons (ps_ddput K w hr.u9 (xv 8) (xv 13) (pe_op op_addY (pe_ddget K w hr.u9 (xv 8) (xv 11) (fun _ _ => rfl)) (pe_lst (pa_cons (xv 12) pa_nil))) rfl)
      (pss_cons (ps_expr (pe_bmK K PySem.F.plainAttrs_list PySem.F.slot_list_append PySem.F.type_list_append mt_append (xv 10) (pa_cons (xv 13) pa_nil)))
      (pss_one (xs_if (PW.pt (xw_and (xt_cmp (op_neLK K hr.u190) (pe_ix (ix_k K) (xv 13) pe_int (fun _ _ => rfl)) pe_int (nomark _)) (pw_and1 (xt_cmp (op_neLK K hr.u190) (pe_ix (ix_k K) (xv 13) pe_int (fun _ _ => rfl)) (pe_ix (ix_k K) (xv 13) pe_int (fun _ _ => rfl)) (nomark _)))))
      (pss_one (ps_ret (pe_ddget K w hr.u9 (xv 8) (xv 13) (fun _ _ => rfl))))
      pss_nil))))
      pss_nil))))))
      (pss_one (ps_set (i := 9) sc_late_row.nd rfl (.inl rfl) (pe_callTy (call_listK K) (by rfl) T.m_list (by decide +kernel) (pa_cons (xv 10) pa_nil)))))))
      (pss_one (ps_ret pe_non))))))))), ?_⟩
    refine ⟨G, M, kd, rfl, S, fun fv G1 H1 s1 hf S1 => ?_⟩
    have hw1 := hw.same s1
    obtain ⟨hq0, h3⟩ := q0_get hw.1
    obtain ⟨us, r, ns, hs, _, hr', hn, ha⟩ := st_at hw1.2.1 (e := 0) hw.1.st.1 h3
    refine ⟨_, _, .inl (SqL.of (S1.st hw1.2.2)), atI_nat (j := 0) hq0, ?_⟩
    refine ⟨_, _, .inr (SqT.of (S1.st hs)), atI_nat (j := 0) hr', _, _, .inr (SqT.of (S1.st hn)), atI_nat ha, ?_⟩
    refine ⟨sz, fun t1 nt1 => ?_⟩
    obtain ⟨G2, s2, S2, k2⟩ := Sep.mk (o := .tup [.int 0, .int 0, .int (q0 W : Nat), .int (W.an 0 (q0 W))]) S1 nt1
    refine ⟨sz, fun t2 nt2 => ?_⟩
    obtain ⟨G3, s3, S3, k3⟩ := Sep.mk (o := .tup [.ref t1]) S2 nt2
    refine ⟨sz, fun t3 nt3 => ?_⟩
    obtain ⟨G4, s4, S4, k4⟩ := Sep.mk (o := .tup [.int 0, .ref t2, .int (q0 W : Nat), .int (W.an 0 (q0 W)), .int 0]) S3 nt3
    have hst : PtP K G4 (.ref t3) (startP W) := ⟨t3, t2, _, rfl, k4, SqT.of (s4 _ _ k3), .cons ⟨t1, rfl, s4 _ _ (s3 _ _ k2)⟩ .nil⟩
    have s04 := s1.trans (s2.trans (s3.trans s4))
    refine fun D o0 nD hD0 => ⟨sz, fun l0 nl0 => ?_⟩
    have S5 := S4.new (o := o0) nD
    obtain ⟨G5, s5, S6, k5⟩ := Sep.mk (o := .lst []) S5 nl0
    refine ⟨G5, t3, keyOf zP (startP W), rfl, S6.hd, S6.1, key_ptP (hst.same s5), fun o1 hD1 => ?_⟩
    have S7 := S6.set (o' := o1)
    refine ⟨sz, fun L1 nL1 => ?_⟩
    obtain ⟨G6, s6, S8, k6⟩ := Sep.mk (o := .lst [.ref t3]) S7 nL1
    have s06 := s04.trans (s5.trans s6)
    have hw6 := hw.same s06
    have hf6 := hf.same (s2.trans (s3.trans (s4.trans (s5.trans s6))))
    have tab0 : TabP K w G6 D o1 [(startP W, [])] := ⟨_, hD1.same s6, .cons ⟨rfl, l0, [], rfl, s6 _ _ k5, .nil⟩ .nil⟩
    refine ⟨fun m σ H' => ∃ (Lv : Addr) (ws : List V) (y10 y11 y12 y13 : Option V) (G' : Hp) (o : HO) (kn lv : List (Pt × List Stp)), σ = [some (.str kd.wd), some (.ref sa), some (.int (W.rm : Nat)), some (.ref qa), some fv, some (.int (q0 W : Nat)), some (.int (W.an 0 (q0 W))), some (.ref t3), some (.ref D), some (.ref Lv), y10, y11, y12, y13] ∧
      Same G6 G' ∧ G' Lv = some (.lst ws) ∧ LP K G' ws lv ∧ TabP K w G' D o kn ∧ Sep G' ((D, o) :: M) H' ∧ ((lv = [] ∧ R = .none) ∨ (lv ≠ [] ∧ Gc W 0 ⟨kn, lv⟩ ∧ bfsN W m kn lv = R)),
      ⟨N, L1, _, _, _, _, _, G6, o1, _, [(startP W, [])], rfl, Same.refl _, k6, .cons (hst.same (s5.trans s6)) .nil, tab0, S8, .inr ⟨by simp, start_gc wa, hR⟩⟩, fun m σ H' h => ?_⟩
    obtain ⟨Lv, ws, y10, y11, y12, y13, G7, o7, kn, lv, rfl, s7, hLv, pw, tab, S9, hc⟩ := h
    refine ⟨_, .inl ⟨_, SqL.of (S9.st hLv), rfl⟩, fun ne => ?_, fun e0 => ?_⟩
    · have wn : lv ≠ [] := fun z => by
        rw [(prd_nil pw).mpr z] at ne
        cases ne
      obtain ⟨_, gd, hb⟩ : lv ≠ [] ∧ Gc W 0 ⟨kn, lv⟩ ∧ bfsN W m kn lv = R := hc.resolve_left fun z => wn z.1
      obtain ⟨n, rfl⟩ : ∃ n, m = n + 1 := by
        cases m with
        | zero => exact absurd hb.symm nm
        | succ n => exact ⟨n, rfl⟩
      refine ⟨sz, fun F nF => ?_⟩
      have S10 := S9.new (o := .lst []) nF
      refine ⟨Lv, rfl, ⟨_, SqL.of (S10.st hLv)⟩, for_list (xs := ws) (fun i σ H' => ∃ (y11 y12 y13 : Option V) (G' : Hp) (o : HO) (us : List V) (b : Bs), σ = [some (.str kd.wd), some (.ref sa), some (.int (W.rm : Nat)), some (.ref qa), some fv, some (.int (q0 W : Nat)), some (.int (W.an 0 (q0 W))), some (.ref t3), some (.ref D), some (.ref Lv), some (.ref F), y11, y12, y13] ∧
        Same G7 G' ∧ levS W (lv.take i) ⟨kn, []⟩ = .ok b ∧ LP K G' us b.fu ∧ TabP K w G' D o b.kn ∧ Sep G' ((F, .lst us) :: (D, o) :: M) H')
        ⟨_, _, _, G7, o7, [], ⟨kn, []⟩, rfl, Same.refl _, rfl, .nil, tab, S10⟩ (fun i σ H' _ h => ?_) (fun i y σ H' hy h => ?_) (fun σ H' h => ?_)⟩
      · obtain ⟨_, _, _, G', _, _, _, _, s', _, _, _, S'⟩ := h
        exact SqL.of (S'.st (s' _ _ hLv))
      · obtain ⟨y11, y12, y13, G8, o8, us8, b8, rfl, s8, lev8, pu8, tab8, S11⟩ := h
        obtain ⟨x, hx, hp⟩ := prd_get pw hy
        obtain ⟨okx, rowx, xkn⟩ := lev_rowC gd hx
        have g8 := in_levC wa gd lev8
        have s78 := s7.trans s8
        refine ⟨G8, _, W, sa, qa, _, x.1, rfl, S11, hw6.same s78, hp.same s8, okx.ok, fun ls ss G9 H9 s9 hls pss S12 => ?_⟩
        refine ⟨ls, rfl, ⟨_, SqL.of (S12.st hls)⟩, for_list (xs := ss) (fun j σ H' => ∃ (y12 y13 : Option V) (G' : Hp) (o : HO) (us : List V) (b : Bs), σ = [some (.str kd.wd), some (.ref sa), some (.int (W.rm : Nat)), some (.ref qa), some fv, some (.int (q0 W : Nat)), some (.int (W.an 0 (q0 W))), some (.ref t3), some (.ref D), some (.ref Lv), some (.ref F), some y, y12, y13] ∧
          Same G9 G' ∧ stepsS W x.1 x.2 ((stepsP W x.1).take j) b8 = .ok b ∧ LP K G' us b.fu ∧ TabP K w G' D o b.kn ∧ Sep G' ((F, .lst us) :: (D, o) :: M) H')
          ⟨_, _, G9, o8, us8, b8, rfl, Same.refl _, rfl, lp_same s9 pu8, tab8.same s9, S12⟩ (fun j σ H' _ h => ?_) (fun j z σ H' hz h => ?_) (fun σ H' h => ?_)⟩
        · obtain ⟨_, _, G', _, _, _, _, s', _, _, _, S'⟩ := h
          exact SqL.of (S'.st (s' _ _ hls))
        · obtain ⟨y12, y13, G10, o10, us10, b10, rfl, s10, st10, pu10, tab10, S13⟩ := h
          obtain ⟨st, hst', hz'⟩ := prd_get pss hz
          have g10 := (in_stepsC wa ⟨okx, rowx⟩ g8 st10).1
          have s810 := s9.trans s10
          have s710 := s78.trans s810
          refine ⟨G10, _, W, kd, sa, qa, _, _, fv, x.1, st, rfl, ek, S13, hw6.same s710, hf6.same s710, hp.same (s8.trans s810), okx.ok, hz'.same s10, steps_ok (List.mem_of_getElem? hst'), fun v' G11 H11 s11 hv' S14 => ?_⟩
          obtain ⟨kvs, hdd, hkv⟩ := tab10.same s11
          have kin : (valV kvs (keyOf zP (aftP W x.1 st))).isSome = knows b10.kn (aftP W x.1 st) := kn_val zP_inj (aftP W x.1 st) hkv
          have s911 := s10.trans s11
          obtain ⟨va, vl, vws, rfl, hva, hvl, hvw⟩ := id hv'
          have hfk : KeyV K G11 va (keyOf zP (aftP W x.1 st)) := key_ptP hv'
          refine ⟨D, va, o10, kvs, _, rfl, rfl, S14.sw.hd, hdd.same S14.1, hfk.same S14.1, ?_⟩
          refine ⟨_, rfl, fun e1 => ?_, fun e1 => ?_⟩
          · have nk : knows b10.kn (aftP W x.1 st) = false := by
              rw [← kin]
              have e1 : (!(valV kvs (keyOf zP (aftP W x.1 st))).isSome) = true := e1
              simpa using e1
            have vn : valV kvs (keyOf zP (aftP W x.1 st)) = none := by
              rw [nk] at kin
              cases z : valV kvs (keyOf zP (aftP W x.1 st)) with
              | none => rfl
              | some _ => rw [z] at kin; cases kin
            have kl : kvs.length < sizeLine := by
              rw [prd_len hkv, sizeLine_eq]
              have := g10.2.1
              omega
            -- the row of the stand
            have hp11 := hp.same (s8.trans (s810.trans s11))
            obtain ⟨pa, pl, pws, epa, hpa, hpl, hpw⟩ := id hp11
            subst epa
            have hpk : KeyV K G11 pa (keyOf zP x.1) := key_ptP hp11
            have xm : x ∈ b10.kn := in_kn lev8 st10 xkn
            obtain ⟨rv, hrv, hrow⟩ := kn_get zP_inj (p := x.1) (r := x.2) hkv g10.2.2.2.2.2 xm
            obtain ⟨ra, rws, rfl, hra, prw⟩ := id hrow
            have rl : rws.length + 1 ≤ sizeLine := by
              rw [prd_len prw, sizeLine_eq]
              have := g10.1
              have := g10.2.1
              omega
            refine ⟨D, pa, o10, kvs, _, _, rfl, rfl, S14.sw.hd, hdd.same S14.1, hpk.same S14.1, hrv, sz, fun t nt => ?_⟩
            have S15 := S14.new (o := .lst [z]) nt
            refine ⟨ra, t, rws, [z], rfl, rfl, S15.st hra, S15.hd, rl, fun p np => ?_⟩
            obtain ⟨G16, s16, S16, k16⟩ := Sep.mk (o := .lst (rws ++ [z])) S15 np
            have S17 := S16.drop
            have nrow : RowAt G16 (.ref p) (x.2 ++ [st]) := ⟨p, _, rfl, k16, prd_app (stps_same s16 prw) (.cons (hz'.same (s911.trans s16)) .nil)⟩
            refine ⟨G16, D, va, o10, kvs, _, rfl, rfl, S17.sw.hd, S17.1, hdd.same s16, hfk.same s16, kl, fun o18 hd18 => ?_⟩
            rw [put_new vn] at hd18
            have S18 := (S17.sw.set (o' := o18)).sw
            have hk18 : Paired (RwK zP (RowAt G16)) (kvs ++ [(keyOf zP (aftP W x.1 st), .ref p)]) (b10.kn ++ [(aftP W x.1 st, x.2 ++ [st])]) := prd_app (prd_imp (fun _ _ z => ⟨z.1, z.2.same s16⟩) hkv) (.cons ⟨rfl, nrow⟩ .nil)
            have ul : us10.length < sizeLine := by
              rw [prd_len pu10, sizeLine_eq]
              have := g10.2.1
              have := g10.2.2.1
              omega
            refine ⟨.inl ⟨rfl, _, SqL.of S18.hd⟩, F, us10, _, rfl, rfl, S18.hd, ul, ?_⟩
            have S19 := S18.set (o' := .lst (us10 ++ [V.ref va]))
            have hv16 := hv'.same s16
            have hT := SqT.of (K := K) (S19.st (s16 _ _ hva))
            have stay : lateP (aftP W x.1 st) = false → ∃ (y12 y13 : Option V) (G' : Hp) (o : HO) (us : List V) (b : Bs), ([some (.str kd.wd), some (.ref sa), some (.int (W.rm : Nat)), some (.ref qa), some fv, some (.int (q0 W : Nat)), some (.int (W.an 0 (q0 W))), some (.ref t3), some (.ref D), some (.ref Lv), some (.ref F), some (.ref pa), some z, some (.ref va)] : List (Option V)) = [some (.str kd.wd), some (.ref sa), some (.int (W.rm : Nat)), some (.ref qa), some fv, some (.int (q0 W : Nat)), some (.int (W.an 0 (q0 W))), some (.ref t3), some (.ref D), some (.ref Lv), some (.ref F), some (.ref pa), y12, y13] ∧
                Same G9 G' ∧ stepsS W x.1 x.2 ((stepsP W x.1).take (j + 1)) b8 = .ok b ∧ LP K G' us b.fu ∧ TabP K w G' D o b.kn ∧ Sep G' ((F, .lst us) :: (D, o) :: M) (upd (upd (upd (upd H11 t (.lst [z])) p (.lst (rws ++ [z]))) D o18) F (.lst (us10 ++ [V.ref va]))) := fun e2 =>
              ⟨_, _, G16, o18, us10 ++ [.ref va], ⟨b10.kn ++ [(aftP W x.1 st, x.2 ++ [st])], b10.fu ++ [(aftP W x.1 st, x.2 ++ [st])]⟩, rfl, s911.trans s16, by rw [steps_snoc st10 hst']; exact one_new nk e2,
                prd_app (lp_same (s11.trans s16) pu10) (.cons hv16 .nil), ⟨_, hd18, hk18⟩, S19⟩
            refine ⟨_, _, .inr hT, atI_nat (j := 4) rfl, fun e2 => ?_, fun e2 => ⟨ff, fun _ => ?_⟩⟩
            · refine ⟨_, _, .inr hT, atI_nat (j := 4) rfl, _, _, .inr hT, atI_nat (j := 3) rfl, fun e3 => ?_, fun e3 => ?_⟩
              · have e4 : lateP (aftP W x.1 st) = true := by
                  show (!decide ((aftP W x.1 st).sh = 0) && !decide ((aftP W x.1 st).sh = (aftP W x.1 st).du)) = true
                  rw [show (!decide ((aftP W x.1 st).sh = 0)) = true from e2, show (!decide ((aftP W x.1 st).sh = (aftP W x.1 st).du)) = true from e3]
                  rfl
                have fin := bfsN_late (n := n) lev8 hx st10 hst' (one_late nk e4)
                rw [fin] at hb
                have vg : valV (kvs ++ [(keyOf zP (aftP W x.1 st), V.ref p)]) (keyOf zP (aftP W x.1 st)) = some (.ref p) := by rw [valV_snoc _ _ _ _ vn, if_pos rfl]
                refine ⟨D, va, o18, _, _, _, rfl, rfl, S19.sw.hd, hd18.same S19.1, (hfk.same s16).same S19.1, vg, ?_⟩
                refine q (.ref p) G16 _ (s06.trans (s7.trans (s8.trans (s810.trans (s11.trans s16))))) ?_ S19.drop.drop
                rw [← hb]
                exact nrow
              · refine stay ?_
                show (!decide ((aftP W x.1 st).sh = 0) && !decide ((aftP W x.1 st).sh = (aftP W x.1 st).du)) = false
                rw [show (!decide ((aftP W x.1 st).sh = (aftP W x.1 st).du)) = false from e3, Bool.and_false]
            · refine stay ?_
              show (!decide ((aftP W x.1 st).sh = 0) && !decide ((aftP W x.1 st).sh = (aftP W x.1 st).du)) = false
              rw [show (!decide ((aftP W x.1 st).sh = 0)) = false from e2, Bool.false_and]
          · have nk : knows b10.kn (aftP W x.1 st) = true := by
              rw [← kin]
              have e1 : (!(valV kvs (keyOf zP (aftP W x.1 st))).isSome) = false := e1
              simpa using e1
            refine ⟨_, _, G11, o10, us10, b10, rfl, s911, ?_, lp_same s11 pu10, ⟨kvs, hdd, hkv⟩, S14⟩
            rw [steps_snoc st10 hst']
            exact one_known nk
        · obtain ⟨y12, y13, G10, o10, us10, b10, rfl, s10, st10, pu10, tab10, S13⟩ := h
          refine ⟨_, _, _, G10, o10, us10, b10, rfl, s8.trans (s9.trans s10), ?_, pu10, tab10, S13⟩
          rw [lev_snoc lev8 hx, ← st10, prd_len pss, List.take_length]
      · obtain ⟨y11, y12, y13, G8, o8, us8, b8, rfl, s8, lev8, pu8, tab8, S11⟩ := h
        rw [prd_len pw, List.take_length] at lev8
        refine ⟨F, us8, rfl, .inl (SqL.of S11.hd), fun L9 nL9 => ?_⟩
        obtain ⟨G9, s9, S12, k9⟩ := Sep.mk (o := .lst us8) S11 nL9
        rw [bfsN_ok lev8] at hb
        refine ⟨n, Nat.lt_succ_self n, L9, us8, _, _, _, _, G9, o8, b8.kn, b8.fu, rfl, s7.trans (s8.trans s9), k9, lp_same s9 pu8, tab8.same s9, S12.drop, ?_⟩
        by_cases ef : b8.fu = []
        · rw [if_pos ef] at hb
          exact .inl ⟨ef, hb.symm⟩
        · rw [if_neg ef] at hb
          exact .inr ⟨ef, next_gc wa gd lev8, hb⟩
    · have wz : lv = [] := by
        cases pw with
        | nil => rfl
        | cons _ _ => cases e0
      obtain ⟨_, e1⟩ : lv = [] ∧ R = .none := hc.resolve_right fun z => z.1 wz
      subst e1
      exact q .non G7 _ (s06.trans s7) rfl S9.drop

end
end K48
set_option Elab.async false
set_option linter.all false
set_option maxRecDepth 100000
set_option maxHeartbeats 4000000
namespace K48
open PySem PySem.Spec PyProof.Rows L2 XL
section
variable {P : Program} {w : World} {K : PySem.W.Frag} {mg : Str → Option Value} {base : Heap}
/-! ### the law's worlds -/
def vInt : V → Int
  | .int i => i
  | _ => 0
theorem perm_ints {ys : List V} {xs : List Int} (h : ys.Perm (xs.map V.int)) : ∃ ms : List Int, ys = ms.map V.int ∧ ms.Perm xs := by
  refine ⟨ys.map vInt, ?_, ?_⟩
  · rw [List.map_map]
    have e : ∀ y ∈ ys, (V.int ∘ vInt) y = y := fun y hy => by
      obtain ⟨n, _, rfl⟩ := List.mem_map.mp (h.mem_iff.mp hy)
      rfl
    exact ((List.map_congr_left e).trans (List.map_id _)).symm
  · have z := h.map vInt
    rw [List.map_map] at z
    have e : xs.map (vInt ∘ V.int) = xs := List.map_id _
    rw [e] at z
    exact z
/-- an edition: what is answered to each question -/
def Rng (z : List Int) : Prop := ∀ x ∈ z, (1 : Int) ≤ x ∧ x ≤ 3
def EdAt (G : Hp) (v : V) (z : List Int) : Prop := ∃ r, v = .ref r ∧ G r = some (.tup (z.map V.int)) ∧ z.length = 4 ∧ Rng z
theorem rng_snoc {z : List Int} {x : Int} (h : Rng z) (k : 1 ≤ x ∧ x ≤ 3) : Rng (z ++ [x]) := fun y hy => by
  rcases List.mem_append.mp hy with c | c
  · exact h y c
  · rw [List.mem_singleton.mp c]
    exact k
theorem EdAt.same {G G' : Hp} {v : V} {z : List Int} (e : Same G G') (h : EdAt G v z) : EdAt G' v z := let ⟨r, h1, h2, h3, h4⟩ := h; ⟨r, h1, e _ _ h2, h3, h4⟩
theorem eds_same {G G' : Hp} {vs : List V} {zs : List (List Int)} (e : Same G G') (h : Paired (EdAt G) vs zs) : Paired (EdAt G') vs zs := prd_imp (fun _ _ => EdAt.same e) h
theorem dp_ints {K : PySem.W.Frag} {G : Hp} : ∀ ns : List Int, DpAll K G (ns.map V.int) (ns.map PyData.int)
  | [] => .nil
  | n :: ns => .cons (.int n) (dp_ints ns)
def datE (z : List Int) : PyData := .tuple (z.map PyData.int)
theorem lay_ints : ∀ ns : List Int, PyData.canLayAll0 (ns.map PyData.int) = true ∧ PyData.depthAll (ns.map PyData.int) ≤ 2 := fun ns => ⟨layAll fun d hd => by
  obtain ⟨n, _, rfl⟩ := List.mem_map.mp hd
  rfl, depthAll_le fun d hd => by
  obtain ⟨n, _, rfl⟩ := List.mem_map.mp hd
  simp only [PyData.depth]
  omega⟩
theorem dp_ed {K : PySem.W.Frag} {G : Hp} {v : V} {z : List Int} (h : EdAt G v z) : Dp K G v (datE z) := by
  obtain ⟨r, rfl, h1, _, _⟩ := h
  exact .tup (SqT.of h1) (dp_ints z)
theorem eds_lay (zs : List (List Int)) : (PyData.list (zs.map datE)).canLay0 = true ∧ (PyData.list (zs.map datE)).depth ≤ 190 := by
  refine ⟨?_, ?_⟩
  · simp only [PyData.canLay0]
    exact layAll fun d hd => by
      obtain ⟨z, _, rfl⟩ := List.mem_map.mp hd
      simp only [datE, PyData.canLay0]
      exact (lay_ints z).1
  · have := depthAll_le (n := 4) (xs := zs.map datE) fun d hd => by
      obtain ⟨z, _, rfl⟩ := List.mem_map.mp hd
      simp only [datE, PyData.depth]
      have := (lay_ints z).2
      omega
    simp only [PyData.depth]
    omega
theorem ixN_at4 {n j : Nat} (hj : j < n) : ixN n (j : Int) = some j := by
  unfold ixN
  rw [if_pos (by omega), if_pos (by omega), Int.toNat_natCast]
def spEdition : Sp := fun vs H Q _ => ∃ (G : Hp) (M : List (Addr × HO)) (b l : Addr) (o : HO) (us : List V) (zs : List (List Int)), vs = [.ref b, .ref l] ∧ Sep G ((b, o) :: (l, .lst us) :: M) H ∧ Bag G o ∧ Paired (EdAt G) us zs ∧
  ∀ v z (o' : HO) (G' H' : Hp), Same G G' → EdAt G' v z → Bag G' o' → Sep G' ((b, o') :: (l, .lst us) :: M) H' → Q v H'
theorem ok_edition (T : Top K mg w) {k : Nat} (G_pick : FnOk P w K mg base CX0 k T.a_pick T.d_pick ["_law_bag_here", "_law_many"] spPick) (G_mingled : FnOk P w K mg base CX0 k T.a_mingled T.d_mingled ["_law_bag_here", "_law_things"] (spMingled K)) :
    FnOk P w K mg base CX0 (k + 1) T.a_edition T.d_edition ["_law_bag_here", "_law_before"] spEdition := by
  refine T.F_edition.ok sc_edition (fun vs H Q E h => ?_) (fun cdv A outer s H vs Q E hr h => ?_)
  · obtain ⟨G, M, b, l, o, us, zs, rfl, _⟩ := h
    rfl
  · obtain ⟨G, M, b, l, o, us, zs, rfl, S, B, pu, q⟩ := h
    refine ⟨_, (pss_cons (ps_set (i := 2) sc_edition.nd rfl (.inl rfl) (pe_call G_pick (hr.mono (by omega)) (by rfl) T.g_pick T.F_pick.kp T.b_pick .nil pass0 (pa_cons (xv 0) (pa_cons pe_int pa_nil))))
      (xss_cut (xs_if (PW.pt (xw_or (xt_cmp (op_eqLK K hr.u190) (xv 1) (pe_lst pa_nil) (nomark _)) (pw_or1 (xt_cmp (op_eqLK K hr.u190) (xv 2) pe_int (nomark _)))))
      (pss_cons (xs_if (xt_cmp (op_eqLK K hr.u190) (pe_call G_pick (hr.mono (by omega)) (by rfl) T.g_pick T.F_pick.kp T.b_pick .nil pass0 (pa_cons (xv 0) (pa_cons pe_int pa_nil))) pe_int (nomark _))
      (pss_one (ps_ret (pe_callTy (call_tupleK K) (by rfl) T.m_tuple (by decide +kernel) (pa_cons (pe_lc (own := [("_law_question", 5)]) (by rfl) sc_edition.nd (pi_range1 (by rfl) T.m_range (pa_cons pe_int pa_nil)) (blkOk_by (N := ["_law_bag_here", "_law_before", "_law_way", "_law_row", "_law_at", "_law_question"]) (sc := defScope s_edition) (by decide +kernel)) (fun _ _ _ _ _ => (pg_name (i := 5) sc_edition.nd rfl (.inl rfl))) (fun _ _ _ _ _ => pts_nil) (fun _ _ _ _ _ => (pe_op op_addY pe_int (pe_call G_pick (hr.mono (by omega)) (by rfl) T.g_pick T.F_pick.kp T.b_pick .nil pass0 (pa_cons (xv 0) (pa_cons pe_int pa_nil)))))) pa_nil))))
      pss_nil)
      (pss_one (ps_ret (pe_callTy (call_tupleK K) (by rfl) T.m_tuple (by decide +kernel) (pa_cons (pe_call G_mingled (hr.mono (by omega)) (by rfl) T.g_mingled T.F_mingled.kp T.b_mingled .nil pass0 (pa_cons (xv 0) (pa_cons (pe_lst (pa_cons pe_int (pa_cons pe_int (pa_cons pe_int (pa_cons (pe_op op_addY pe_int (pe_call G_pick (hr.mono (by omega)) (by rfl) T.g_pick T.F_pick.kp T.b_pick .nil pass0 (pa_cons (xv 0) (pa_cons pe_int pa_nil)))) pa_nil))))) pa_nil))) pa_nil)))))
      pss_nil)
      (pss_cons (xs_if (xt_cmp (op_eqLK K hr.u190) (xv 2) pe_int (nomark _))
      (pss_one (ps_ret (pe_ix (ix_k K) (xv 1) (pe_op op_subY (pe_callB (cr_lenK K) (by rfl) T.m_len (by decide +kernel) (pa_cons (xv 1) pa_nil)) pe_int) (fun _ _ => rfl))))
      pss_nil)
      (pss_cons (xs_if (xt_cmp (op_eqLK K hr.u190) (xv 2) pe_int (nomark _))
      (pss_one (ps_ret (pe_callTy (call_tupleK K) (by rfl) T.m_tuple (by decide +kernel) (pa_cons (pe_lc (own := [("_law_question", 5)]) (by rfl) sc_edition.nd (pi_range1 (by rfl) T.m_range (pa_cons pe_int pa_nil)) (blkOk_by (N := ["_law_bag_here", "_law_before", "_law_way", "_law_row", "_law_at", "_law_question"]) (sc := defScope s_edition) (by decide +kernel)) (fun _ _ _ _ _ => (pg_name (i := 5) sc_edition.nd rfl (.inl rfl))) (fun _ _ _ _ _ => pts_nil) (fun _ _ _ _ _ => (pe_ix (ix_k K) (pe_ix (ix_k K) (xv 1) pe_int (fun _ _ => rfl)) pe_int (fun _ _ => rfl)))) pa_nil))))
      pss_nil)
      (pss_cons (ps_set (i := 3) sc_edition.nd rfl (.inl rfl) (pe_callTy (call_listK K) (by rfl) T.m_list (by decide +kernel) (pa_cons (pe_ix (ix_k K) (xv 1) (pe_op op_subY (pe_callB (cr_lenK K) (by rfl) T.m_len (by decide +kernel) (pa_cons (xv 1) pa_nil)) pe_int) (fun _ _ => rfl)) pa_nil)))
      (pss_cons (ps_set (i := 4) sc_edition.nd rfl (.inl rfl) (pe_call G_pick (hr.mono (by omega)) (by rfl) T.g_pick T.F_pick.kp T.b_pick .nil pass0 (pa_cons (xv 0) (pa_cons pe_int pa_nil))))
      (pss_cons (ps_asg (pe_op op_addY (pe_op op_modY (pe_callTy cr_int (by rfl) T.m_int (by decide +kernel) (pa_cons (pe_op op_addY (pe_ix (ix_k K) (xv 3) (xv 4) (fun _ _ => rfl)) (pe_call G_pick (hr.mono (by omega)) (by rfl) T.g_pick T.F_pick.kp T.b_pick .nil pass0 (pa_cons (xv 0) (pa_cons pe_int pa_nil)))) pa_nil)) pe_int) pe_int) (pg_sub (xv 3) (xv 4) set_list))
      (pss_one (ps_ret (pe_callTy (call_tupleK K) (by rfl) T.m_tuple (by decide +kernel) (pa_cons (xv 3) pa_nil))))))))))), ?_⟩
    refine ⟨G, _, b, o, 6, rfl, S, B, by decide, by decide, fun r1 o1 H1 r10 r11 B1 S1 => ?_⟩
    refine ⟨fun σ H' => ∃ (o' : HO) (G' : Hp), σ = [some (.ref b), some (.ref l), some (.int r1), none, none, none] ∧ Same G G' ∧ us ≠ [] ∧ Bag G' o' ∧ Sep G' ((b, o') :: (l, .lst us) :: M) H', ?_, fun σ H4 h => ?_⟩
    · refine ⟨sz, fun N nN => ?_⟩
      obtain ⟨G2, s2, S2, k2⟩ := Sep.mk (o := .lst []) S1 nN
      have ll := eds_lay zs
      refine ⟨.list (zs.map datE), .list [], .lst (SqL.of S2.sw.hd) (dpa_same (s2.trans S2.1) (dpa_map (F := EdAt G) (g := datE) (fun v z h => dp_ed h) pu)), .lst (SqL.of (S2.st k2)) .nil, ll.1, rfl, ll.2, ?_⟩
      have ee : PyData.eqv (.list (zs.map datE)) (.list []) = decide (us.length = 0) := by
        rw [prd_len pu]
        cases zs <;> simp [PyData.eqv, PyData.eqvAll]
      rw [ee]
      have B2 := B1.same s2
      refine ⟨fun _ => ⟨fun _ => ?f1, tt⟩, fun e1 => ⟨fun _ => ?f2, fun _ => ?f3⟩⟩
      case f3 =>
        have ne : us ≠ [] := fun z => (of_decide_eq_false e1) (by rw [z]; rfl)
        exact ⟨o1, G2, rfl, s2, ne, B2, S2⟩
      case f1 | f2 =>
        refine ⟨G2, _, b, o1, 3, rfl, S2, B2, by decide, by decide, fun r3 o3 H3 _ _ B3 S3 => ⟨fun _ => ?_, fun _ => ?_⟩⟩
        · refine ⟨4, rfl, by decide, by decide, fun D nD => lc_range (lo := 0) (n := (4 : Int).toNat) (fun i H' => ∃ (o' : HO) (ns : List Int), ns.length = i ∧ Rng ns ∧ Bag G2 o' ∧ Sep G2 ((D, .lst (ns.map V.int)) :: (b, o') :: (l, .lst us) :: M) H')
            ⟨o3, [], rfl, (fun _ h => nomatch h), B3, S3.new nD⟩ (fun i H' hi p => ⟨rfl, ?_⟩) (fun H' p => ?_)⟩
          · obtain ⟨o', ns, nl, nr, B', S'⟩ := p
            have hi : i < 4 := hi
            refine ⟨G2, _, b, o', 3, rfl, S'.sw, B', by decide, by decide, fun r4 o4 H4 r40 r41 B4 S4 => ?_⟩
            refine ⟨_, S4.sw.hd, smallL (by rw [List.length_map]; omega), o4, ns ++ [1 + r4], by simp [nl], rng_snoc nr (by omega), B4, ?_⟩
            rw [List.map_append]
            exact S4.sw.set
          · obtain ⟨o', ns, nl, nr, B', S'⟩ := p
            refine ⟨D, _, rfl, .inl ⟨SqL.of S'.hd, fun p np => ?_⟩⟩
            obtain ⟨G5, s5, S5, k5⟩ := Sep.mk (o := .tup (ns.map V.int)) S'.drop np
            exact q (.ref p) ns o' G5 _ (s2.trans s5) ⟨p, rfl, k5, nl, nr⟩ (B'.same s5) S5
        · refine ⟨G2, _, b, o3, 3, rfl, S3, B3, by decide, by decide, fun r4 o4 H4 r40 r41 B4 S4 => ⟨sz, fun L nL => ?_⟩⟩
          obtain ⟨G5, s5, S5, k5⟩ := Sep.mk (o := .lst ([1, 2, 3, 1 + r4].map V.int)) S4 nL
          refine ⟨G5, _, b, o4, L, _, rfl, S5, B4.same s5, SqL.of k5, by simp, fun p ys o6 G6 H6 s6 hp pm B6 S6 => ?_⟩
          obtain ⟨ms, rfl, pm2⟩ := perm_ints pm
          refine ⟨p, _, rfl, .inl ⟨SqL.of (S6.st hp), fun t nt => ?_⟩⟩
          obtain ⟨G7, s7, S7, k7⟩ := Sep.mk (o := .tup (ms.map V.int)) S6 nt
          exact q (.ref t) ms o6 G7 _ (s2.trans (s5.trans (s6.trans s7))) ⟨t, rfl, k7, by rw [pm2.length_eq]; rfl, fun x hx => by
            have := pm2.mem_iff.mp hx
            simp at this
            omega⟩ (B6.same s7) S7
    · obtain ⟨o4, G4, rfl, s4, ne, B4, S4⟩ := h
      have pu4 := eds_same s4 pu
      have pos : 0 < us.length := List.length_pos_iff.mpr ne
      obtain ⟨ul, hul⟩ : ∃ u, us[us.length - 1]? = some u := ⟨_, List.getElem?_eq_getElem (by omega)⟩
      obtain ⟨u0, hu0⟩ : ∃ u, us[0]? = some u := ⟨_, List.getElem?_eq_getElem pos⟩
      obtain ⟨zl, _, hel⟩ := prd_get pu4 hul
      obtain ⟨z0, _, he0⟩ := prd_get pu4 hu0
      have ecast : ((us.length : Nat) : Int) - 1 = ((us.length - 1 : Nat) : Int) := by omega
      have hat := atI_nat hul
      rw [← ecast] at hat
      have hl := SqL.of (K := K) S4.sw.hd
      refine ⟨fun _ => ?_, fun _ => ⟨fun _ => ?_, fun _ => ?_⟩⟩
      · exact ⟨_, .inl hl, _, _, .inl hl, hat, q ul zl o4 G4 _ s4 hel B4 S4⟩
      · obtain ⟨r, rfl, hr, hz, hg⟩ := he0
        have hz0 : (1 : Int) ≤ z0.getD 0 0 ∧ z0.getD 0 0 ≤ 3 := by
          rw [List.getD_eq_getElem?_getD, List.getElem?_eq_getElem (show 0 < z0.length by omega)]
          exact hg _ (List.getElem_mem _)
        have hx : (z0.map V.int)[0]? = some (.int (z0.getD 0 0)) := by
          rw [List.getElem?_map, List.getElem?_eq_getElem (by omega)]
          simp [List.getD_eq_getElem?_getD, List.getElem?_eq_getElem (show 0 < z0.length by omega)]
        refine ⟨4, rfl, by decide, by decide, fun D nD => lc_range (lo := 0) (n := (4 : Int).toNat) (fun i H' => Sep G4 ((D, .lst ((List.replicate i (z0.getD 0 0)).map V.int)) :: (b, o4) :: (l, .lst us) :: M) H')
          (S4.new nD) (fun i H' hi S' => ⟨rfl, ?_⟩) (fun H' S' => ?_)⟩
        · have hi : i < 4 := hi
          refine ⟨_, _, .inl (SqL.of (S'.at (by simp))), atI_nat (j := 0) hu0, _, _, .inr (SqT.of (S'.st hr)), atI_nat (j := 0) hx, ?_⟩
          refine ⟨_, S'.hd, smallL (by simp; omega), ?_⟩
          rw [List.replicate_succ', List.map_append]
          exact S'.set
        · refine ⟨D, _, rfl, .inl ⟨SqL.of S'.hd, fun p np => ?_⟩⟩
          obtain ⟨G5, s5, S5, k5⟩ := Sep.mk (o := .tup ((List.replicate (4 : Int).toNat (z0.getD 0 0)).map V.int)) S'.drop np
          exact q (.ref p) _ o4 G5 _ (s4.trans s5) ⟨p, rfl, k5, by simp, fun x hx => by
            rw [(List.mem_replicate.mp hx).2]
            exact hz0⟩ (B4.same s5) S5
      · obtain ⟨r, rfl, hr, hz, hg⟩ := hel
        refine ⟨_, .inl hl, _, _, .inl hl, hat, r, _, rfl, .inr (SqT.of (S4.st hr)), fun L nL => ?_⟩
        have S5 := S4.new (o := .lst (zl.map V.int)) nL
        refine ⟨G4, _, b, o4, 4, rfl, S5.sw, B4, by decide, by decide, fun ra o6 H6 a0 a4 B6 S6 => ?_⟩
        obtain ⟨j, rfl⟩ := Int.eq_ofNat_of_zero_le a0
        have j4 : j < 4 := by omega
        obtain ⟨x, hx⟩ : ∃ x : Int, (zl.map V.int)[j]? = some (.int x) := ⟨zl[j]'(by omega), by rw [List.getElem?_map, List.getElem?_eq_getElem (by omega)]; rfl⟩
        refine ⟨_, _, .inl (SqL.of S6.sw.hd), atI_nat hx, G4, _, b, o6, 2, rfl, S6, B6, by decide, by decide, fun rb o7 H7 _ _ B7 S7 => ?_⟩
        refine ⟨by decide, fun rm em hm hm2 => ?_⟩
        have S8 := S7.sw
        refine ⟨L, _, _, j, rfl, rfl, S8.hd, ixN_at4 (by rw [List.length_map]; omega), ?_⟩
        have S9 := S8.set (o' := .lst (((zl.map V.int)).set j (.int (rm + 1))))
        refine ⟨L, _, rfl, .inl ⟨SqL.of S9.hd, fun p np => ?_⟩⟩
        have em : (zl.map V.int).set j (.int (rm + 1)) = (zl.set j (rm + 1)).map V.int := List.map_set.symm
        rw [em] at S9 np ⊢
        obtain ⟨G10, s10, S10, k10⟩ := Sep.mk (o := .tup ((zl.set j (rm + 1)).map V.int)) S9 np
        exact q (.ref p) _ o7 G10 _ (s4.trans s10) ⟨p, rfl, k10, by rw [List.length_set]; exact hz, fun x hx => by
          rcases List.mem_or_eq_of_mem_set hx with c | c
          · exact hg x c
          · rw [c]
            omega⟩ (B7.same s10) S10.drop

theorem nat_in {ns : List Nat} {r : Int} (h0 : 0 ≤ r) (h1 : r < (ns.length : Nat)) : ∃ n ∈ ns, atI (ns.map nV) r = some (.int (n : Nat)) := by
  obtain ⟨j, rfl⟩ := Int.eq_ofNat_of_zero_le h0
  have hj : j < ns.length := by omega
  refine ⟨ns[j], List.getElem_mem hj, atI_nat ?_⟩
  rw [List.getElem?_map, List.getElem?_eq_getElem hj]
  rfl
def spSizes : Sp := fun vs H Q _ => ∃ (G : Hp) (M : List (Addr × HO)) (b : Addr) (o : HO), vs = [.ref b] ∧ Sep G ((b, o) :: M) H ∧ Bag G o ∧
  ∀ t (mn wd ct : Nat) (o' : HO) (G' H' : Hp), Same G G' → G' t = some (.lst [.int (mn : Nat), .int (wd : Nat), .int (ct : Nat)]) → 1 ≤ mn ∧ mn ≤ 4 → 1 ≤ wd ∧ wd ≤ 3 → 1 ≤ ct ∧ ct ≤ 3 → Bag G' o' → Sep G' ((b, o') :: M) H' → Q (.ref t) H'
theorem ok_sizes (T : Top K mg w) {k : Nat} (G_pick : FnOk P w K mg base CX0 k T.a_pick T.d_pick ["_law_bag_here", "_law_many"] spPick) : FnOk P w K mg base CX0 (k + 1) T.a_sizes T.d_sizes ["_law_bag_here"] spSizes := by
  refine T.F_sizes.ok sc_sizes (fun vs H Q E h => ?_) (fun cdv A outer s H vs Q E hr h => ?_)
  · obtain ⟨G, M, b, o, rfl, _⟩ := h
    rfl
  · obtain ⟨G, M, b, o, rfl, S, B, q⟩ := h
    refine ⟨_, (pss_cons (ps_set (i := 1) sc_sizes.nd rfl (.inl rfl) (pe_call G_pick (hr.mono (by omega)) (by rfl) T.g_pick T.F_pick.kp T.b_pick .nil pass0 (pa_cons (xv 0) (pa_cons pe_int pa_nil))))
      (pss_cons (xs_if (xt_cmp op_ltY (xv 1) pe_int (nomark _))
      (pss_one (ps_ret (pe_lst (pa_cons (pe_ix (ix_k K) (pe_lst (pa_cons pe_int (pa_cons pe_int (pa_cons pe_int (pa_cons pe_int pa_nil))))) (pe_call G_pick (hr.mono (by omega)) (by rfl) T.g_pick T.F_pick.kp T.b_pick .nil pass0 (pa_cons (xv 0) (pa_cons pe_int pa_nil))) (fun _ _ => rfl)) (pa_cons (pe_ix (ix_k K) (pe_lst (pa_cons pe_int (pa_cons pe_int (pa_cons pe_int (pa_cons pe_int (pa_cons pe_int (pa_cons pe_int pa_nil))))))) (pe_call G_pick (hr.mono (by omega)) (by rfl) T.g_pick T.F_pick.kp T.b_pick .nil pass0 (pa_cons (xv 0) (pa_cons pe_int pa_nil))) (fun _ _ => rfl)) (pa_cons (pe_ix (ix_k K) (pe_lst (pa_cons pe_int (pa_cons pe_int (pa_cons pe_int pa_nil)))) (pe_call G_pick (hr.mono (by omega)) (by rfl) T.g_pick T.F_pick.kp T.b_pick .nil pass0 (pa_cons (xv 0) (pa_cons pe_int pa_nil))) (fun _ _ => rfl)) pa_nil))))))
      pss_nil)
      (pss_cons (xs_if (xt_cmp op_ltY (xv 1) pe_int (nomark _))
      (pss_one (ps_ret (pe_ix (ix_k K) (pe_lst (pa_cons (pe_lst (pa_cons pe_int (pa_cons pe_int (pa_cons pe_int pa_nil)))) (pa_cons (pe_lst (pa_cons pe_int (pa_cons pe_int (pa_cons pe_int pa_nil)))) (pa_cons (pe_lst (pa_cons pe_int (pa_cons pe_int (pa_cons pe_int pa_nil)))) (pa_cons (pe_lst (pa_cons pe_int (pa_cons pe_int (pa_cons pe_int pa_nil)))) (pa_cons (pe_lst (pa_cons pe_int (pa_cons pe_int (pa_cons pe_int pa_nil)))) (pa_cons (pe_lst (pa_cons pe_int (pa_cons pe_int (pa_cons pe_int pa_nil)))) pa_nil))))))) (pe_call G_pick (hr.mono (by omega)) (by rfl) T.g_pick T.F_pick.kp T.b_pick .nil pass0 (pa_cons (xv 0) (pa_cons pe_int pa_nil))) (fun _ _ => rfl))))
      pss_nil)
      (pss_one (ps_ret (pe_lst (pa_cons (pe_op op_addY pe_int (pe_call G_pick (hr.mono (by omega)) (by rfl) T.g_pick T.F_pick.kp T.b_pick .nil pass0 (pa_cons (xv 0) (pa_cons pe_int pa_nil)))) (pa_cons (pe_op op_addY pe_int (pe_call G_pick (hr.mono (by omega)) (by rfl) T.g_pick T.F_pick.kp T.b_pick .nil pass0 (pa_cons (xv 0) (pa_cons pe_int pa_nil)))) (pa_cons (pe_op op_addY pe_int (pe_call G_pick (hr.mono (by omega)) (by rfl) T.g_pick T.F_pick.kp T.b_pick .nil pass0 (pa_cons (xv 0) (pa_cons pe_int pa_nil)))) pa_nil))))))))), ?_⟩
    refine ⟨G, _, b, o, 16, rfl, S, B, by decide, by decide, fun r1 o1 H1 r10 r11 B1 S1 => ⟨fun _ => ?_, fun _ => ⟨fun _ => ?_, fun _ => ?_⟩⟩⟩
    · refine ⟨sz, fun l1 n1 => ?_⟩
      obtain ⟨G2, s2, S2, k2⟩ := Sep.mk (o := .lst (([1, 2, 2, 2] : List Nat).map nV)) S1 n1
      refine ⟨G2, M, b, o1, 4, rfl, S2, B1.same s2, by decide, by decide, fun r2 o2 H2 r20 r21 B2 S3 => ?_⟩
      obtain ⟨x1, m1, a1⟩ := nat_in (ns := [1, 2, 2, 2]) r20 r21
      refine ⟨_, _, .inl (SqL.of (S3.st k2)), a1, sz, fun l2 n2 => ?_⟩
      obtain ⟨G4, s4, S4, k4⟩ := Sep.mk (o := .lst (([1, 2, 2, 2, 2, 2] : List Nat).map nV)) S3 n2
      refine ⟨G4, M, b, o2, 6, rfl, S4, B2.same s4, by decide, by decide, fun r3 o3 H3 r30 r31 B3 S5 => ?_⟩
      obtain ⟨x2, m2, a2⟩ := nat_in (ns := [1, 2, 2, 2, 2, 2]) r30 r31
      refine ⟨_, _, .inl (SqL.of (S5.st k4)), a2, sz, fun l3 n3 => ?_⟩
      obtain ⟨G6, s6, S6, k6⟩ := Sep.mk (o := .lst (([1, 2, 2] : List Nat).map nV)) S5 n3
      refine ⟨G6, M, b, o3, 3, rfl, S6, B3.same s6, by decide, by decide, fun r4 o4 H4 r40 r41 B4 S7 => ?_⟩
      obtain ⟨x3, m3, a3⟩ := nat_in (ns := [1, 2, 2]) r40 r41
      refine ⟨_, _, .inl (SqL.of (S7.st k6)), a3, sz, fun t nt => ?_⟩
      obtain ⟨G8, s8, S8, k8⟩ := Sep.mk (o := .lst [.int (x1 : Nat), .int (x2 : Nat), .int (x3 : Nat)]) S7 nt
      simp at m1 m2 m3
      exact q t x1 x2 x3 o4 G8 _ (s2.trans (s4.trans (s6.trans s8))) k8 (by omega) (by omega) (by omega) (B4.same s8) S8
    · refine ⟨sz, fun l1 n1 => ?_⟩
      obtain ⟨G2, s2, S2, k2⟩ := Sep.mk (o := .lst [.int (2 : Nat), .int (2 : Nat), .int (3 : Nat)]) S1 n1
      refine ⟨sz, fun l2 n2 => ?_⟩
      obtain ⟨G3, s3, S3, k3⟩ := Sep.mk (o := .lst [.int (3 : Nat), .int (2 : Nat), .int (2 : Nat)]) S2 n2
      refine ⟨sz, fun l3 n3 => ?_⟩
      obtain ⟨G4, s4, S4, k4⟩ := Sep.mk (o := .lst [.int (2 : Nat), .int (3 : Nat), .int (2 : Nat)]) S3 n3
      refine ⟨sz, fun l4 n4 => ?_⟩
      obtain ⟨G5, s5, S5, k5⟩ := Sep.mk (o := .lst [.int (1 : Nat), .int (3 : Nat), .int (3 : Nat)]) S4 n4
      refine ⟨sz, fun l5 n5 => ?_⟩
      obtain ⟨G6, s6, S6, k6⟩ := Sep.mk (o := .lst [.int (4 : Nat), .int (2 : Nat), .int (1 : Nat)]) S5 n5
      refine ⟨sz, fun l6 n6 => ?_⟩
      obtain ⟨G7, s7, S7, k7⟩ := Sep.mk (o := .lst [.int (3 : Nat), .int (3 : Nat), .int (1 : Nat)]) S6 n6
      refine ⟨sz, fun l7 n7 => ?_⟩
      obtain ⟨G8, s8, S8, k8⟩ := Sep.mk (o := .lst [.ref l1, .ref l2, .ref l3, .ref l4, .ref l5, .ref l6]) S7 n7
      have z5 := s7.trans s8
      have z4 := s6.trans z5
      have z3 := s5.trans z4
      have z2 := s4.trans z3
      have z1 := s3.trans z2
      have z0 := s2.trans z1
      refine ⟨G8, M, b, o1, 6, rfl, S8, B1.same z0, by decide, by decide, fun r2 o2 H2 r20 r21 B2 S9 => ?_⟩
      have hl := SqL.of (K := K) (S9.st k8)
      have b6 : r2 = 0 ∨ r2 = 1 ∨ r2 = 2 ∨ r2 = 3 ∨ r2 = 4 ∨ r2 = 5 := by omega
      rcases b6 with rfl | rfl | rfl | rfl | rfl | rfl
      · exact ⟨_, _, .inl hl, atI_nat (j := 0) rfl, q l1 2 2 3 o2 G8 H2 z0 (z1 _ _ k2) (by omega) (by omega) (by omega) B2 S9⟩
      · exact ⟨_, _, .inl hl, atI_nat (j := 1) rfl, q l2 3 2 2 o2 G8 H2 z0 (z2 _ _ k3) (by omega) (by omega) (by omega) B2 S9⟩
      · exact ⟨_, _, .inl hl, atI_nat (j := 2) rfl, q l3 2 3 2 o2 G8 H2 z0 (z3 _ _ k4) (by omega) (by omega) (by omega) B2 S9⟩
      · exact ⟨_, _, .inl hl, atI_nat (j := 3) rfl, q l4 1 3 3 o2 G8 H2 z0 (z4 _ _ k5) (by omega) (by omega) (by omega) B2 S9⟩
      · exact ⟨_, _, .inl hl, atI_nat (j := 4) rfl, q l5 4 2 1 o2 G8 H2 z0 (z5 _ _ k6) (by omega) (by omega) (by omega) B2 S9⟩
      · exact ⟨_, _, .inl hl, atI_nat (j := 5) rfl, q l6 3 3 1 o2 G8 H2 z0 (s8 _ _ k7) (by omega) (by omega) (by omega) B2 S9⟩
    · refine ⟨G, M, b, o1, 4, rfl, S1, B1, by decide, by decide, fun r2 o2 H2 r20 r21 B2 S2 => ?_⟩
      refine ⟨G, M, b, o2, 3, rfl, S2, B2, by decide, by decide, fun r3 o3 H3 r30 r31 B3 S3 => ?_⟩
      refine ⟨G, M, b, o3, 3, rfl, S3, B3, by decide, by decide, fun r4 o4 H4 r40 r41 B4 S4 => ⟨sz, fun t nt => ?_⟩⟩
      obtain ⟨x1, rfl⟩ := Int.eq_ofNat_of_zero_le r20
      obtain ⟨x2, rfl⟩ := Int.eq_ofNat_of_zero_le r30
      obtain ⟨x3, rfl⟩ := Int.eq_ofNat_of_zero_le r40
      obtain ⟨G8, s8, S8, k8⟩ := Sep.mk (o := .lst [.int (1 + (x1 : Nat)), .int (1 + (x2 : Nat)), .int (1 + (x3 : Nat))]) S4 nt
      refine q t (1 + x1) (1 + x2) (1 + x3) o4 G8 _ s8 ?_ (by omega) (by omega) (by omega) (B4.same s8) S8
      rw [k8]
      rw [Int.natCast_add, Int.natCast_add, Int.natCast_add]
      rfl

end
end K48
set_option Elab.async false
set_option linter.all false
set_option maxRecDepth 100000
set_option maxHeartbeats 4000000
namespace K48
open PySem PySem.Spec PyProof.Rows L2 XL
section
variable {P : Program} {w : World} {K : PySem.W.Frag} {mg : Str → Option Value} {base : Heap}
/-! ### a world -/
theorem perm_nats {ys : List V} {ns : List Nat} (h : ys.Perm (ns.map nV)) : ∃ ms : List Nat, ys = ms.map nV ∧ ms.Perm ns := by
  obtain ⟨is, e, p⟩ := perm_ints (ys := ys) (xs := ns.map fun n => ((n : Nat) : Int)) (by rw [List.map_map]; exact h)
  refine ⟨is.map Int.toNat, ?_, ?_⟩
  · rw [e, List.map_map]
    refine (List.map_congr_left fun i hi => ?_)
    obtain ⟨n, _, rfl⟩ := List.mem_map.mp (p.mem_iff.mp hi)
    rfl
  · have z := p.map Int.toNat
    rw [List.map_map] at z
    have e2 : ns.map (Int.toNat ∘ fun n => ((n : Nat) : Int)) = ns := (List.map_congr_left fun n _ => Int.toNat_natCast n).trans (List.map_id _)
    rw [e2] at z
    exact z
def spWorld : Sp := fun vs H Q _ => ∃ (G : Hp) (M : List (Addr × HO)) (b : Addr) (o : HO) (most : Nat), vs = [.ref b, .int (most : Nat)] ∧ 6 ≤ most ∧ Sep G ((b, o) :: M) H ∧ Bag G o ∧
  ∀ (t sa qa : Addr) (st : List (List Int)) (rm : Nat) (qs : List Nat) (o' : HO) (G' H' : Hp), Same G G' → G' t = some (.tup [.ref sa, .int (rm : Nat), .ref qa]) → (∀ lt, WAt G' ⟨st, rm, qs, lt⟩ sa qa) → (∀ r ∈ st, Rng r) → Bag G' o' → Sep G' ((b, o') :: M) H' → Q (.ref t) H'
theorem ok_world (T : Top K mg w) {k : Nat} (G_pick : FnOk P w K mg base CX0 k T.a_pick T.d_pick ["_law_bag_here", "_law_many"] spPick) (G_mingled : FnOk P w K mg base CX0 k T.a_mingled T.d_mingled ["_law_bag_here", "_law_things"] (spMingled K))
    (G_sizes : FnOk P w K mg base CX0 k T.a_sizes T.d_sizes ["_law_bag_here"] spSizes) (G_edition : FnOk P w K mg base CX0 k T.a_edition T.d_edition ["_law_bag_here", "_law_before"] spEdition) :
    FnOk P w K mg base CX0 (k + 1) T.a_world T.d_world ["_law_bag_here", "_law_most"] spWorld := by
  refine T.F_world.ok sc_world (fun vs H Q E h => ?_) (fun cdv A outer s H vs Q E hr h => ?_)
  · obtain ⟨G, M, b, o, most, rfl, _⟩ := h
    rfl
  · obtain ⟨G, M, b, o, most, rfl, m6, S, B, q⟩ := h
    refine ⟨_, (pss_cons (ps_asg (pe_call G_sizes (hr.mono (by omega)) (by rfl) T.g_sizes T.F_sizes.kp T.b_sizes .nil pass0 (pa_cons (xv 0) pa_nil)) (pg_unlK K 3 (pgs_cons (pg_name (i := 2) sc_world.nd rfl (.inl rfl)) (pgs_cons (pg_name (i := 3) sc_world.nd rfl (.inl rfl)) (pgs_cons (pg_name (i := 4) sc_world.nd rfl (.inl rfl)) pgs_nil)))))
      (xss_cut (xs_if (PW.pt (xw_and (xt_cmp (op_eqLK K hr.u190) (xv 3) pe_int (nomark _)) (pw_and1 (xt_cmp op_gtY (pe_op op_mulY (xv 2) (xv 4)) (xv 1) (nomark _)))))
      (pss_one (ps_set (i := 4) sc_world.nd rfl (.inl rfl) (pe_op op_divY (xv 1) (xv 2))))
      pss_nil)
      (pss_cons (ps_set (i := 5) sc_world.nd rfl (.inl rfl) (pe_lst pa_nil))
      (pss_cons (ps_for PassesOwn.never rfl (pi_range1 (by rfl) T.m_range (pa_cons (xv 4) pa_nil)) (pg_name (i := 6) sc_world.nd rfl (.inl rfl))
      (pss_one (ps_expr (pe_bmK K PySem.F.plainAttrs_list PySem.F.slot_list_append PySem.F.type_list_append mt_append (xv 5) (pa_cons (pe_call G_edition (hr.mono (by omega)) (by rfl) T.g_edition T.F_edition.kp T.b_edition .nil pass0 (pa_cons (xv 0) (pa_cons (xv 5) pa_nil))) pa_nil)))))
      (xss_cut (xs_if (xt_cmp (op_eqLK K hr.u190) (pe_call G_pick (hr.mono (by omega)) (by rfl) T.g_pick T.F_pick.kp T.b_pick .nil pass0 (pa_cons (xv 0) (pa_cons pe_int pa_nil))) pe_int (nomark _))
      (pss_one (ps_setLc (i := 5) (own := [("_law_row", 7)]) (by rfl) sc_world.nd rfl rfl (sw_true rfl rfl rfl (by decide +kernel)) (pi_listK K (xv 5)) (blkOk_by (N := ["_law_bag_here", "_law_most", "_law_many", "_law_width", "_law_count", "_law_store", "_law_edition_here", "_law_row", "_law_question"]) (sc := defScope s_world) (by decide +kernel)) (fun _ _ _ _ _ => (pg_name (i := 7) sc_world.nd rfl (.inr rfl))) (fun _ _ _ _ _ => pts_nil) (fun _ _ _ _ _ => (pe_callTy (call_tupleK K) (by rfl) T.m_tuple (by decide +kernel) (pa_cons (pe_lc (own := [("_law_question", 8)]) (by rfl) sc_world.nd (pi_range1 (by rfl) T.m_range (pa_cons pe_int pa_nil)) (blkOk_by (N := ["_law_bag_here", "_law_most", "_law_many", "_law_width", "_law_count", "_law_store", "_law_edition_here", "_law_row", "_law_question"]) (sc := _) (by with_unfolding_all rfl)) (fun _ _ _ _ _ => (pg_name (i := 8) sc_world.nd rfl (.inl rfl))) (fun _ _ _ _ _ => pts_nil) (fun _ _ _ _ _ => (pe_ix (ix_k K) (xv 7) pe_int (fun _ _ => rfl)))) pa_nil)))))
      pss_nil)
      (pss_one (ps_ret (pe_tup (pa_cons (pe_callTy (call_tupleK K) (by rfl) T.m_tuple (by decide +kernel) (pa_cons (xv 5) pa_nil)) (pa_cons (xv 3) (pa_cons (pe_slice (sl_listK K) (pe_call G_mingled (hr.mono (by omega)) (by rfl) T.g_mingled T.F_mingled.kp T.b_mingled .nil pass0 (pa_cons (xv 0) (pa_cons (pe_lst (pa_cons pe_int (pa_cons pe_int (pa_cons pe_int (pa_cons pe_int pa_nil))))) pa_nil))) po_none (po_some (xv 2))) pa_nil))))))))))), ?_⟩
    refine ⟨G, _, b, o, rfl, S, B, fun t0 mn wd ct o1 G1 H1 s1 ht0 hmn hwd hct B1 S1 => ?_⟩
    refine ⟨t0, _, rfl, SqL.of (S1.st ht0), rfl, _, _, rfl, _, _, rfl, _, _, rfl, rfl, ?_⟩
    refine ⟨fun σ H' => ∃ c : Nat, σ = [some (.ref b), some (.int (most : Nat)), some (.int (mn : Nat)), some (.int (wd : Nat)), some (.int (c : Nat)), none, none, none, none] ∧ 1 ≤ c ∧ c ≤ 3 ∧ H' = H1, ?_, fun σ H4 h => ?_⟩
    · refine ⟨fun _ => ⟨.inl ⟨by omega, by omega⟩, fun e => ?_, fun _ => ⟨ct, rfl, hct.1, hct.2, rfl⟩⟩, fun _ => ⟨ff, fun _ => ⟨ct, rfl, hct.1, hct.2, rfl⟩⟩⟩
      have e : decide (((most : Nat) : Int) < ((mn : Nat) : Int) * ((ct : Nat) : Int)) = true := e
      have e2 := of_decide_eq_true e
      rw [← Int.natCast_mul] at e2
      have e3 : most < mn * ct := by omega
      refine ⟨by omega, fun c hc hm => ?_⟩
      have ec : c = ((most / mn : Nat) : Int) := by rw [hc]; exact (Int.natCast_ediv most mn).symm
      subst ec
      exact ⟨most / mn, rfl, Nat.div_pos (by omega) (by omega), by have := Nat.div_lt_of_lt_mul e3; omega, rfl⟩
    · obtain ⟨ct, rfl, hc1, hc2, rfl⟩ := h
      have hct : 1 ≤ ct ∧ ct ≤ 3 := ⟨hc1, hc2⟩
      refine ⟨sz, fun L nL => ?_⟩
      have S2 := (S1.new (o := .lst []) nL).sw
      refine ⟨(ct : Nat), rfl, by omega, by omega, for_range (lo := 0) (n := ((ct : Nat) : Int).toNat) (fun i σ H' => ∃ (y6 : Option V) (o' : HO) (us : List V) (zs : List (List Int)) (G' : Hp), σ = [some (.ref b), some (.int (most : Nat)), some (.int (mn : Nat)), some (.int (wd : Nat)), some (.int (ct : Nat)), some (.ref L), y6, none, none] ∧ Same G1 G' ∧ us.length = i ∧ Paired (EdAt G') us zs ∧ Bag G' o' ∧ Sep G' ((b, o') :: (L, .lst us) :: M) H')
        ⟨_, o1, [], [], G1, rfl, Same.refl _, rfl, .nil, B1, S2⟩ (fun i σ H' hi h => ?_) (fun σ H' h => ?_)⟩
      · obtain ⟨y6, o', us, zs, G', rfl, s', ul, pu, B', S'⟩ := h
        have hi : i < ((ct : Nat) : Int).toNat := hi
        rw [Int.toNat_natCast] at hi
        refine ⟨.inl ⟨rfl, _, SqL.of S'.sw.hd⟩, G', M, b, L, o', us, zs, rfl, S', B', pu, fun v z o2 G2 H2 s2 hv B2 S2 => ?_⟩
        exact ⟨L, us, _, rfl, rfl, S2.sw.hd, smallL (by omega), _, o2, us ++ [v], zs ++ [z], G2, rfl, s'.trans s2, by simp [ul], prd_app (eds_same s2 pu) (.cons hv .nil), B2, S2.sw.set.sw⟩
      · obtain ⟨y6, o2, us, zs, G2, rfl, s2, ul, pu, B2, S2⟩ := h
        rw [Int.toNat_natCast] at ul
        refine ⟨fun σ H' => ∃ (y7 y8 : Option V) (o' : HO) (Lx : Addr) (vs : List V) (zs' : List (List Int)) (G' : Hp), σ = [some (.ref b), some (.int (most : Nat)), some (.int (mn : Nat)), some (.int (wd : Nat)), some (.int (ct : Nat)), some (.ref Lx), y6, y7, y8] ∧ Same G2 G' ∧ vs.length = ct ∧ Paired (EdAt G') vs zs' ∧ Bag G' o' ∧ Sep G' ((Lx, .lst vs) :: (b, o') :: M) H', ?_, fun σ H5 h => ?_⟩
        · refine ⟨G2, _, b, o2, 9, rfl, S2, B2, by decide, by decide, fun r3 o3 H3 _ _ B3 S3 => ⟨fun _ => ?_, fun _ => ⟨_, _, o3, L, us, zs, G2, rfl, Same.refl _, ul, pu, B3, S3.sw⟩⟩⟩
          refine ⟨L, rfl, ⟨_, SqL.of S3.sw.hd⟩, fun D nD => lc_list (xs := us) (fun i H' => ∃ (G' : Hp) (vs : List V) (zs' : List (List Int)), Same G2 G' ∧ vs.length = i ∧ Paired (EdAt G') vs zs' ∧ Sep G' ((D, .lst vs) :: (b, o3) :: (L, .lst us) :: M) H')
            ⟨G2, [], [], Same.refl _, rfl, .nil, S3.new nD⟩ (fun i H' _ h => ?_) (fun i y H' hy h => ⟨rfl, ?_⟩) (fun H' h => ?_)⟩
          · obtain ⟨G', vs, zs', _, _, _, S'⟩ := h
            exact SqL.of (S'.at (by simp))
          · obtain ⟨G', vs, zs', s', vl, pv, S'⟩ := h
            obtain ⟨z, _, r, rfl, hr, hz, hg⟩ := prd_get (eds_same s' pu) hy
            have hz0 : (1 : Int) ≤ z.getD 0 0 ∧ z.getD 0 0 ≤ 3 := by
              rw [List.getD_eq_getElem?_getD, List.getElem?_eq_getElem (show 0 < z.length by omega)]
              exact hg _ (List.getElem_mem _)
            have iu : i < us.length := (List.getElem?_eq_some_iff.mp hy).1
            have hx : (z.map V.int)[0]? = some (.int (z.getD 0 0)) := by
              rw [List.getElem?_map, List.getElem?_eq_getElem (by omega)]
              simp [List.getD_eq_getElem?_getD, List.getElem?_eq_getElem (show 0 < z.length by omega)]
            refine ⟨4, rfl, by decide, by decide, fun D2 nD2 => lc_range (lo := 0) (n := (4 : Int).toNat) (fun i H'' => Sep G' ((D2, .lst ((List.replicate i (z.getD 0 0)).map V.int)) :: (D, .lst vs) :: (b, o3) :: (L, .lst us) :: M) H'')
              (S'.new nD2) (fun i H'' hi S'' => ⟨rfl, ?_⟩) (fun H'' S'' => ?_)⟩
            · have hi : i < 4 := hi
              refine ⟨_, _, .inr (SqT.of (S''.st hr)), atI_nat (j := 0) hx, ?_⟩
              refine ⟨_, S''.hd, smallL (by simp; omega), ?_⟩
              rw [List.replicate_succ', List.map_append]
              exact S''.set
            · refine ⟨D2, _, rfl, .inl ⟨SqL.of S''.hd, fun p np => ?_⟩⟩
              obtain ⟨G5, s5, S5, k5⟩ := Sep.mk (o := .tup ((List.replicate (4 : Int).toNat (z.getD 0 0)).map V.int)) S''.drop np
              exact ⟨vs, S5.hd, smallL (by omega), G5, vs ++ [.ref p], zs' ++ [List.replicate (4 : Int).toNat (z.getD 0 0)], s'.trans s5, by simp [vl], prd_app (eds_same s5 pv) (.cons ⟨p, rfl, k5, by simp, fun x hx => by
                rw [(List.mem_replicate.mp hx).2]
                exact hz0⟩ .nil), S5.set⟩
          · obtain ⟨G', vs, zs', s', vl, pv, S'⟩ := h
            exact ⟨_, _, o3, D, vs, zs', G', rfl, s', by rw [vl, ul], pv, B3.same s', S'.sub (by simp)⟩
        · obtain ⟨y7, y8, o3, Lx, vs, zs', G3, rfl, s3, vl, pv, B3, S3⟩ := h
          refine ⟨Lx, vs, rfl, .inl ⟨SqL.of S3.hd, fun p np => ?_⟩⟩
          obtain ⟨G4, s4, S4, k4⟩ := Sep.mk (o := .tup vs) S3 np
          refine ⟨sz, fun N nN => ?_⟩
          obtain ⟨G5, s5, S5, k5⟩ := Sep.mk (o := .lst (([0, 1, 2, 3] : List Nat).map nV)) S4 nN
          refine ⟨G5, _, b, o3, N, _, rfl, S5.drop, (B3.same s4).same s5, SqL.of k5, by simp, fun c ys o6 G6 H6 s6 hc pm B6 S6 => ?_⟩
          obtain ⟨ms, rfl, pm2⟩ := perm_nats pm
          unfold tNoPart
          refine ⟨(mn : Nat), rfl, c, _, rfl, SqL.of (S6.st hc), fun d nd => ?_⟩
          have ml : ms.length = 4 := pm2.length_eq
          have ec : cutV (ms.map nV) none (some ((mn : Nat) : Int)) = (ms.take mn).map nV := by
            unfold cutV
            rw [HT.sIx_nat, HT.sIx_none, List.length_map, Nat.min_eq_left (by omega), Nat.sub_zero, List.drop_zero, List.map_take]
          rw [ec]
          obtain ⟨G7, s7, S7, k7⟩ := Sep.mk (o := .lst ((ms.take mn).map nV)) S6 nd
          refine ⟨sz, fun t nt => ?_⟩
          obtain ⟨G8, s8, S8, k8⟩ := Sep.mk (o := .tup [.ref p, .int (wd : Nat), .ref d]) S7 nt
          have s48 := s5.trans (s6.trans (s7.trans s8))
          refine q t p d zs' wd (ms.take mn) o6 G8 _ (s1.trans (s2.trans (s3.trans (s4.trans s48)))) k8 (fun lt => ⟨⟨?_, ?_, hwd, ?_, ?_⟩, ?_, s8 _ _ k7⟩) (fun r hr => ?_) (B6.same (s7.trans s8)) S8
          · show 1 ≤ zs'.length ∧ zs'.length ≤ 3
            rw [← prd_len pv, vl]
            exact hct
          · intro z hz
            obtain ⟨i, hi, rfl⟩ := List.getElem_of_mem hz
            obtain ⟨x, _, _, _, _, h, _⟩ := prd_back pv (List.getElem?_eq_getElem hi)
            exact h
          · show 1 ≤ (ms.take mn).length ∧ (ms.take mn).length ≤ 4
            rw [List.length_take]
            omega
          · intro n hn
            have := pm2.mem_iff.mp (List.mem_of_mem_take hn)
            simp at this
            omega
          · exact ⟨vs, s48 _ _ k4, prd_imp (fun _ _ ⟨r, h1, h2, h3, _⟩ => ⟨r, h1, h2, h3⟩) (eds_same (s4.trans s48) pv)⟩
          · obtain ⟨i, hi, rfl⟩ := List.getElem_of_mem hr
            obtain ⟨x, _, _, _, _, _, h⟩ := prd_back pv (List.getElem?_eq_getElem hi)
            exact h

end
end K48
set_option Elab.async false
set_option linter.all false
set_option maxRecDepth 100000
set_option maxHeartbeats 4000000
namespace K48
open PySem PySem.Spec PyProof.Rows L2 XL
section
variable {P : Program} {w : World} {K : PySem.W.Frag} {mg : Str → Option Value} {base : Heap}
def spIsN : Sp := fun vs H Q _ => ∃ i l h : Int, vs = [.int i, .int l, .int h] ∧ Q (.bl (decide (l ≤ i) && decide (i ≤ h))) H
theorem ok_is_number (T : Top K mg w) {k : Nat} : FnOk P w K mg base CX0 (k + 1) T.a_is_number T.d_is_number ["thing", "low", "high"] spIsN := by
  refine T.F_is_number.ok sc_is_number (fun vs H Q E h => ?_) (fun cdv A outer s H vs Q E hr h => ?_)
  · obtain ⟨i, l, h', rfl, _⟩ := h
    rfl
  · obtain ⟨i, l, h', rfl, q⟩ := h
    refine ⟨_, (pss_one (ps_ret (xe_and (pe_callB (call_isK K) (by rfl) T.m_isinstance (by decide +kernel) (pa_cons (xv 0) (pa_cons (pe_bltn (v := .ty "int") (by rfl) T.m_int (by decide +kernel) rfl) pa_nil))) (xe_and (xe_not (pe_callB (call_isK K) (by rfl) T.m_isinstance (by decide +kernel) (pa_cons (xv 0) (pa_cons (pe_bltn (v := .ty "bool") (by rfl) T.m_bool (by decide +kernel) rfl) pa_nil)))) (pe_one (xe_chain op_leY op_leY (xv 1) (xv 0) (xv 2))))))), ?_⟩
    refine ⟨_, _, _, _, true, rfl, .ty _, .base (.int _), kit_ty (by decide +kernel), fun _ => ⟨_, _, _, _, false, rfl, .ty _, .base (.int _), kit_ty (by decide +kernel), fun _ => ?_, tt⟩, tt⟩
    refine ⟨fun e => ?_, fun e => ?_⟩
    · rw [show decide (l ≤ i) = true from e, Bool.true_and] at q
      exact q
    · rw [show decide (l ≤ i) = false from e, Bool.false_and] at q
      exact q

theorem prd_getR {α β : Type} {F : α → β → Prop} {xs : List α} {ys : List β} {i : Nat} {y : β} (h : Paired F xs ys) (e : ys[i]? = some y) : ∃ x, xs[i]? = some x ∧ F x y := by
  have hl := prd_len h
  have il := (List.getElem?_eq_some_iff.mp e).1
  have hx := List.getElem?_eq_getElem (show i < xs.length by omega)
  obtain ⟨y', hy, f⟩ := prd_get h hx
  rw [e] at hy
  cases hy
  exact ⟨_, hx, f⟩
theorem prd_erase {α β : Type} {F : α → β → Prop} : ∀ {xs : List α} {ys : List β} (k : Nat), Paired F xs ys → Paired F (xs.eraseIdx k) (ys.eraseIdx k)
  | _, _, _, .nil => .nil
  | _, _, 0, .cons _ t => t
  | _, _, k + 1, .cons h t => .cons h (prd_erase k t)
theorem prd_tail {α β : Type} {F : α → β → Prop} {xs : List α} {ys : List β} (h : Paired F xs ys) : Paired F xs.tail ys.tail := by
  cases h with
  | nil => exact .nil
  | cons _ t => exact t
/-- beyond the room the eldest goes -/
def push {α : Type} (rm : Int) (rs : List α) : List α := if rm < (rs.length : Int) then rs.tail else rs
theorem push_len {α : Type} {rm : Int} {rs : List α} (h : (rs.length : Int) ≤ rm + 1) (h1 : 1 ≤ rm) : ((push rm rs).length : Int) ≤ rm := by
  unfold push
  split
  · rw [List.length_tail]; omega
  · omega
/-- the line's two cells -/
def spSend (C Ce : Addr) : Sp := fun vs H Q _ => ∃ (G : Hp) (M : List (Addr × HO)) (x dx sa l : Addr) (rm tk : Int) (j q : Nat) (ws : List V) (rows : List Rw) (zs : List (List Int)) (z : List Int) (ow : V) (wd : Str) (who an : Int), vs = [.ref x, ow, .str wd, .int who, .int (q : Nat)] ∧ Sep G ((x, .ins C dx (lnF sa rm l tk (j : Nat))) :: (l, .lst ws) :: M) H ∧
  Paired (RwAt G) ws rows ∧ StAt G sa zs ∧ OwAt G ow ∧ zs[j]? = some z ∧ z[q]? = some an ∧ 1 ≤ rm ∧ rm ≤ 3 ∧ (rows.length : Int) ≤ rm ∧
  ∀ (e : Addr) (ws' : List V) (G' H' : Hp), Same G G' → EnAt G' Ce (.ref e) ⟨ow, wd, who, tk, q, an⟩ → Paired (RwAt G') ws' (push rm (rows ++ [⟨ow, wd, who, tk, q, an⟩])) → Sep G' ((x, .ins C dx (lnF sa rm l (tk + 1) (j : Nat))) :: (l, .lst ws') :: M) H' → Q (.ref e) H'
theorem ok_Line_send (T : Top K mg w) {k : Nat} (G_Entry_init : FnOk P w K mg base CX0 (k + 1) T.a_Entry_init T.d_Entry_init ["self", "owner", "word", "who", "ticket", "question", "answer"] (spEn T.C_Entry)) :
    FnOk P w K mg base CX0 (k + 3) T.a_Line_send T.d_Line_send ["self", "owner", "word", "who", "question"] (spSend T.C_Line T.C_Entry) := by
  refine T.F_Line_send.ok sc_Line_send (fun vs H Q E h => ?_) (fun cdv A outer s H vs Q E hr h => ?_)
  · obtain ⟨G, M, x, dx, sa, l, rm, tk, j, qn, ws, rows, zs, z, ow, wd, who, an, rfl, _⟩ := h
    rfl
  · obtain ⟨G, M, x, dx, sa, l, rm, tk, j, qn, ws, rows, zs, z, ow, wd, who, an, rfl, S, pw, st, hw, hz, ha, r1, r3, rl, q⟩ := h
    refine ⟨_, (pss_cons (ps_set (i := 5) sc_Line_send.nd rfl (.inl rfl) (pe_tup (pa_cons (xv 1) (pa_cons (xv 2) (pa_cons (xv 3) (pa_cons (pe_fldK K (xv 0)) (pa_cons (xv 4) (pa_cons (pe_ix (ix_k K) (pe_ix (ix_k K) (pe_fldK K (xv 0)) (pe_fldK K (xv 0)) (fun _ _ => rfl)) (xv 4) (fun _ _ => rfl)) pa_nil))))))))
      (pss_cons (ps_fldaug (xv 0) pe_int in_add)
      (pss_cons (ps_expr (pe_bmK K PySem.F.plainAttrs_list PySem.F.slot_list_append PySem.F.type_list_append mt_append (pe_fldK K (xv 0)) (pa_cons (xv 5) pa_nil)))
      (xss_cut (xs_if (xt_cmp op_gtY (pe_callB (cr_lenK K) (by rfl) T.m_len (by decide +kernel) (pa_cons (pe_fldK K (xv 0)) pa_nil)) (pe_fldK K (xv 0)) (nomark _))
      (pss_one (ps_expr (pe_bmK K PySem.F.plainAttrs_list PySem.F.slot_list_pop PySem.F.type_list_pop mt_popAt (pe_fldK K (xv 0)) (pa_cons pe_int pa_nil))))
      pss_nil)
      (pss_one (ps_ret (pe_makeS K T.mk_Entry G_Entry_init (hr.mono (by omega)) (by rfl) T.g_Entry T.b_Entry_init .nil pass0 (xv 5)))))))), ?_⟩
    obtain ⟨us, hu, pu⟩ := st
    obtain ⟨_, hv, r, rfl, hr', z4⟩ := prd_getR pu hz
    have wl := prd_len pw
    refine ⟨x, T.C_Line, dx, _, _, rfl, S.hd, T.cl_Line, T.na_Line_tickets, lnF_tk, x, T.C_Line, dx, _, _, rfl, S.hd, T.cl_Line, T.na_Line_far, lnF_far, x, T.C_Line, dx, _, _, rfl, S.hd, T.cl_Line, T.na_Line_present, lnF_pr, ?_⟩
    refine ⟨_, _, .inr (SqT.of (S.st hu)), atI_nat hv, _, _, .inr (SqT.of (S.st hr')), atI_nat (by rw [List.getElem?_map, ha]; rfl), sz, fun p np => ?_⟩
    obtain ⟨G1, s1, S1, h1⟩ := Sep.mk (o := .tup (Rw.tup ⟨ow, wd, who, tk, qn, an⟩)) S np
    refine ⟨x, T.C_Line, dx, _, _, rfl, S1.hd, T.cl_Line, T.na_Line_tickets, lnF_tk, _, _, rfl, rfl, dx, _, S1.hd, by simp [lnF], ?_⟩
    rw [put_tk]
    have S2 := S1.set (o' := .ins T.C_Line dx (lnF sa rm l (tk + 1) (j : Nat)))
    have nr : RwAt G1 (.ref p) ⟨ow, wd, who, tk, qn, an⟩ := ⟨p, rfl, h1, hw.same s1⟩
    have pw1 := prd_app (rws_same s1 pw) (.cons nr .nil)
    refine ⟨x, T.C_Line, dx, _, _, rfl, S2.hd, T.cl_Line, T.na_Line_waiting, lnF_w, .inl ⟨rfl, _, SqL.of S2.sw.hd⟩, l, _, _, rfl, rfl, S2.sw.hd, smallL (by omega), ?_⟩
    have S3 := (S2.sw.set (o' := .lst (ws ++ [.ref p]))).sw
    refine ⟨fun σ H' => ∃ ws', σ = [some (.ref x), some ow, some (.str wd), some (.int who), some (.int (qn : Nat)), some (.ref p)] ∧ Paired (RwAt G1) ws' (push rm (rows ++ [⟨ow, wd, who, tk, qn, an⟩])) ∧ Sep G1 ((x, .ins T.C_Line dx (lnF sa rm l (tk + 1) (j : Nat))) :: (l, .lst ws') :: M) H', ?_, fun σ H' h => ?_⟩
    · refine ⟨x, T.C_Line, dx, _, _, rfl, S3.hd, T.cl_Line, T.na_Line_waiting, lnF_w, _, .inl (SqL.of S3.sw.hd), x, T.C_Line, dx, _, _, rfl, S3.hd, T.cl_Line, T.na_Line_room, lnF_rm, fun e => ?_, fun e => ?_⟩
      · have e1 : rm < ((rows ++ [(⟨ow, wd, who, tk, qn, an⟩ : Rw)]).length : Int) := by
          have z := of_decide_eq_true e
          rw [List.length_append] at z ⊢
          rw [← wl]
          exact z
        have hne : ∃ y, (ws ++ [V.ref p])[0]? = some y := ⟨_, List.getElem?_eq_getElem (by simp)⟩
        obtain ⟨y, hy⟩ := hne
        refine ⟨x, T.C_Line, dx, _, _, rfl, S3.hd, T.cl_Line, T.na_Line_waiting, lnF_w, .inl ⟨rfl, _, SqL.of S3.sw.hd⟩, l, _, 0, 0, y, rfl, rfl, S3.sw.hd, by decide, by decide, ?_, hy, ?_⟩
        · exact seqIdx (by decide) (by rw [List.length_append]; simp)
        · refine ⟨_, rfl, ?_, (S3.sw.set).sw⟩
          unfold push
          rw [if_pos e1, List.eraseIdx_zero]
          exact prd_tail pw1
      · have e1 : ¬ rm < ((rows ++ [(⟨ow, wd, who, tk, qn, an⟩ : Rw)]).length : Int) := by
          have z := of_decide_eq_false e
          rw [List.length_append] at z ⊢
          rw [← wl]
          exact z
        refine ⟨_, rfl, ?_, S3⟩
        unfold push
        rw [if_neg e1]
        exact pw1
    · obtain ⟨ws', rfl, pw', S4⟩ := h
      refine ⟨p, _, rfl, .inl (SqT.of (S4.st h1)), fun e de ne nde hne => ?_⟩
      have S5 := S4.new2 (o := .ins T.C_Entry de []) (u := .own e) ne nde hne
      refine ⟨G1, _, e, de, ⟨ow, wd, who, tk, qn, an⟩, rfl, S5, fun H6 S6 => ⟨rfl, ?_⟩⟩
      obtain ⟨G7, s7, S7, h7⟩ := Sep.keep S6
      exact q e ws' G7 _ (s1.trans s7) ⟨e, de, rfl, h7, (hw.same s1).same s7⟩ (rws_same s7 pw') S7.drop

/-- take of an open question -/
def spTakeV (C Ce : Addr) : Sp := fun vs H Q _ => ∃ (G : Hp) (M : List (Addr × HO)) (x dx sa l : Addr) (rm tk pr n : Int) (ws : List V) (rows : List Rw), vs = [.ref x, .int n] ∧ Sep G ((x, .ins C dx (lnF sa rm l tk pr)) :: (l, .lst ws) :: M) H ∧
  Paired (RwAt G) ws rows ∧ rows.length ≤ 1000 ∧ 0 ≤ n ∧ n < (rows.length : Int) ∧
  (∀ (k : Nat) (r : Rw) (e : Addr) (ws' : List V) (G' H' : Hp), n = k → rows[k]? = some r → Same G G' → EnAt G' Ce (.ref e) r → Paired (RwAt G') ws' (rows.eraseIdx k) → Sep G' ((x, .ins C dx (lnF sa rm l tk pr)) :: (l, .lst ws') :: M) H' → Q (.ref e) H')
theorem ok_Line_take (T : Top K mg w) {k : Nat} (G_Entry_init : FnOk P w K mg base CX0 (k + 1) T.a_Entry_init T.d_Entry_init ["self", "owner", "word", "who", "ticket", "question", "answer"] (spEn T.C_Entry)) (G_is_number : FnOk P w K mg base CX0 (k + 1) T.a_is_number T.d_is_number ["thing", "low", "high"] spIsN) :
    FnOk P w K mg base CX0 (k + 3) T.a_Line_take T.d_Line_take ["self", "number"] (spTakeV T.C_Line T.C_Entry) := by
  refine T.F_Line_take.ok sc_Line_take (fun vs H Q E h => ?_) (fun cdv A outer s H vs Q E hr h => ?_)
  · obtain ⟨G, M, x, dx, sa, l, rm, tk, pr, n, ws, rows, rfl, _⟩ := h
    rfl
  · obtain ⟨G, M, x, dx, sa, l, rm, tk, pr, n, ws, rows, rfl, S, pw, rl, n0, n1, q⟩ := h
    refine ⟨_, (pss_cons (xs_if (pt_not (xt_truK K (pe_call G_is_number (hr.mono (by omega)) (by rfl) T.g_is_number T.F_is_number.kp T.b_is_number .nil pass0 (pa_cons (xv 1) (pa_cons pe_int (pa_cons (pe_op op_subY (pe_callB (cr_lenK K) (by rfl) T.m_len (by decide +kernel) (pa_cons (pe_fldK K (xv 0)) pa_nil)) pe_int) pa_nil))))))
      (pss_one ps_never)
      pss_nil)
      (pss_cons (ps_set (i := 2) sc_Line_take.nd rfl (.inl rfl) (pe_bmK K PySem.F.plainAttrs_list PySem.F.slot_list_pop PySem.F.type_list_pop mt_popAt (pe_fldK K (xv 0)) (pa_cons (xv 1) pa_nil)))
      (pss_one (ps_ret (pe_makeS K T.mk_Entry G_Entry_init (hr.mono (by omega)) (by rfl) T.g_Entry T.b_Entry_init .nil pass0 (xv 2)))))), ?_⟩
    have wl := prd_len pw
    refine ⟨x, T.C_Line, dx, _, _, rfl, S.hd, T.cl_Line, T.na_Line_waiting, lnF_w, _, .inl (SqL.of S.sw.hd), n, 0, _, rfl, fun e => ?_, fun e => ?_⟩
    · have z : (decide (0 ≤ n) && decide (n ≤ (ws.length : Int) - 1)) = false := by simpa only [Bool.not_eq_true'] using e
      rw [decide_eq_true n0, decide_eq_true (show n ≤ (ws.length : Int) - 1 by omega)] at z
      cases z
    · have z : (decide (0 ≤ n) && decide (n ≤ (ws.length : Int) - 1)) = true := by simpa only [Bool.not_eq_false'] using e
      rw [Bool.and_eq_true] at z
      have z1 := of_decide_eq_true z.1
      have z2 := of_decide_eq_true z.2
      obtain ⟨j, rfl⟩ := Int.eq_ofNat_of_zero_le z1
      have jl : j < ws.length := by omega
      have hj := List.getElem?_eq_getElem jl
      obtain ⟨r, hr1, p, ep, h1, h2⟩ := prd_get pw hj
      rw [ep] at hj
      refine ⟨x, T.C_Line, dx, _, _, rfl, S.hd, T.cl_Line, T.na_Line_waiting, lnF_w, .inl ⟨rfl, _, SqL.of S.sw.hd⟩, l, _, _, j, _, rfl, rfl, S.sw.hd, by omega, by omega, seqIdx (by omega) (by omega), hj, ?_⟩
      have S1 := (S.sw.set (o' := .lst (ws.eraseIdx j))).sw
      refine ⟨p, _, rfl, .inl (SqT.of (S1.st h1)), fun e de ne nde hne => ?_⟩
      have S5 := S1.new2 (o := .ins T.C_Entry de []) (u := .own e) ne nde hne
      refine ⟨G, _, e, de, r, rfl, S5, fun H6 S6 => ⟨rfl, ?_⟩⟩
      obtain ⟨G7, s7, S7, h7⟩ := Sep.keep S6
      exact q j r e _ G7 _ rfl hr1 s7 ⟨e, de, rfl, h7, h2.same s7⟩ (rws_same s7 (prd_erase j pw)) S7.drop

def spEntries (C Ce : Addr) : Sp := fun vs H Q _ => ∃ (G : Hp) (M : List (Addr × HO)) (x dx sa l : Addr) (rm tk pr : Int) (ws : List V) (rows : List Rw), vs = [.ref x] ∧ Sep G ((x, .ins C dx (lnF sa rm l tk pr)) :: (l, .lst ws) :: M) H ∧ Paired (RwAt G) ws rows ∧ rows.length ≤ 1000 ∧
  ∀ (L : Addr) (es : List V) (G' H' : Hp), Same G G' → Paired (EnAt G' Ce) es rows → Sep G' ((L, .lst es) :: (x, .ins C dx (lnF sa rm l tk pr)) :: (l, .lst ws) :: M) H' → Q (.ref L) H'
theorem ok_Line_entries (T : Top K mg w) {k : Nat} (G_Entry_init : FnOk P w K mg base CX0 (k + 1) T.a_Entry_init T.d_Entry_init ["self", "owner", "word", "who", "ticket", "question", "answer"] (spEn T.C_Entry)) :
    FnOk P w K mg base CX0 (k + 3) T.a_Line_entries T.d_Line_entries ["self"] (spEntries T.C_Line T.C_Entry) := by
  refine T.F_Line_entries.ok sc_Line_entries (fun vs H Q E h => ?_) (fun cdv A outer s H vs Q E hr h => ?_)
  · obtain ⟨G, M, x, dx, sa, l, rm, tk, pr, ws, rows, rfl, _⟩ := h
    rfl
  · obtain ⟨G, M, x, dx, sa, l, rm, tk, pr, ws, rows, rfl, S, pw, rl, q⟩ := h
    refine ⟨_, (pss_one (ps_ret (pe_lc (own := [("row", 1)]) (by rfl) sc_Line_entries.nd (pi_listK K (pe_fldK K (xv 0))) (blkOk_by (N := ["self", "row"]) (sc := defScope s_Line_entries) (by decide +kernel)) (fun _ _ _ _ _ => (pg_name (i := 1) sc_Line_entries.nd rfl (.inl rfl))) (fun _ _ _ _ _ => pts_nil) (fun _ _ _ _ _ => (pe_makeS K T.mk_Entry G_Entry_init (hr.mono (by omega)) (by rfl) T.g_Entry T.b_Entry_init .nil pass0 (xv 1)))))), ?_⟩
    have wl := prd_len pw
    refine ⟨x, T.C_Line, dx, _, _, rfl, S.hd, T.cl_Line, T.na_Line_waiting, lnF_w, l, rfl, ⟨_, SqL.of S.sw.hd⟩, fun L nL => lc_list (xs := ws) (fun i H' => ∃ es G', Same G G' ∧ Paired (EnAt G' T.C_Entry) es (rows.take i) ∧ Sep G' ((L, .lst es) :: (x, .ins T.C_Line dx (lnF sa rm l tk pr)) :: (l, .lst ws) :: M) H')
      ⟨[], G, Same.refl _, .nil, S.new nL⟩ (fun i H' _ h => ?_) (fun i y H' hy h => ?_) (fun H' h => ?_)⟩
    · obtain ⟨es, G', s1, pe, S1⟩ := h
      exact SqL.of S1.drop.sw.hd
    · obtain ⟨es, G', s1, pe, S1⟩ := h
      obtain ⟨r, hr1, p, rfl, h1, h2⟩ := prd_get pw hy
      have il := (List.getElem?_eq_some_iff.mp hy).1
      refine ⟨rfl, p, _, rfl, .inl (SqT.of (S1.st (s1 _ _ h1))), fun e de ne nde hne => ?_⟩
      have S5 := S1.new2 (o := .ins T.C_Entry de []) (u := .own e) ne nde hne
      refine ⟨G', _, e, de, r, rfl, S5, fun H6 S6 => ⟨rfl, ?_⟩⟩
      obtain ⟨G7, s7, S7, h7⟩ := Sep.keep S6
      have S8 := S7.drop
      have el := prd_len pe
      rw [List.length_take] at el
      refine ⟨_, S8.hd, smallL (by omega), _, G7, s1.trans s7, ?_, S8.set⟩
      rw [take_snoc hr1]
      exact prd_app (prd_imp (fun _ _ k => k.same s7) pe) (.cons ⟨e, de, rfl, h7, (h2.same s1).same s7⟩ .nil)
    · obtain ⟨es, G', s1, pe, S1⟩ := h
      rw [wl, List.take_length] at pe
      exact q L es G' H' s1 pe S1
def spTurn (C : Addr) : Sp := fun vs H Q _ => ∃ (G : Hp) (M : List (Addr × HO)) (x dx sa l : Addr) (rm tk pr : Int) (zs : List (List Int)), vs = [.ref x] ∧ Sep G ((x, .ins C dx (lnF sa rm l tk pr)) :: M) H ∧ StAt G sa zs ∧
  (pr + 1 < (zs.length : Int) → ∀ H', Sep G ((x, .ins C dx (lnF sa rm l tk (pr + 1))) :: M) H' → Q (.bl true) H') ∧ (¬ pr + 1 < (zs.length : Int) → Q (.bl false) H)
theorem ok_Line_turn (T : Top K mg w) {k : Nat} : FnOk P w K mg base CX0 (k + 1) T.a_Line_turn T.d_Line_turn ["self"] (spTurn T.C_Line) := by
  refine T.F_Line_turn.ok sc_Line_turn (fun vs H Q E h => ?_) (fun cdv A outer s H vs Q E hr h => ?_)
  · obtain ⟨G, M, x, dx, sa, l, rm, tk, pr, zs, rfl, _⟩ := h
    rfl
  · obtain ⟨G, M, x, dx, sa, l, rm, tk, pr, zs, rfl, S, ⟨us, hu, pu⟩, q1, q0⟩ := h
    refine ⟨_, (pss_cons (xs_if (xt_cmp op_geY (pe_op op_addY (pe_fldK K (xv 0)) pe_int) (pe_callB (cr_lenK K) (by rfl) T.m_len (by decide +kernel) (pa_cons (pe_fldK K (xv 0)) pa_nil)) (nomark _))
      (pss_one (ps_ret pe_bl))
      pss_nil)
      (pss_cons (ps_fldaug (xv 0) pe_int in_add)
      (pss_one (ps_ret pe_bl)))), ?_⟩
    have ul := prd_len pu
    refine ⟨x, T.C_Line, dx, _, _, rfl, S.hd, T.cl_Line, T.na_Line_present, lnF_pr, x, T.C_Line, dx, _, _, rfl, S.hd, T.cl_Line, T.na_Line_far, lnF_far, _, .inr (SqT.of (S.st hu)), fun e => ?_, fun e => ?_⟩
    · have z := of_decide_eq_true e
      exact q0 (by omega)
    · have z := of_decide_eq_false e
      refine ⟨x, T.C_Line, dx, _, _, rfl, S.hd, T.cl_Line, T.na_Line_present, lnF_pr, _, _, rfl, rfl, dx, _, S.hd, by simp [lnF], ?_⟩
      rw [put_pr]
      exact q1 (by omega) _ S.set

def spEd (C : Addr) : Sp := fun vs H Q _ => ∃ (x dx sa l : Addr) (rm tk pr : Int), vs = [.ref x] ∧ H x = some (.ins C dx (lnF sa rm l tk pr)) ∧ Q (.int pr) H
theorem ok_Line_edition (T : Top K mg w) {k : Nat} : FnOk P w K mg base CX0 (k + 1) T.a_Line_edition T.d_Line_edition ["self"] (spEd T.C_Line) := by
  refine T.F_Line_edition.ok sc_Line_edition (fun vs H Q E h => ?_) (fun cdv A outer s H vs Q E hr h => ?_)
  · obtain ⟨x, dx, sa, l, rm, tk, pr, rfl, _⟩ := h
    rfl
  · obtain ⟨x, dx, sa, l, rm, tk, pr, rfl, hx, q⟩ := h
    refine ⟨_, (pss_one (ps_ret (pe_fldK K (xv 0)))), ?_⟩
    exact ⟨x, T.C_Line, dx, _, _, rfl, hx, T.cl_Line, T.na_Line_present, lnF_pr, q⟩

end
end K48
set_option Elab.async false
set_option linter.all false
set_option maxRecDepth 100000
set_option maxHeartbeats 4000000
namespace K48
open PySem PySem.Spec PyProof.Rows L2 XL
section
variable {P : Program} {w : World} {K : PySem.W.Frag} {mg : Str → Option Value} {base : Heap}
/-! ### the law's own asker -/
def spStart (K : PySem.W.Frag) : Sp := fun vs H Q _ => ∃ (G : Hp) (M : List (Addr × HO)) (W : Wd) (sa qa : Addr), vs = [.ref sa, .ref qa] ∧ Sep G M H ∧ WAt G W sa qa ∧ ∀ v G' H', Same G G' → LsAt K G' v (startL W) → Sep G' M H' → Q v H'
theorem ok_start (T : Top K mg w) {k : Nat} : FnOk P w K mg base CX0 (k + 1) T.a_start T.d_start ["_law_store", "_law_asked"] (spStart K) := by
  refine T.F_start.ok sc_start (fun vs H Q E h => ?_) (fun cdv A outer s H vs Q E hr h => ?_)
  · obtain ⟨G, M, W, sa, qa, rfl, _⟩ := h
    rfl
  · obtain ⟨G, M, W, sa, qa, rfl, S, hw, q⟩ := h
    refine ⟨_, (pss_cons (ps_set (i := 2) sc_start.nd rfl (.inl rfl) (pe_ix (ix_k K) (pe_ix (ix_k K) (xv 0) pe_int (fun _ _ => rfl)) (pe_ix (ix_k K) (xv 1) pe_int (fun _ _ => rfl)) (fun _ _ => rfl)))
      (pss_one (ps_ret (pe_tup (pa_cons pe_int (pa_cons (pe_tup (pa_cons (pe_tup (pa_cons pe_int (pa_cons pe_int (pa_cons (pe_ix (ix_k K) (xv 1) pe_int (fun _ _ => rfl)) (pa_cons (xv 2) pa_nil))))) pa_nil)) (pa_cons pe_int (pa_cons (pe_ix (ix_k K) (xv 1) pe_int (fun _ _ => rfl)) (pa_cons pe_int (pa_cons (xv 2) (pa_cons pe_int pa_nil))))))))))), ?_⟩
    obtain ⟨hq0, h3⟩ := q0_get hw.1
    obtain ⟨us, r, ns, hs, _, hr', hn, ha⟩ := st_at hw.2.1 (e := 0) hw.1.st.1 h3
    have hq := S.st hw.2.2
    refine ⟨_, _, .inr (SqT.of (S.st hs)), atI_nat (j := 0) hr', _, _, .inl (SqL.of hq), atI_nat (j := 0) hq0, _, _, .inr (SqT.of (S.st hn)), atI_nat ha, ?_⟩
    refine ⟨_, _, .inl (SqL.of hq), atI_nat (j := 0) hq0, sz, fun t1 nt1 => ?_⟩
    obtain ⟨G1, s1, S1, h1⟩ := Sep.mk (o := .tup [.int 0, .int 0, .int (q0 W : Nat), .int (W.an 0 (q0 W))]) S nt1
    refine ⟨sz, fun t2 nt2 => ?_⟩
    obtain ⟨G2, s2, S2, h2⟩ := Sep.mk (o := .tup [.ref t1]) S1 nt2
    refine ⟨_, _, .inl (SqL.of (S2.st (s2 _ _ (s1 _ _ hw.2.2)))), atI_nat (j := 0) hq0, sz, fun t3 nt3 => ?_⟩
    obtain ⟨G3, s3, S3, h3'⟩ := Sep.mk (o := .tup [.int 0, .ref t2, .int 0, .int (q0 W : Nat), .int 0, .int (W.an 0 (q0 W)), .int 0]) S2 nt3
    exact q _ G3 _ (s1.trans (s2.trans s3)) ⟨t3, t2, _, rfl, h3', SqT.of (s3 _ _ h2), .cons ⟨t1, rfl, s3 _ _ (s2 _ _ h1)⟩ .nil⟩ S3
/-- a question is sent -/
def spSentL (K : PySem.W.Frag) : Sp := fun vs H Q _ => ∃ (G : Hp) (M : List (Addr × HO)) (W : Wd) (sa qa : Addr) (v : V) (l : Ls) (qn wh : Nat), vs = [v, .int (qn : Nat), .int (wh : Nat), .ref sa, .int (W.rm : Nat)] ∧ Sep G M H ∧ WAt G W sa qa ∧ LsAt K G v l ∧ OkP W (toP l) ∧ qn ≤ 3 ∧
  ∀ v' G' H', Same G G' → LsAt K G' v' (sentL W l qn wh) → Sep G' M H' → Q v' H'
theorem ok_sent (T : Top K mg w) {k : Nat} : FnOk P w K mg base CX0 (k + 1) T.a_sent T.d_sent ["_law_now", "_law_question", "_law_who", "_law_store", "_law_width"] (spSentL K) := by
  refine T.F_sent.ok sc_sent (fun vs H Q E h => ?_) (fun cdv A outer s H vs Q E hr h => ?_)
  · obtain ⟨G, M, W, sa, qa, v, l, qn, wh, rfl, _⟩ := h
    rfl
  · obtain ⟨G, M, W, sa, qa, v, l, qn, wh, rfl, S, hw, hl, okp, q3, q⟩ := h
    refine ⟨_, (pss_cons (ps_set (i := 5) sc_sent.nd rfl (.inl rfl) (pe_ix (ix_k K) (pe_ix (ix_k K) (xv 3) (pe_ix (ix_k K) (xv 0) pe_int (fun _ _ => rfl)) (fun _ _ => rfl)) (xv 1) (fun _ _ => rfl)))
      (pss_cons (ps_set (i := 6) sc_sent.nd rfl (.inl rfl) (pe_op op_addY (pe_ix (ix_k K) (xv 0) pe_int (fun _ _ => rfl)) pe_int))
      (pss_cons (ps_set (i := 7) sc_sent.nd rfl (.inl rfl) (pe_op (op_catAK K) (pe_ix (ix_k K) (xv 0) pe_int (fun _ _ => rfl)) (pe_tup (pa_cons (pe_tup (pa_cons (xv 2) (pa_cons (xv 6) (pa_cons (xv 1) (pa_cons (xv 5) pa_nil))))) pa_nil))))
      (xss_cut (xs_if (xt_cmp op_gtY (pe_callB (cr_lenK K) (by rfl) T.m_len (by decide +kernel) (pa_cons (xv 7) pa_nil)) (xv 4) (nomark _))
      (pss_one (ps_set (i := 7) sc_sent.nd rfl (.inl rfl) (pe_slice (sl_tupAK K) (xv 7) (po_some pe_int) po_none)))
      pss_nil)
      (pss_one (ps_ret (pe_tup (pa_cons (pe_ix (ix_k K) (xv 0) pe_int (fun _ _ => rfl)) (pa_cons (xv 7) (pa_cons (xv 2) (pa_cons (xv 1) (pa_cons (xv 6) (pa_cons (xv 5) (pa_cons pe_int pa_nil)))))))))))))), ?_⟩
    obtain ⟨a, ll, ws, rfl, h1, h2, h3⟩ := hl
    obtain ⟨us, r, ns, hs, _, hr', hn, ha⟩ := st_at hw.2.1 (e := l.ed) okp.1 q3
    have hT := SqT.of (K := K) (S.st h1)
    have len : ws.length ≤ W.rm := by
      have z : (l.ln.map (toQ l.who l.tk)).length ≤ W.rm := okp.2.1
      rw [List.length_map] at z
      rw [prd_len h3]
      exact z
    have r3 := hw.1.rm.2
    refine ⟨_, _, .inr hT, atI_nat (j := 0) rfl, _, _, .inr (SqT.of (S.st hs)), atI_nat hr', _, _, .inr (SqT.of (S.st hn)), atI_nat ha, ?_⟩
    refine ⟨_, _, .inr hT, atI_nat (j := 4) rfl, _, _, .inr hT, atI_nat (j := 1) rfl, sz, fun t1 nt1 => ?_⟩
    obtain ⟨G1, s1, S1, k1⟩ := Sep.mk (o := .tup [.int (wh : Nat), .int ((l.tk : Nat) + 1), .int (qn : Nat), .int (W.an l.ed qn)]) S nt1
    refine ⟨sz, fun t2 nt2 => ?_⟩
    obtain ⟨G2, s2, S2, k2⟩ := Sep.mk (o := .tup [.ref t1]) S1 nt2
    have s02 := s1.trans s2
    refine cat_ok S2 (same_t s02 h2) (SqT.of k2) (by simp; rw [sizeLine_eq]; omega) fun c G3 H3 s3 hc S3 => ?_
    have s03 := s02.trans s3
    let e9 : Lq := ⟨wh, l.tk + 1, qn, W.an l.ed qn⟩
    have p3 : Paired (LqAt G3) (ws ++ [.ref t1]) (l.ln ++ [e9]) := prd_app (prd_imp (fun _ _ => LqAt.same s03) h3) (.cons ⟨t1, rfl, s3 _ _ (s2 _ _ k1)⟩ .nil)
    refine ⟨fun σ H' => ∃ (G' : Hp) (c' : Addr) (vs' : List V), σ = [some (.ref a), some (.int (qn : Nat)), some (.int (wh : Nat)), some (.ref sa), some (.int (W.rm : Nat)), some (.int (W.an l.ed qn)), some (.int ((l.tk : Nat) + 1)), some (.ref c')] ∧ Same G G' ∧ SqT K G' c' vs' ∧ Paired (LqAt G') vs' ((l.ln ++ [e9]).drop ((l.ln.length + 1) - W.rm)) ∧ Sep G' M H', ?_, fun σ H4 h => ?_⟩
    · have el := prd_len h3
      refine ⟨_, .inr (S3.t hc), fun e1 => ?_, fun e1 => ?_⟩
      · have big : (W.rm : Int) < ((ws ++ [V.ref t1]).length : Nat) := of_decide_eq_true e1
        have b1 : l.ln.length + 1 - W.rm = 1 := by rw [List.length_append] at big; simp at big; omega
        refine ⟨1, rfl, ?_⟩
        unfold tNoPart
        refine cutA_ok S3 hc fun c' G4 H4 s4 hc' S4 => ?_
        refine ⟨G4, c', _, rfl, s03.trans s4, hc', ?_, S4⟩
        rw [b1]
        have cv : cutV (ws ++ [V.ref t1]) (some 1) none = (ws ++ [V.ref t1]).drop 1 := cutV_from _ 1 (by simp)
        rw [cv]
        exact prd_drop 1 (prd_imp (fun _ _ => LqAt.same s4) p3)
      · have small : ¬ (W.rm : Int) < ((ws ++ [V.ref t1]).length : Nat) := of_decide_eq_false e1
        have b1 : l.ln.length + 1 - W.rm = 0 := by rw [List.length_append] at small; simp at small; omega
        refine ⟨G3, c, _, rfl, s03, hc, ?_, S3⟩
        rw [b1]
        exact p3
    · obtain ⟨G4, c4, vs4, rfl, s4, hc4, p4, S4⟩ := h
      refine ⟨_, _, .inr (SqT.of (S4.st (s4 _ _ h1))), atI_nat (j := 0) rfl, sz, fun t5 nt5 => ?_⟩
      obtain ⟨G5, s5, S5, k5⟩ := Sep.mk (o := .tup [.int (l.ed : Nat), .ref c4, .int (wh : Nat), .int (qn : Nat), .int ((l.tk : Nat) + 1), .int (W.an l.ed qn), .int 0]) S4 nt5
      exact q _ G5 _ (s4.trans s5) ⟨t5, c4, vs4, rfl, k5, same_t s5 hc4, prd_imp (fun _ _ => LqAt.same s5) p4⟩ S5
def spLateL (K : PySem.W.Frag) : Sp := fun vs H Q _ => ∃ (v : V) (l : Ls), vs = [v] ∧ LsAt K H v l ∧ Q (.bl (lateP (toP l))) H
theorem ok_is_late (T : Top K mg w) {k : Nat} : FnOk P w K mg base CX0 (k + 1) T.a_is_late T.d_is_late ["_law_now"] (spLateL K) := by
  refine T.F_is_late.ok sc_is_late (fun vs H Q E h => ?_) (fun cdv A outer s H vs Q E hr h => ?_)
  · obtain ⟨v, l, rfl, _⟩ := h
    rfl
  · obtain ⟨v, l, rfl, hl, q⟩ := h
    refine ⟨_, (pss_one (ps_ret (xe_and (pe_cmpR (op_neLK K hr.u190) (pe_ix (ix_k K) (xv 0) pe_int (fun _ _ => rfl)) pe_int (nomark _)) (pe_one (pe_cmpR (op_neLK K hr.u190) (pe_ix (ix_k K) (xv 0) pe_int (fun _ _ => rfl)) (pe_ix (ix_k K) (xv 0) pe_int (fun _ _ => rfl)) (nomark _)))))), ?_⟩
    obtain ⟨a, ll, ws, rfl, h1, h2, h3⟩ := hl
    have hT := SqT.of (K := K) h1
    have q : Q (.bl (!decide (l.sh = 0) && !decide (l.sh = l.du))) H := q
    refine ⟨_, _, .inr hT, atI_nat (j := 6) rfl, fun e1 => ?_, fun e1 => ?_⟩
    · refine ⟨_, _, .inr hT, atI_nat (j := 6) rfl, _, _, .inr hT, atI_nat (j := 5) rfl, ?_⟩
      rw [show (!decide (l.sh = 0)) = true from e1, Bool.true_and] at q
      exact q
    · rw [show (!decide (l.sh = 0)) = false from e1, Bool.false_and] at q
      exact q

end
end K48
set_option Elab.async false
set_option linter.all false
set_option maxRecDepth 100000
set_option maxHeartbeats 4000000
namespace K48
open PySem PySem.Spec PyProof.Rows L2 XL
section
variable {P : Program} {w : World} {K : PySem.W.Frag} {mg : Str → Option Value} {base : Heap}
/-! ### the steps at a stand -/
theorem smallS {n m : Nat} (h : n ≤ 100) (k : m ≤ 100) : n + m ≤ sizeLine := by rw [sizeLine_eq]; omega
def spSteps (K : PySem.W.Frag) : Sp := fun vs H Q _ => ∃ (G : Hp) (M : List (Addr × HO)) (W : Wd) (sa qa : Addr) (v : V) (l : Ls), vs = [v, .ref qa, .ref sa] ∧ Sep G M H ∧ WAt G W sa qa ∧ LsAt K G v l ∧ OkP W (toP l) ∧
  ∀ p ws G' H', Same G G' → G' p = some (.lst ws) → Paired (StpAt G') ws (stepsP W (toP l)) → Sep G' M H' → Q (.ref p) H'
theorem ok_steps (T : Top K mg w) {k : Nat} : FnOk P w K mg base CX0 (k + 1) T.a_steps T.d_steps ["_law_now", "_law_asked", "_law_store"] (spSteps K) := by
  refine T.F_steps.ok sc_steps (fun vs H Q E h => ?_) (fun cdv A outer s H vs Q E hr h => ?_)
  · obtain ⟨G, M, W, sa, qa, v, l, rfl, _⟩ := h
    rfl
  · obtain ⟨G, M, W, sa, qa, v, l, rfl, S, hw, hl, okp, q⟩ := h
    refine ⟨_, (pss_cons (ps_setLc (i := 3) (own := [("_law_question", 4)]) (by rfl) sc_steps.nd rfl rfl (sw_true rfl rfl rfl (by decide +kernel)) (pi_listK K (xv 1)) (blkOk_by (N := ["_law_now", "_law_asked", "_law_store", "_law_out", "_law_question", "_law_number"]) (sc := defScope s_steps) (by decide +kernel)) (fun _ _ _ _ _ => (pg_name (i := 4) sc_steps.nd rfl (.inl rfl))) (fun _ _ _ _ _ => (pts_one (xt_cmp (op_neLK K hr.u190) (xv 4) (pe_ix (ix_k K) (xv 0) pe_int (fun _ _ => rfl)) (nomark _)))) (fun _ _ _ _ _ => (pe_tup (pa_cons pe_str (pa_cons (xv 4) pa_nil)))))
      (pss_cons (ps_set (i := 3) sc_steps.nd rfl (.inl rfl) (pe_op op_addY (xv 3) (pe_lc (own := [("_law_number", 5)]) (by rfl) sc_steps.nd (pi_range1 (by rfl) T.m_range (pa_cons (pe_callB (cr_lenK K) (by rfl) T.m_len (by decide +kernel) (pa_cons (pe_ix (ix_k K) (xv 0) pe_int (fun _ _ => rfl)) pa_nil)) pa_nil)) (blkOk_by (N := ["_law_now", "_law_asked", "_law_store", "_law_out", "_law_question", "_law_number"]) (sc := defScope s_steps) (by decide +kernel)) (fun _ _ _ _ _ => (pg_name (i := 5) sc_steps.nd rfl (.inl rfl))) (fun _ _ _ _ _ => pts_nil) (fun _ _ _ _ _ => (pe_tup (pa_cons pe_str (pa_cons (xv 5) pa_nil)))))))
      (xss_cut (xs_if (xt_cmp op_ltY (pe_op op_addY (pe_ix (ix_k K) (xv 0) pe_int (fun _ _ => rfl)) pe_int) (pe_callB (cr_lenK K) (by rfl) T.m_len (by decide +kernel) (pa_cons (xv 2) pa_nil)) (nomark _))
      (pss_one (ps_expr (pe_bmK K PySem.F.plainAttrs_list PySem.F.slot_list_append PySem.F.type_list_append mt_append (xv 3) (pa_cons (pe_tup (pa_cons pe_str pa_nil)) pa_nil))))
      pss_nil)
      (pss_one (ps_ret (pe_op op_addY (xv 3) (pe_lc (own := [("_law_question", 4)]) (by rfl) sc_steps.nd (pi_listK K (xv 1)) (blkOk_by (N := ["_law_now", "_law_asked", "_law_store", "_law_out", "_law_question", "_law_number"]) (sc := defScope s_steps) (by decide +kernel)) (fun _ _ _ _ _ => (pg_name (i := 4) sc_steps.nd rfl (.inl rfl))) (fun _ _ _ _ _ => pts_nil) (fun _ _ _ _ _ => (pe_tup (pa_cons pe_str (pa_cons (xv 4) pa_nil))))))))))), ?_⟩
    obtain ⟨a, ll, ws, rfl, h1, h2, h3⟩ := hl
    have q4 : W.qs.length ≤ 4 := hw.1.qs.2
    have l3 : l.ln.length ≤ 3 := by
      have z : (l.ln.map (toQ l.who l.tk)).length ≤ W.rm := okp.2.1
      rw [List.length_map] at z
      have := hw.1.rm.2
      omega
    obtain ⟨us, hs, hus⟩ := hw.2.1
    have usl : us.length = W.st.length := prd_len hus
    have hq := hw.2.2
    let as := fun i => ((W.qs.take i).filter fun q => !decide (q = l.la)).map Stp.ask
    -- the questions
    refine ⟨qa, rfl, ⟨_, SqL.of (S.st hq)⟩, fun D nD => lc_list (xs := W.qs.map nV) (fun i H' => ∃ (G' : Hp) (vs : List V), Same G G' ∧ vs.length ≤ i ∧ Paired (StpAt G') vs (as i) ∧ Sep G' ((D, .lst vs) :: M) H')
      ⟨G, [], Same.refl _, Nat.le_refl _, .nil, S.new nD⟩ (fun i H' _ h => ?_) (fun i y H' hy h => ⟨rfl, ?_⟩) (fun H' h => ?_)⟩
    · obtain ⟨G', vs, s', _, _, S'⟩ := h
      exact SqL.of (S'.st (s' _ _ hq))
    · obtain ⟨G', vs, s', vl, pv, S'⟩ := h
      obtain ⟨n, hn, rfl⟩ := nV_get hy
      have i4 : i < W.qs.length := (List.getElem?_eq_some_iff.mp hn).1
      refine ⟨_, _, .inr (SqT.of (S'.st (s' _ _ h1))), atI_nat (j := 3) rfl, ?_⟩
      have e0 : as (i + 1) = as i ++ (if n = l.la then [] else [Stp.ask n]) := by
        show List.map _ (List.filter _ (List.take (i + 1) _)) = _
        rw [List.take_add_one, hn, List.filter_append, List.map_append]
        by_cases z : n = l.la <;> simp [as, z]
      refine tst (fun e1 => ?_) (fun e1 => ?_)
      · have ne : n ≠ l.la := fun z => by
          have e1 : (!decide ((n : Int) = (l.la : Nat))) = true := e1
          simp [z] at e1
        rw [if_neg ne] at e0
        refine ⟨sz, fun t nt => ?_⟩
        obtain ⟨G2, s2, S2, k2⟩ := Sep.mk (o := .tup [.str "ask", .int (n : Nat)]) S' nt
        refine ⟨vs, S2.hd, smallL (by omega), G2, vs ++ [.ref t], s'.trans s2, by simp; omega, ?_, S2.set⟩
        rw [e0]
        exact prd_app (stps_same s2 pv) (.cons ⟨t, rfl, k2⟩ .nil)
      · have eq : n = l.la := by
          have e1 : (!decide ((n : Int) = (l.la : Nat))) = false := e1
          have e2 : (n : Int) = (l.la : Nat) := by simpa using e1
          omega
        rw [if_pos eq, List.append_nil] at e0
        exact ⟨G', vs, s', by omega, by rw [e0]; exact pv, S'⟩
    obtain ⟨G1, va, s1, val, pa, S1⟩ := h
    have pa : Paired (StpAt G1) va ((W.qs.filter fun q => !decide (q = l.la)).map Stp.ask) := by
      have := pa
      simp only [as, List.length_map, List.take_length] at this
      exact this
    have va4 : va.length ≤ 4 := by rw [List.length_map] at val; omega
    -- the open ones
    refine ⟨_, _, .inr (SqT.of (S1.st (s1 _ _ h1))), atI_nat (j := 1) rfl, _, .inr (S1.t (same_t s1 h2)), ?_⟩
    have el := prd_len h3
    refine ⟨ws.length, rfl, by omega, by omega, fun D2 nD2 => lc_range (lo := 0) (n := ((ws.length : Nat) : Int).toNat) (fun i H' => ∃ (G' : Hp) (vs : List V), Same G1 G' ∧ vs.length = i ∧ Paired (StpAt G') vs ((List.range i).map Stp.land) ∧ Sep G' ((D2, .lst vs) :: (D, .lst va) :: M) H')
      ⟨G1, [], Same.refl _, rfl, .nil, S1.new nD2⟩ (fun i H' hi h => ⟨rfl, ?_⟩) (fun H' h => ?_)⟩
    · obtain ⟨G', vs, s', vl, pv, S'⟩ := h
      refine ⟨sz, fun t nt => ?_⟩
      have e0 : (0 : Int) + (i : Nat) = (i : Nat) := by omega
      obtain ⟨G2, s2, S2, k2⟩ := Sep.mk (o := .tup [.str "land", .int (0 + (i : Nat))]) S' nt
      have hi : i < ((ws.length : Nat) : Int).toNat := hi
      rw [Int.toNat_natCast] at hi
      refine ⟨vs, S2.hd, smallL (by omega), G2, vs ++ [.ref t], s'.trans s2, by simp [vl], ?_, S2.set⟩
      rw [List.range_succ, List.map_append]
      refine prd_app (stps_same s2 pv) (.cons ⟨t, rfl, ?_⟩ .nil)
      rw [k2, e0]
    obtain ⟨G2, vb, s2, vbl, pb, S2⟩ := h
    rw [Int.toNat_natCast] at vbl pb
    refine ⟨D, D2, va, vb, rfl, rfl, S2.sw.hd, S2.hd, smallS (by omega) (by omega), fun E3 nE3 => ?_⟩
    have S3 := (S2.new (o := .lst (va ++ vb)) nE3).sw.drop.sw.drop
    have s02 := s1.trans s2
    have pab : Paired (StpAt G2) (va ++ vb) ((W.qs.filter fun q => !decide (q = l.la)).map Stp.ask ++ (List.range l.ln.length).map Stp.land) := prd_app (stps_same s2 pa) (by rw [← el]; exact pb)
    refine ⟨fun σ H' => ∃ (G' : Hp) (vs : List V), σ = [some (.ref a), some (.ref qa), some (.ref sa), some (.ref E3), none, none] ∧ Same G G' ∧ vs.length ≤ 20 ∧ Paired (StpAt G') vs (((W.qs.filter fun q => !decide (q = l.la)).map Stp.ask ++ (List.range l.ln.length).map Stp.land) ++ (if l.ed + 1 < W.st.length then [Stp.far] else [])) ∧ Sep G' ((E3, .lst vs) :: M) H', ?_, fun σ H4 h => ?_⟩
    · refine ⟨_, _, .inr (SqT.of (S3.st (s02 _ _ h1))), atI_nat (j := 0) rfl, _, .inr (SqT.of (S3.st (s02 _ _ hs))), fun e1 => ?_, fun e1 => ?_⟩
      · have lt : l.ed + 1 < W.st.length := by
          have e1 : decide (((l.ed : Nat) : Int) + 1 < (us.length : Nat)) = true := e1
          have := of_decide_eq_true e1
          omega
        refine ⟨.inl ⟨rfl, _, SqL.of S3.hd⟩, sz, fun t nt => ?_⟩
        obtain ⟨G4, s4, S4, k4⟩ := Sep.mk (o := .tup [.str "far"]) S3 nt
        refine ⟨E3, _, _, rfl, rfl, S4.hd, smallL (by rw [List.length_append]; omega), ?_⟩
        refine ⟨G4, _, rfl, s02.trans s4, by simp; omega, ?_, S4.set⟩
        rw [if_pos lt]
        exact prd_app (stps_same s4 pab) (.cons ⟨t, rfl, k4⟩ .nil)
      · have ge : ¬ l.ed + 1 < W.st.length := by
          have e1 : decide (((l.ed : Nat) : Int) + 1 < (us.length : Nat)) = false := e1
          have := of_decide_eq_false e1
          omega
        refine ⟨G2, _, rfl, s02, by simp; omega, ?_, S3⟩
        rw [if_neg ge, List.append_nil]
        exact pab
    · obtain ⟨G4, vc, rfl, s4, vcl, pc, S4⟩ := h
      have hq4 := s4 _ _ hq
      refine ⟨qa, rfl, ⟨_, SqL.of (S4.st hq4)⟩, fun D5 nD5 => lc_list (xs := W.qs.map nV) (fun i H' => ∃ (G' : Hp) (vs : List V), Same G4 G' ∧ vs.length = i ∧ Paired (StpAt G') vs ((W.qs.take i).map Stp.again) ∧ Sep G' ((D5, .lst vs) :: (E3, .lst vc) :: M) H')
        ⟨G4, [], Same.refl _, rfl, .nil, S4.new nD5⟩ (fun i H' _ h => ?_) (fun i y H' hy h => ⟨rfl, ?_⟩) (fun H' h => ?_)⟩
      · obtain ⟨G', vs, s', _, _, S'⟩ := h
        exact SqL.of (S'.st (s' _ _ hq4))
      · obtain ⟨G', vs, s', vl, pv, S'⟩ := h
        obtain ⟨n, hn, rfl⟩ := nV_get hy
        have i4 : i < W.qs.length := (List.getElem?_eq_some_iff.mp hn).1
        refine ⟨sz, fun t nt => ?_⟩
        obtain ⟨G2, s2, S2, k2⟩ := Sep.mk (o := .tup [.str "again", .int (n : Nat)]) S' nt
        refine ⟨vs, S2.hd, smallL (by omega), G2, vs ++ [.ref t], s'.trans s2, by simp [vl], ?_, S2.set⟩
        rw [List.take_add_one, hn, List.map_append]
        exact prd_app (stps_same s2 pv) (.cons ⟨t, rfl, k2⟩ .nil)
      · obtain ⟨G5, vd, s5, vdl, pd, S5⟩ := h
        rw [List.length_map, List.take_length] at pd
        rw [List.length_map] at vdl
        refine ⟨E3, D5, vc, vd, rfl, rfl, S5.sw.hd, S5.hd, smallS (by omega) (by omega), fun E6 nE6 => ?_⟩
        obtain ⟨G6, s6, S6, k6⟩ := Sep.mk (o := .lst (vc ++ vd)) S5.drop.drop nE6
        have e9 : (toP l).ln.length = l.ln.length := List.length_map _
        refine q E6 (vc ++ vd) G6 _ (s4.trans (s5.trans s6)) k6 ?_ S6
        unfold stepsP
        rw [e9]
        exact prd_app (stps_same (s5.trans s6) pc) (stps_same s6 pd)

/-! ### behind a step -/
theorem cutV_up (xs : List V) (k : Nat) (h : k ≤ xs.length) : cutV xs none (some (k : Int)) = xs.take k := by
  unfold cutV
  rw [HT.sIx_nat, HT.sIx_none, Nat.min_eq_left h, Nat.sub_zero, List.drop_zero]
def spAfter (K : PySem.W.Frag) : Sp := fun vs H Q _ => ∃ (G : Hp) (M : List (Addr × HO)) (W : Wd) (kd : Kd) (sa qa : Addr) (v sv : V) (l : Ls) (s : Stp), vs = [v, sv, .str kd.wd, .ref sa, .int (W.rm : Nat)] ∧ W.lt = kd.lt ∧ Sep G M H ∧ WAt G W sa qa ∧ LsAt K G v l ∧ OkP W (toP l) ∧ StpAt G sv s ∧ StpOk W (toP l) s ∧
  ∀ v' G' H', Same G G' → LsAt K G' v' (aftL W l s) → Sep G' M H' → Q v' H'
theorem ok_after (T : Top K mg w) {k : Nat} (G_sent : FnOk P w K mg base CX0 k T.a_sent T.d_sent ["_law_now", "_law_question", "_law_who", "_law_store", "_law_width"] (spSentL K)) (G_lets : FnOk P w K mg base CX0 k T.a_lets T.d_lets ["_law_word", "_law_own", "_law_same", "_law_last"] spLLets) :
    FnOk P w K mg base CX0 (k + 1) T.a_after T.d_after ["_law_now", "_law_step", "_law_word", "_law_store", "_law_width"] (spAfter K) := by
  refine T.F_after.ok sc_after (fun vs H Q E h => ?_) (fun cdv A outer s H vs Q E hr h => ?_)
  · obtain ⟨G, M, W, kd, sa, qa, v, sv, l, st, rfl, _⟩ := h
    rfl
  · obtain ⟨G, M, W, kd, sa, qa, v, sv, l, st, rfl, ek, S, hw, hl, okp, hs, hok, q⟩ := h
    refine ⟨_, (pss_cons (ps_asg (xv 0) (pg_tupK K 7 (pgs_cons (pg_name (i := 5) sc_after.nd rfl (.inl rfl)) (pgs_cons (pg_name (i := 6) sc_after.nd rfl (.inl rfl)) (pgs_cons (pg_name (i := 7) sc_after.nd rfl (.inl rfl)) (pgs_cons (pg_name (i := 8) sc_after.nd rfl (.inl rfl)) (pgs_cons (pg_name (i := 9) sc_after.nd rfl (.inl rfl)) (pgs_cons (pg_name (i := 10) sc_after.nd rfl (.inl rfl)) (pgs_cons (pg_name (i := 11) sc_after.nd rfl (.inl rfl)) pgs_nil)))))))))
      (pss_cons (xs_if (xt_cmp (op_eqLK K hr.u190) (pe_ix (ix_k K) (xv 1) pe_int (fun _ _ => rfl)) pe_str (nomark _))
      (pss_one (ps_ret (pe_call G_sent (hr.mono (by omega)) (by rfl) T.g_sent T.F_sent.kp T.b_sent .nil pass0 (pa_cons (xv 0) (pa_cons (pe_ix (ix_k K) (xv 1) pe_int (fun _ _ => rfl)) (pa_cons (xv 7) (pa_cons (xv 3) (pa_cons (xv 4) pa_nil))))))))
      pss_nil)
      (pss_cons (xs_if (xt_cmp (op_eqLK K hr.u190) (pe_ix (ix_k K) (xv 1) pe_int (fun _ _ => rfl)) pe_str (nomark _))
      (pss_one (ps_ret (pe_call G_sent (hr.mono (by omega)) (by rfl) T.g_sent T.F_sent.kp T.b_sent .nil pass0 (pa_cons (xv 0) (pa_cons (pe_ix (ix_k K) (xv 1) pe_int (fun _ _ => rfl)) (pa_cons (pe_op op_addY (xv 7) pe_int) (pa_cons (xv 3) (pa_cons (xv 4) pa_nil))))))))
      pss_nil)
      (pss_cons (xs_if (xt_cmp (op_eqLK K hr.u190) (pe_ix (ix_k K) (xv 1) pe_int (fun _ _ => rfl)) pe_str (nomark _))
      (pss_one (ps_ret (pe_tup (pa_cons (pe_op op_addY (xv 5) pe_int) (pa_cons (xv 6) (pa_cons (xv 7) (pa_cons (xv 8) (pa_cons (xv 9) (pa_cons (xv 10) (pa_cons (xv 11) pa_nil))))))))))
      pss_nil)
      (pss_cons (ps_set (i := 12) sc_after.nd rfl (.inl rfl) (pe_ix (ix_k K) (xv 6) (pe_ix (ix_k K) (xv 1) pe_int (fun _ _ => rfl)) (fun _ _ => rfl)))
      (pss_cons (xs_if (xt_truK K (pe_call G_lets (hr.mono (by omega)) (by rfl) T.g_lets T.F_lets.kp T.b_lets .nil pass0 (pa_cons (xv 2) (pa_cons (pe_cmpR (op_eqLK K hr.u190) (pe_ix (ix_k K) (xv 12) pe_int (fun _ _ => rfl)) (xv 7) (nomark _)) (pa_cons (pe_cmpR (op_eqLK K hr.u190) (pe_ix (ix_k K) (xv 12) pe_int (fun _ _ => rfl)) (xv 8) (nomark _)) (pa_cons (pe_cmpR (op_eqLK K hr.u190) (pe_ix (ix_k K) (xv 12) pe_int (fun _ _ => rfl)) (xv 9) (nomark _)) pa_nil))))))
      (pss_one (ps_set (i := 11) sc_after.nd rfl (.inl rfl) (pe_ix (ix_k K) (xv 12) pe_int (fun _ _ => rfl))))
      pss_nil)
      (pss_one (ps_ret (pe_tup (pa_cons (xv 5) (pa_cons (pe_op (op_catAK K) (pe_slice (sl_tupAK K) (xv 6) po_none (po_some (pe_ix (ix_k K) (xv 1) pe_int (fun _ _ => rfl)))) (pe_slice (sl_tupAK K) (xv 6) (po_some (pe_op op_addY (pe_ix (ix_k K) (xv 1) pe_int (fun _ _ => rfl)) pe_int)) po_none)) (pa_cons (xv 7) (pa_cons (xv 8) (pa_cons (xv 9) (pa_cons (xv 10) (pa_cons (xv 11) pa_nil)))))))))))))))), ?_⟩
    obtain ⟨a, ll, ws, rfl, h1, h2, h3⟩ := id hl
    refine ⟨a, _, rfl, SqT.of (S.st h1), rfl, _, _, rfl, _, _, rfl, _, _, rfl, _, _, rfl, _, _, rfl, _, _, rfl, _, _, rfl, rfl, ?_⟩
    have el := prd_len h3
    cases st with
    | ask qn =>
      obtain ⟨b, rfl, hb⟩ := hs
      have hT := SqT.of (K := K) (S.st hb)
      refine ⟨_, _, .inr hT, atI_nat (j := 0) rfl, fun _ => ?_, fun e => absurd e (by decide +kernel)⟩
      refine ⟨_, _, .inr hT, atI_nat (j := 1) rfl, ?_⟩
      exact ⟨G, M, W, sa, qa, _, l, qn, l.who, rfl, S, hw, hl, okp, hw.1.q3 _ hok, q⟩
    | again qn =>
      obtain ⟨b, rfl, hb⟩ := hs
      have hT := SqT.of (K := K) (S.st hb)
      refine ⟨_, _, .inr hT, atI_nat (j := 0) rfl, fun e => absurd e (by decide +kernel), fun _ => ?_⟩
      refine ⟨_, _, .inr hT, atI_nat (j := 0) rfl, fun _ => ?_, fun e => absurd e (by decide +kernel)⟩
      refine ⟨_, _, .inr hT, atI_nat (j := 1) rfl, ?_⟩
      exact ⟨G, M, W, sa, qa, _, l, qn, l.who + 1, rfl, S, hw, hl, okp, hw.1.q3 _ hok, q⟩
    | far =>
      obtain ⟨b, rfl, hb⟩ := hs
      have hT := SqT.of (K := K) (S.st hb)
      refine ⟨_, _, .inr hT, atI_nat (j := 0) rfl, fun e => absurd e (by decide +kernel), fun _ => ?_⟩
      refine ⟨_, _, .inr hT, atI_nat (j := 0) rfl, fun e => absurd e (by decide +kernel), fun _ => ?_⟩
      refine ⟨_, _, .inr hT, atI_nat (j := 0) rfl, fun _ => ?_, fun e => absurd e (by decide +kernel)⟩
      refine ⟨sz, fun t nt => ?_⟩
      obtain ⟨G2, s2, S2, k2⟩ := Sep.mk (o := .tup [.int ((l.ed : Nat) + 1), .ref ll, .int (l.who : Nat), .int (l.la : Nat), .int (l.tk : Nat), .int l.du, .int l.sh]) S nt
      exact q _ G2 _ s2 ⟨t, ll, ws, rfl, k2, same_t s2 h2, prd_imp (fun _ _ => LqAt.same s2) h3⟩ S2
    | land n =>
      obtain ⟨b, rfl, hb⟩ := hs
      have hT := SqT.of (K := K) (S.st hb)
      have hn : n < l.ln.length := by
        have z : n < (l.ln.map (toQ l.who l.tk)).length := hok
        rw [List.length_map] at z
        exact z
      obtain ⟨x, hx, c, rfl, hc⟩ := prd_back h3 (List.getElem?_eq_getElem hn)
      have hC := SqT.of (K := K) (S.st hc)
      have l3 : l.ln.length ≤ 3 := by
        have z : (l.ln.map (toQ l.who l.tk)).length ≤ W.rm := okp.2.1
        rw [List.length_map] at z
        have := hw.1.rm.2
        omega
      refine ⟨_, _, .inr hT, atI_nat (j := 0) rfl, fun e => absurd e (by decide +kernel), fun _ => ?_⟩
      refine ⟨_, _, .inr hT, atI_nat (j := 0) rfl, fun e => absurd e (by decide +kernel), fun _ => ?_⟩
      refine ⟨_, _, .inr hT, atI_nat (j := 0) rfl, fun e => absurd e (by decide +kernel), fun _ => ?_⟩
      refine ⟨_, _, .inr hT, atI_nat (j := 1) rfl, _, _, .inr (S.t h2), atI_nat hx, ?_⟩
      refine ⟨_, _, .inr hC, atI_nat (j := 0) rfl, _, _, .inr hC, atI_nat (j := 2) rfl, _, _, .inr hC, atI_nat (j := 1) rfl, ?_⟩
      refine ⟨kd, _, _, _, rfl, ?_⟩
      have fin : ∀ sh : Int, sh = (if W.lt (decide ((l.ln[n]).who = l.who)) (decide ((l.ln[n]).qu = l.la)) (decide ((l.ln[n]).tk = l.tk)) then (l.ln[n]).an else l.sh) → ∀ c' G' H' vs', Same G G' → SqT K G' c' vs' → vs' = ws.take n ++ ws.drop (n + 1) → Sep G' M H' → ∀ t, H' t = none →
          Q (.ref t) (upd H' t (.tup [.int (l.ed : Nat), .ref c', .int (l.who : Nat), .int (l.la : Nat), .int (l.tk : Nat), .int l.du, .int sh])) := fun sh esh c' G' H' vs' s' hc' ev S' t nt => by
        obtain ⟨G2, s2, S2, k2⟩ := Sep.mk (o := .tup [.int (l.ed : Nat), .ref c', .int (l.who : Nat), .int (l.la : Nat), .int (l.tk : Nat), .int l.du, .int sh]) S' nt
        refine q _ G2 _ (s'.trans s2) ?_ S2
        have e0 : aftL W l (.land n) = ⟨l.ed, l.ln.take n ++ l.ln.drop (n + 1), l.who, l.la, l.tk, l.du, sh⟩ := by
          show (match l.ln[n]? with | some e => _ | none => l) = _
          rw [List.getElem?_eq_getElem hn, esh]
        rw [e0]
        refine ⟨t, c', vs', rfl, k2, same_t s2 hc', ?_⟩
        rw [ev]
        exact prd_app (prd_take n (prd_imp (fun _ _ => LqAt.same (s'.trans s2)) h3)) (prd_drop (n + 1) (prd_imp (fun _ _ => LqAt.same (s'.trans s2)) h3))
      have ez : kd.lt (decide (((l.ln[n]).who : Int) = (l.who : Nat))) (decide (((l.ln[n]).qu : Int) = (l.la : Nat))) (decide (((l.ln[n]).tk : Int) = (l.tk : Nat))) = W.lt (decide ((l.ln[n]).who = l.who)) (decide ((l.ln[n]).qu = l.la)) (decide ((l.ln[n]).tk = l.tk)) := by
        rw [ek]
        simp only [Int.natCast_inj]
      have wl : ws.length ≤ 3 := by omega
      have two : ∀ x y : Option Int, (cutV ws none x).length + (cutV ws y none).length ≤ sizeLine := fun x y => by
        have a1 := cutV_length ws none x
        have a2 := cutV_length ws y none
        rw [sizeLine_eq]
        omega
      refine ⟨fun e1 => ?_, fun e1 => ?_⟩
      · have e1 := ez.symm.trans e1
        refine ⟨_, _, .inr hC, atI_nat (j := 3) rfl, ?_⟩
        refine ⟨_, _, .inr hT, atI_nat (j := 1) rfl, n, rfl, ?_⟩
        refine cutA_ok S h2 fun c1 G1 H1 s1 hc1 S1 => ?_
        refine ⟨_, _, .inr (SqT.of (S1.st (s1 _ _ hb))), atI_nat (j := 1) rfl, ((n : Nat) : Int) + 1, rfl, ?_⟩
        unfold tNoPart
        refine cutA_ok S1 (same_t s1 h2) fun c2 G2 H2 s2 hc2 S2 => ?_
        refine cat_ok S2 (same_t s2 hc1) hc2 (two _ _) fun c3 G3 H3 s3 hc3 S3 => ?_
        have e2 : cutV ws none (some (n : Int)) = ws.take n := cutV_up ws n (by omega)
        have e3 : cutV ws (some ((n : Int) + 1)) none = ws.drop (n + 1) := cutV_from ws (n + 1) (by omega)
        rw [e2, e3] at hc3
        exact ⟨sz, fun t nt => fin _ (by rw [if_pos e1]) c3 G3 H3 _ (s1.trans (s2.trans s3)) hc3 rfl S3 t nt⟩
      · have e1 := ez.symm.trans e1
        refine ⟨_, _, .inr hT, atI_nat (j := 1) rfl, n, rfl, ?_⟩
        refine cutA_ok S h2 fun c1 G1 H1 s1 hc1 S1 => ?_
        refine ⟨_, _, .inr (SqT.of (S1.st (s1 _ _ hb))), atI_nat (j := 1) rfl, ((n : Nat) : Int) + 1, rfl, ?_⟩
        unfold tNoPart
        refine cutA_ok S1 (same_t s1 h2) fun c2 G2 H2 s2 hc2 S2 => ?_
        refine cat_ok S2 (same_t s2 hc1) hc2 (two _ _) fun c3 G3 H3 s3 hc3 S3 => ?_
        have e2 : cutV ws none (some (n : Int)) = ws.take n := cutV_up ws n (by omega)
        have e3 : cutV ws (some ((n : Int) + 1)) none = ws.drop (n + 1) := cutV_from ws (n + 1) (by omega)
        rw [e2, e3] at hc3
        exact ⟨sz, fun t nt => fin _ (by rw [if_neg (by rw [e1]; decide)]) c3 G3 H3 _ (s1.trans (s2.trans s3)) hc3 rfl S3 t nt⟩

end
end K48
set_option Elab.async false
set_option linter.all false
set_option maxRecDepth 100000
set_option maxHeartbeats 4000000
namespace K48
open PySem PySem.Spec PyProof.Rows L2 XL
section
variable {P : Program} {w : World} {K : PySem.W.Frag} {mg : Str → Option Value} {base : Heap}
theorem le25 (T : Top K mg w) (k1 k2 : Kd) : LeOk K (kc T k1) (kc T k2) := by
  cases k1 <;> cases k2
  · exact T.le_Fence_Fence
  · exact T.le_Fence_Own
  · exact T.le_Fence_Same
  · exact T.le_Fence_Both
  · exact T.le_Fence_Last
  · exact T.le_Own_Fence
  · exact T.le_Own_Own
  · exact T.le_Own_Same
  · exact T.le_Own_Both
  · exact T.le_Own_Last
  · exact T.le_Same_Fence
  · exact T.le_Same_Own
  · exact T.le_Same_Same
  · exact T.le_Same_Both
  · exact T.le_Same_Last
  · exact T.le_Both_Fence
  · exact T.le_Both_Own
  · exact T.le_Both_Same
  · exact T.le_Both_Both
  · exact T.le_Both_Last
  · exact T.le_Last_Fence
  · exact T.le_Last_Own
  · exact T.le_Last_Same
  · exact T.le_Last_Both
  · exact T.le_Last_Last
theorem ile (T : Top K mg w) (k : Kd) : PySem.W.findIn K (.ref (kc T k)) "__le__" = some (some (.ref T.a_Fence_le)) := by
  cases k
  · exact T.sp_Fence_le.1
  · exact T.ih_Own_le
  · exact T.ih_Same_le
  · exact T.ih_Both_le
  · exact T.ih_Last_le

/-! ### weakest -/
def Rs.isL : Rs → Bool
  | .none => false
  | _ => true
def enoughL (late : Kd → Bool) : List Kd := [.a, .o, .s, .b, .l].filter fun k => !late k
def weaker (late : Kd → Bool) (k : Kd) : List Kd := (enoughL late).filter fun o => !decide (o.wd = k.wd) && leK k o
def weakL (late : Kd → Bool) : List Kd := (enoughL late).filter fun k => decide ((weaker late k).length = 0)
theorem flt_step {α : Type} (p : α → Bool) {l : List α} {i : Nat} {x : α} (h : l[i]? = some x) : (l.take (i + 1)).filter p = (l.take i).filter p ++ (if p x = true then [x] else []) := by
  rw [List.take_add_one, h, List.filter_append]
  by_cases c : p x = true
  · rw [if_pos c]
    show _ ++ [x].filter p = _
    rw [List.filter_cons, if_pos c]
    rfl
  · rw [if_neg c]
    show _ ++ [x].filter p = _
    rw [List.filter_cons, if_neg c]
    rfl
theorem kdv_get {l : List Kd} {i : Nat} {x : V} (h : (l.map fun k => V.str k.wd)[i]? = some x) : ∃ k, l[i]? = some k ∧ x = .str k.wd := by
  rw [List.getElem?_map] at h
  obtain ⟨n, h1, h2⟩ := Option.map_eq_some_iff.mp h
  exact ⟨n, h1, h2.symm⟩
theorem enough_len (late : Kd → Bool) : (enoughL late).length ≤ 5 := List.length_filter_le _ _
def datW (l : List Kd) : PyData := .list (l.map fun k => .str k.wd)
theorem wd_lay (k : Kd) : PyData.canLay0 (.str k.wd) = true := by cases k <;> decide +kernel
theorem datW_lay (l : List Kd) : (datW l).canLay0 = true ∧ (datW l).depth ≤ 190 := by
  refine ⟨?_, ?_⟩
  · simp only [datW, PyData.canLay0]
    exact layAll fun d hd => by
      obtain ⟨k, _, rfl⟩ := List.mem_map.mp hd
      exact wd_lay k
  · have := depthAll_le (n := 2) (xs := l.map fun k : Kd => PyData.str k.wd) fun d hd => by
      obtain ⟨k, _, rfl⟩ := List.mem_map.mp hd
      simp only [PyData.depth]
      omega
    simp only [datW, PyData.depth]
    omega
theorem dp_words {K : PySem.W.Frag} {G : Hp} : ∀ l : List Kd, DpAll K G (l.map fun k => V.str k.wd) (l.map fun k => PyData.str k.wd)
  | [] => .nil
  | k :: l => .cons (.str _) (dp_words l)
def spWeakest (K : PySem.W.Frag) : Sp := fun vs H Q _ => ∃ (G : Hp) (M : List (Addr × HO)) (st : List (List Int)) (rm : Nat) (qs : List Nat) (sa qa : Addr) (R : Kd → Rs), vs = [.ref sa, .int (rm : Nat), .ref qa] ∧ Sep G M H ∧ (∀ lt, WAt G ⟨st, rm, qs, lt⟩ sa qa) ∧ (∀ lt, OkA ⟨st, rm, qs, lt⟩) ∧
  (∀ k : Kd, R k ≠ .many ∧ ∃ N, bfsN ⟨st, rm, qs, k.lt⟩ N [(startP ⟨st, rm, qs, k.lt⟩, [])] [(startP ⟨st, rm, qs, k.lt⟩, [])] = R k) ∧
  ∀ t G' H', Same G G' → G' t = some (.tup ((weakL fun k => (R k).isL).map fun k => V.str k.wd)) → Sep G' M H' → Q (.ref t) H'
theorem ok_weakest (T : Top K mg w) {k : Nat} (G_late_row : FnOk P w K mg base CX0 k T.a_late_row T.d_late_row ["word", "far", "room", "questions"] (spLateRowN K)) (G_fence_of : FnOk P w K mg base CX0 k T.a_fence_of T.d_fence_of ["word"] (spFenceG (kc T))) (G_Fence_le : FnOk P w K mg base CX0 k T.a_Fence_le T.d_Fence_le ["self", "other"] (spLe (kc T))) :
    FnOk P w K mg base CX0 (k + 1) T.a_weakest T.d_weakest ["far", "room", "questions"] (spWeakest K) := by
  refine T.F_weakest.ok sc_weakest (fun vs H Q E h => ?_) (fun cdv A outer s H vs Q E hr h => ?_)
  · obtain ⟨G, M, st, rm, qs, sa, qa, R, rfl, _⟩ := h
    rfl
  · obtain ⟨G, M, st, rm, qs, sa, qa, R, rfl, S, hw, wa, hR, q⟩ := h
    refine ⟨_, (pss_cons (ps_setLc (i := 4) (own := [("word", 3)]) (by rfl) sc_weakest.nd rfl rfl (sw_true rfl rfl rfl (by decide +kernel)) (pi_tupK K (pe_glob (v := .ref T.U_FENCES) (by rfl) T.g_FENCES rfl)) (blkOk_by (N := ["far", "room", "questions", "word", "enough", "found", "weaker", "other"]) (sc := defScope s_weakest) (by decide +kernel)) (fun _ _ _ _ _ => (pg_name (i := 3) sc_weakest.nd rfl (.inl rfl))) (fun _ _ _ _ _ => (pts_one (xt_cmp op_isN (pe_call G_late_row (hr.mono (by omega)) (by rfl) T.g_late_row T.F_late_row.kp T.b_late_row .nil pass0 (pa_cons (xv 3) (pa_cons (xv 0) (pa_cons (xv 1) (pa_cons (xv 2) pa_nil))))) pe_non (nomark _)))) (fun _ _ _ _ _ => (xv 3)))
      (pss_cons (ps_set (i := 5) sc_weakest.nd rfl (.inl rfl) (pe_lst pa_nil))
      (pss_cons (ps_for PassesOwn.never rfl (pi_listK K (xv 4)) (pg_name (i := 3) sc_weakest.nd rfl (.inr rfl))
      (pss_cons (ps_setLc (i := 6) (own := [("other", 7)]) (by rfl) sc_weakest.nd rfl rfl (sw_true rfl rfl rfl (by decide +kernel)) (pi_listK K (xv 4)) (blkOk_by (N := ["far", "room", "questions", "word", "enough", "found", "weaker", "other"]) (sc := defScope s_weakest) (by decide +kernel)) (fun _ _ _ _ _ => (pg_name (i := 7) sc_weakest.nd rfl (.inl rfl))) (fun _ _ _ _ _ => (pts_one (PW.pt (xw_and (xt_cmp (op_neLK K hr.u190) (xv 7) (xv 3) (nomark _)) (pw_and1 (xt_cmp (op_leO K G_Fence_le T.sp_Fence_le.2 T.b_Fence_le pass0 (hr.mono (by omega))) (pe_call G_fence_of (hr.mono (by omega)) (by rfl) T.g_fence_of T.F_fence_of.kp T.b_fence_of .nil pass0 (pa_cons (xv 3) pa_nil)) (pe_call G_fence_of (hr.mono (by omega)) (by rfl) T.g_fence_of T.F_fence_of.kp T.b_fence_of .nil pass0 (pa_cons (xv 7) pa_nil)) (nomark _))))))) (fun _ _ _ _ _ => (xv 7)))
      (pss_one (xs_if (xt_cmp (op_eqLK K hr.u190) (xv 6) (pe_lst pa_nil) (nomark _))
      (pss_one (ps_expr (pe_bmK K PySem.F.plainAttrs_list PySem.F.slot_list_append PySem.F.type_list_append mt_append (xv 5) (pa_cons (xv 3) pa_nil))))
      pss_nil))))
      (pss_one (ps_ret (pe_callTy (call_tupleK K) (by rfl) T.m_tuple (by decide +kernel) (pa_cons (xv 5) pa_nil))))))), ?_⟩
    let late : Kd → Bool := fun k => (R k).isL
    refine ⟨T.U_FENCES, rfl, ⟨_, T.sq_FENCES _⟩, fun D nD => lc_tup (xs := ([.a, .o, .s, .b, .l] : List Kd).map fun k => V.str k.wd) (fun i H' => ∃ G' : Hp, Same G G' ∧ Sep G' ((D, .lst (((([.a, .o, .s, .b, .l] : List Kd).take i).filter fun k => !late k).map fun k => V.str k.wd)) :: M) H')
      ⟨G, Same.refl _, S.new nD⟩ (fun i H' _ h => T.sq_FENCES _) (fun i y H' hy h => ⟨rfl, ?_⟩) (fun H' h => ?_)⟩
    · obtain ⟨G', s', S'⟩ := h
      obtain ⟨kd, hk, rfl⟩ := kdv_get hy
      obtain ⟨nm, hN⟩ := hR kd
      refine ⟨G', _, ⟨st, rm, qs, kd.lt⟩, kd, sa, qa, R kd, rfl, rfl, S', (hw kd.lt).same s', wa _, nm, hN, fun v G2 H2 s2 hv S2 => ⟨rfl, ?_⟩⟩
      have ev : decide (v = V.non) = !late kd := by
        show decide (v = V.non) = !(R kd).isL
        cases e : R kd with
        | many => exact absurd e nm
        | none =>
          rw [e] at hv
          have hv : v = .non := hv
          rw [hv]
          exact decide_eq_true rfl
        | late r =>
          rw [e] at hv
          obtain ⟨a, _, rfl, _⟩ := hv
          exact decide_eq_false fun z => by cases z
      have fs := flt_step (fun k => !late k) hk
      refine tst (fun e1 => ?_) (fun e1 => ?_)
      · have e1 := ev.symm.trans e1
        refine ⟨_, S2.hd, smallL ?_, G2, s'.trans s2, ?_⟩
        · rw [List.length_map]
          have := List.length_filter_le (fun k => !late k) (([.a, .o, .s, .b, .l] : List Kd).take i)
          have h2 : (([.a, .o, .s, .b, .l] : List Kd).take i).length ≤ 5 := by rw [List.length_take]; exact Nat.min_le_right _ _
          omega
        · rw [fs, if_pos e1, List.map_append]
          exact S2.set
      · have e1 := ev.symm.trans e1
        refine ⟨G2, s'.trans s2, ?_⟩
        rw [fs, if_neg (by rw [e1]; decide), List.append_nil]
        exact S2
    · obtain ⟨G1, s1, S1⟩ := h
      have S1 : Sep G1 ((D, .lst ((enoughL late).map fun k => V.str k.wd)) :: M) H' := S1
      obtain ⟨G2, s2, S2, k2⟩ := Sep.keep S1
      refine ⟨sz, fun F nF => ?_⟩
      have S3 := S2.new (o := .lst []) nF
      let wk : Kd → Bool := fun k => decide ((weaker late k).length = 0)
      have e5 := enough_len late
      have fl : ∀ (p : Kd → Bool) (n : Nat), (((enoughL late).take n).filter p).length ≤ 5 := fun p n => by
        have := List.length_filter_le p ((enoughL late).take n)
        have h2 : ((enoughL late).take n).length ≤ (enoughL late).length := by rw [List.length_take]; exact Nat.min_le_right _ _
        omega
      refine ⟨D, rfl, ⟨_, SqL.of (S3.st k2)⟩, for_list (xs := (enoughL late).map fun k => V.str k.wd) (fun i σ H' => ∃ (y3 y6 : Option V) (G' : Hp), σ = [some (.ref sa), some (.int (rm : Nat)), some (.ref qa), y3, some (.ref D), some (.ref F), y6, none] ∧ Same G2 G' ∧ Sep G' ((F, .lst ((((enoughL late).take i).filter wk).map fun k => V.str k.wd)) :: M) H')
        ⟨_, _, G2, rfl, Same.refl _, S3⟩ (fun i σ H' _ h => ?_) (fun i y σ H' hy h => ?_) (fun σ H' h => ?_)⟩
      · obtain ⟨_, _, G', _, s', S'⟩ := h
        exact SqL.of (S'.st (s' _ _ k2))
      · obtain ⟨y3, y6, G3, rfl, s3, S4⟩ := h
        obtain ⟨kd, hk, rfl⟩ := kdv_get hy
        have hD3 := s3 _ _ k2
        let pw : Kd → Bool := fun o => !decide (o.wd = kd.wd) && leK kd o
        refine ⟨D, rfl, ⟨_, SqL.of (S4.st hD3)⟩, fun Wl nW => lc_list (xs := (enoughL late).map fun k => V.str k.wd) (fun j H' => ∃ G' : Hp, Same G3 G' ∧ Sep G' ((Wl, .lst ((((enoughL late).take j).filter pw).map fun k => V.str k.wd)) :: (F, .lst ((((enoughL late).take i).filter wk).map fun k => V.str k.wd)) :: M) H')
          ⟨G3, Same.refl _, S4.new nW⟩ (fun j H' _ h => ?_) (fun j y H' hy h => ⟨rfl, ?_⟩) (fun H' h => ?_)⟩
        · obtain ⟨G', s', S'⟩ := h
          exact SqL.of (S'.st (s' _ _ hD3))
        · obtain ⟨G', s', S'⟩ := h
          obtain ⟨o, ho, rfl⟩ := kdv_get hy
          have fs := flt_step pw ho
          refine ⟨fun e1 => ?_, fun e1 => tst ff (fun _ => ?_)⟩
          · have e1 : (!decide (o.wd = kd.wd)) = true := e1
            refine ⟨G', _, kd, rfl, S', fun v1 G4 H4 s4 hf1 S5 => ?_⟩
            refine ⟨G4, _, o, rfl, S5, fun v2 G5 H5 s5 hf2 S6 => ?_⟩
            obtain ⟨x1, dx1, rfl, hx1⟩ := id (hf1.same s5)
            obtain ⟨x2, dx2, rfl, hx2⟩ := id hf2
            refine ⟨x1, x2, kc T kd, kc T o, dx1, dx2, [], [], rfl, rfl, S6.st hx1, S6.st hx2, ile T kd, le25 T kd o, ?_⟩
            refine ⟨G5, _, _, _, kd, o, rfl, S6, hf1.same s5, hf2, fun G6 H6 s6 S7 => ?_⟩
            have s36 := s'.trans (s4.trans (s5.trans s6))
            refine tst (fun e2 => ?_) (fun e2 => ?_)
            · have e2 : leK kd o = true := e2
              refine ⟨_, S7.hd, smallL (by rw [List.length_map]; have := fl pw j; omega), G6, s36, ?_⟩
              rw [fs, if_pos (show (!decide (o.wd = kd.wd) && leK kd o) = true by rw [e1, e2]; rfl), List.map_append]
              exact S7.set
            · have e2 : leK kd o = false := e2
              refine ⟨G6, s36, ?_⟩
              rw [fs, if_neg (show ¬ (!decide (o.wd = kd.wd) && leK kd o) = true by rw [e2, Bool.and_false]; decide), List.append_nil]
              exact S7
          · have e1 : (!decide (o.wd = kd.wd)) = false := e1
            refine ⟨G', s', ?_⟩
            rw [fs, if_neg (show ¬ (!decide (o.wd = kd.wd) && leK kd o) = true by rw [e1, Bool.false_and]; decide), List.append_nil]
            exact S'
        · obtain ⟨G4, s4, S5⟩ := h
          rw [List.length_map, List.take_length] at S5
          have S5 : Sep G4 ((Wl, .lst ((weaker late kd).map fun k => V.str k.wd)) :: (F, .lst ((((enoughL late).take i).filter wk).map fun k => V.str k.wd)) :: M) H' := S5
          refine ⟨sz, fun N nN => ?_⟩
          obtain ⟨G6, s6, S6, k6⟩ := Sep.mk (o := .lst []) S5 nN
          have lay := datW_lay (weaker late kd)
          refine ⟨datW (weaker late kd), .list [], .lst (SqL.of S6.hd) (dp_words _), .lst (SqL.of (S6.st k6)) .nil, lay.1, rfl, lay.2, ?_⟩
          have ee : PyData.eqv (datW (weaker late kd)) (.list []) = decide ((weaker late kd).length = 0) := by
            unfold datW
            rw [eqv_nil, List.length_map]
          rw [ee]
          have fs := flt_step wk hk
          have s36 := s3.trans (s4.trans s6)
          refine ⟨fun e1 => ?_, fun e1 => ?_⟩
          · have e1 : wk kd = true := e1
            have S7 := S6.drop
            refine ⟨.inl ⟨rfl, _, SqL.of S7.hd⟩, F, _, _, rfl, rfl, S7.hd, smallL (by rw [List.length_map]; have := fl wk i; omega), ?_⟩
            refine ⟨_, _, G6, rfl, s36, ?_⟩
            rw [fs, if_pos e1, List.map_append]
            exact S7.set
          · have e1 : wk kd = false := e1
            refine ⟨_, _, G6, rfl, s36, ?_⟩
            rw [fs, if_neg (by rw [e1]; decide), List.append_nil]
            exact S6.drop
      · obtain ⟨y3, y6, G3, rfl, s3, S4⟩ := h
        rw [List.length_map, List.take_length] at S4
        refine ⟨F, _, rfl, .inl ⟨SqL.of S4.hd, fun t nt => ?_⟩⟩
        obtain ⟨G5, s5, S5, k5⟩ := Sep.mk (o := .tup (((enoughL late).filter wk).map fun k => V.str k.wd)) S4 nt
        exact q t G5 _ (s1.trans (s2.trans (s3.trans s5))) k5 S5.drop

end
end K48
set_option Elab.async false
set_option linter.all false
set_option maxRecDepth 100000
set_option maxHeartbeats 4000000
namespace K48
open PySem PySem.Spec PyProof.Rows L2 XL
/-! ### the law's stands, without what they show -/
def QtAt (K : PySem.W.Frag) (G : Hp) (v : V) (p : Pt) : Prop := p.sh = 0 ∧ ∃ a l ws, v = .ref a ∧ G a = some (.tup [.int (p.ed : Nat), .ref l, .int (p.la : Nat), .int p.du]) ∧ SqT K G l ws ∧ Paired (OqB G) ws p.ln
theorem QtAt.same {K : PySem.W.Frag} {G G' : Hp} {v : V} {p : Pt} (e : Same G G') (h : QtAt K G v p) : QtAt K G' v p := let ⟨h0, a, l, ws, h1, h2, h3, h4⟩ := h; ⟨h0, a, l, ws, h1, e _ _ h2, same_t e h3, prd_imp (fun _ _ => OqB.same e) h4⟩

/-! ### the law's stands as keys -/
def key4 (p : Pt) : PyData := .tuple [.int (p.ed : Nat), .tuple (p.ln.map (keyO zL)), .int (p.la : Nat), .int p.du]
theorem key4_inj {p q : Pt} (hp : p.sh = 0) (hq : q.sh = 0) (h : key4 p = key4 q) : p = q := by
  simp only [key4, PyData.tuple.injEq, List.cons.injEq, PyData.int.injEq, and_true, Int.natCast_inj] at h
  obtain ⟨h1, h2, h3, h4⟩ := h
  have h2 := (List.map_inj_right (fun _ _ e => keyO_inj zL_inj e)).mp h2
  have h5 : p.sh = q.sh := hp.trans hq.symm
  cases p with
  | mk pe pl pa pd ps =>
    cases q with
    | mk qe ql qa qd qs =>
      have e1 : pe = qe := h1
      have e2 : pl = ql := h2
      have e3 : pa = qa := h3
      have e4 : pd = qd := h4
      have e5 : ps = qs := h5
      rw [e1, e2, e3, e4, e5]
theorem key_q {K : PySem.W.Frag} {G : Hp} {a : Addr} {p : Pt} (h : QtAt K G (.ref a) p) : KeyV K G a (key4 p) := by
  obtain ⟨_, b, l, ws, e, h1, h2, h3⟩ := h
  cases e
  have dO : ∀ v e, OqB G v e → Dp K G v (datO e) := fun v e h => by
    obtain ⟨b, rfl, hb⟩ := h
    exact .tup (SqT.of hb) (.cons (.bl _) (.cons (.bl _) (.cons (.int _) (.cons (.int _) .nil))))
  refine ⟨.tuple [.int (p.ed : Nat), .tuple (p.ln.map datO), .int (p.la : Nat), .int p.du], .tup (SqT.of h1) (.cons (.int _) (.cons (.tup h2 (dpa_map (F := OqB G) (g := datO) dO h3)) (.cons (.int _) (.cons (.int _) .nil)))), ?_, ?_, ?_⟩
  · have d1 : keyDs (p.ln.map datO) = true := keyDs_all fun d hd => by
      obtain ⟨e, _, rfl⟩ := List.mem_map.mp hd
      simp [datO, keyD, keyDs]
    simp [keyD, keyDs, d1]
  · have d2 : PyData.depthAll (p.ln.map datO) ≤ 2 := depthAll_le fun d hd => by
      obtain ⟨e, _, rfl⟩ := List.mem_map.mp hd
      simp only [datO, PyData.depth, PyData.depthAll]
      omega
    simp only [PyData.depth, PyData.depthAll]
    omega
  · have d3 : (p.ln.map datO).map nrm = p.ln.map (keyO zL) := by
      rw [List.map_map]
      exact List.map_congr_left fun e _ => by
        show nrm (datO e) = keyO zL e
        cases e with
        | mk o l q a => cases o <;> cases l <;> simp [datO, nrm, nrms, keyO, zL]
    simp only [key4, nrm, nrms, nrms_map, d3]
def RwQ (kv : PyData × V) (x : Pt × List Stp) : Prop := kv.1 = key4 x.1 ∧ x.1.sh = 0
theorem kn_val4 {p : Pt} (hp : p.sh = 0) : ∀ {kvs : List (PyData × V)} {kn : List (Pt × List Stp)}, Paired RwQ kvs kn → (valV kvs (key4 p)).isSome = knows kn p
  | _, _, .nil => rfl
  | _, _, @Paired.cons _ _ _ kv x kvs kn h t => by
    have ih := kn_val4 hp t
    show (valV (kv :: kvs) (key4 p)).isSome = (decide (x.1 = p) || knows kn p)
    by_cases e : x.1 = p
    · rw [valV_pos (h.1.trans (by rw [e])), decide_eq_true e]
      rfl
    · rw [valV_neg (fun c => e (key4_inj h.2 hp (h.1.symm.trans c))), decide_eq_false e, Bool.false_or]
      exact ih
def TabQ (K : PySem.W.Frag) (w : World) (G : Hp) (D : Addr) (o : HO) (kn : List (Pt × List Stp)) : Prop := ∃ kvs, DD K w G D o kvs ∧ Paired RwQ kvs kn
theorem TabQ.same {K : PySem.W.Frag} {w : World} {G G' : Hp} {D : Addr} {o : HO} {kn : List (Pt × List Stp)} (e : Same G G') (h : TabQ K w G D o kn) : TabQ K w G' D o kn := let ⟨kvs, h1, h2⟩ := h; ⟨kvs, h1.same e, h2⟩
abbrev LQ (K : PySem.W.Frag) (G : Hp) : List V → List (Pt × List Stp) → Prop := Paired fun v x => QtAt K G v x.1
theorem lq_same {K : PySem.W.Frag} {G G' : Hp} {ws : List V} {lv : List (Pt × List Stp)} (e : Same G G') (h : LQ K G ws lv) : LQ K G' ws lv := prd_imp (fun _ _ => QtAt.same e) h
theorem late_sh0 {p : Pt} (h : p.sh = 0) : lateP p = false := by
  unfold lateP
  rw [h]
  rfl

section
variable {P : Program} {w : World} {K : PySem.W.Frag} {mg : Str → Option Value} {base : Heap}
/-! ### a stand without what it shows -/
theorem flat_len (l : Ls) : (flat (toP l)).ln.length = l.ln.length := List.length_map _
def spOpen (K : PySem.W.Frag) : Sp := fun vs H Q _ => ∃ (G : Hp) (M : List (Addr × HO)) (v : V) (l : Ls), vs = [v] ∧ Sep G M H ∧ LsAt K G v l ∧ l.ln.length ≤ 3 ∧ ∀ b G' H', Same G G' → KeyV K G' b (key4 (flat (toP l))) → Sep G' M H' → Q (.ref b) H'
theorem ok_open (T : Top K mg w) {k : Nat} : FnOk P w K mg base CX0 (k + 1) T.a_open T.d_open ["_law_now"] (spOpen K) := by
  refine T.F_open.ok sc_open (fun vs H Q E h => ?_) (fun cdv A outer s H vs Q E hr h => ?_)
  · obtain ⟨G, M, v, l, rfl, _⟩ := h
    rfl
  · obtain ⟨G, M, v, l, rfl, S, hl, l3, q⟩ := h
    refine ⟨_, (pss_cons (ps_asg (xv 0) (pg_tupK K 7 (pgs_cons (pg_name (i := 1) sc_open.nd rfl (.inl rfl)) (pgs_cons (pg_name (i := 2) sc_open.nd rfl (.inl rfl)) (pgs_cons (pg_name (i := 3) sc_open.nd rfl (.inr rfl)) (pgs_cons (pg_name (i := 4) sc_open.nd rfl (.inl rfl)) (pgs_cons (pg_name (i := 5) sc_open.nd rfl (.inr rfl)) (pgs_cons (pg_name (i := 6) sc_open.nd rfl (.inl rfl)) (pgs_cons (pg_name (i := 7) sc_open.nd rfl (.inl rfl)) pgs_nil)))))))))
      (pss_cons (ps_set (i := 8) sc_open.nd rfl (.inl rfl) (pe_callTy (call_tupleK K) (by rfl) T.m_tuple (by decide +kernel) (pa_cons (pe_lc (own := [("_law_one", 9)]) (by rfl) sc_open.nd (pi_tupK K (xv 2)) (blkOk_by (N := ["_law_now", "_law_edition_here", "_law_line", "_law_who", "_law_question", "_law_ticket", "_law_answer", "_law_shown", "_law_told", "_law_one"]) (sc := defScope s_open) (by decide +kernel)) (fun _ _ _ _ _ => (pg_name (i := 9) sc_open.nd rfl (.inl rfl))) (fun _ _ _ _ _ => pts_nil) (fun _ _ _ _ _ => (pe_tup (pa_cons (pe_cmpR (op_eqLK K hr.u190) (pe_ix (ix_k K) (xv 9) pe_int (fun _ _ => rfl)) (xv 3) (nomark _)) (pa_cons (pe_cmpR (op_eqLK K hr.u190) (pe_ix (ix_k K) (xv 9) pe_int (fun _ _ => rfl)) (xv 5) (nomark _)) (pa_cons (pe_ix (ix_k K) (xv 9) pe_int (fun _ _ => rfl)) (pa_cons (pe_ix (ix_k K) (xv 9) pe_int (fun _ _ => rfl)) pa_nil))))))) pa_nil)))
      (pss_one (ps_ret (pe_tup (pa_cons (xv 1) (pa_cons (xv 8) (pa_cons (xv 4) (pa_cons (xv 6) pa_nil))))))))), ?_⟩
    obtain ⟨a, ll, ws, rfl, h1, h2, h3⟩ := hl
    refine ⟨a, _, rfl, SqT.of (S.st h1), rfl, _, _, rfl, _, _, rfl, _, _, rfl, _, _, rfl, _, _, rfl, _, _, rfl, _, _, rfl, rfl, ?_⟩
    have el := prd_len h3
    refine ⟨ll, rfl, ⟨_, S.t h2⟩, fun D nD => lc_tup (xs := ws) (fun i H' => ∃ (G' : Hp) (vs : List V), Same G G' ∧ vs.length = i ∧ Paired (OqB G') vs ((l.ln.map (toQ l.who l.tk)).take i) ∧ Sep G' ((D, .lst vs) :: M) H')
      ⟨G, [], Same.refl _, rfl, .nil, S.new nD⟩ (fun i H' _ h => ?_) (fun i y H' hy h => ⟨rfl, ?_⟩) (fun H' h => ?_)⟩
    · obtain ⟨G', vs, s', _, _, S'⟩ := h
      exact S'.t (same_t s' h2)
    · obtain ⟨G', vs, s', vl, pv, S'⟩ := h
      obtain ⟨e, he, b, rfl, hb⟩ := prd_get h3 hy
      have hT := SqT.of (K := K) (S'.st (s' _ _ hb))
      refine ⟨_, _, .inr hT, atI_nat (j := 0) rfl, _, _, .inr hT, atI_nat (j := 1) rfl, _, _, .inr hT, atI_nat (j := 2) rfl, _, _, .inr hT, atI_nat (j := 3) rfl, sz, fun t nt => ?_⟩
      obtain ⟨G2, s2, S2, k2⟩ := Sep.mk (o := .tup [.bl (decide ((e.who : Int) = (l.who : Nat))), .bl (decide ((e.tk : Int) = (l.tk : Nat))), .int (e.qu : Nat), .int e.an]) S' nt
      have i3 : i < ws.length := (List.getElem?_eq_some_iff.mp hy).1
      refine ⟨vs, S2.hd, smallL (by omega), G2, vs ++ [.ref t], s'.trans s2, by simp [vl], ?_, S2.set⟩
      rw [List.take_add_one, List.getElem?_map, he]
      refine prd_app (prd_imp (fun _ _ => OqB.same s2) pv) (.cons ⟨t, rfl, ?_⟩ .nil)
      rw [k2]
      simp [toQ]
      exact ⟨Int.natCast_inj, Int.natCast_inj⟩
    · obtain ⟨G', vs, s', vl, pv, S'⟩ := h
      rw [el, ← List.length_map (f := toQ l.who l.tk), List.take_length] at pv
      refine ⟨D, vs, rfl, .inl ⟨SqL.of S'.hd, fun p np => ?_⟩⟩
      obtain ⟨G2, s2, S2, k2⟩ := Sep.mk (o := .tup vs) S' np
      refine ⟨sz, fun t nt => ?_⟩
      obtain ⟨G3, s3, S3, k3⟩ := Sep.mk (o := .tup [.int (l.ed : Nat), .ref p, .int (l.la : Nat), .int l.du]) S2 nt
      exact q _ G3 _ (s'.trans (s2.trans s3)) (key_q (p := flat (toP l)) ⟨rfl, t, p, vs, rfl, k3, SqT.of (s3 _ _ k2), prd_imp (fun _ _ => OqB.same (s2.trans s3)) pv⟩) S3.drop

end
end K48
set_option Elab.async false
set_option linter.all false
set_option maxRecDepth 100000
set_option maxHeartbeats 4000000
namespace K48
open PySem PySem.Spec PyProof.Rows L2 XL
section
variable {P : Program} {w : World} {K : PySem.W.Frag} {mg : Str → Option Value} {base : Heap}
/-! ### the fences that let a late answer in -/
theorem flat_aftL {W : Wd} {l : Ls} (h : LOk l) (s : Stp) : flat (toP (aftL W l s)) = aftP (W0 W) (flat (toP l)) s := by rw [aftL_to h, flat_aft]
def letL (l : Ls) (e : Lq) (k : Kd) : Bool := k.lt (decide (e.who = l.who)) (decide (e.qu = l.la)) (decide (e.tk = l.tk))
theorem wd_inj : ∀ {a b : Kd}, a.wd = b.wd → a = b := by
  intro a b h
  cases a <;> cases b <;> first | rfl | exact absurd h (by decide +kernel)
instance : DecidableEq Kd := fun a b => if h : a.wd = b.wd then isTrue (wd_inj h) else isFalse (fun e => h (e ▸ rfl))
theorem in_wds (fs : List Kd) (kd : Kd) (c : Bool) : (if true = true then !inV (V.str kd.wd) (fs.map fun k => V.str k.wd) else c) = !decide (kd.wd ∈ fs.map Kd.wd) := by
  rw [if_pos rfl, show (fs.map fun k => V.str k.wd) = (fs.map Kd.wd).map V.str by rw [List.map_map]; rfl, inV_str]
theorem in_wdsF (fs : List Kd) (kd : Kd) (c : Bool) : (if false = true then c else inV (V.str kd.wd) (fs.map fun k => V.str k.wd)) = decide (kd.wd ∈ fs.map Kd.wd) := by
  rw [if_neg (by decide), show (fs.map fun k => V.str k.wd) = (fs.map Kd.wd).map V.str by rw [List.map_map]; rfl, inV_str]
theorem wd_mem {k : Kd} {fs : List Kd} : k.wd ∈ fs.map Kd.wd ↔ k ∈ fs := by
  rw [List.mem_map]
  exact ⟨fun ⟨a, h, e⟩ => wd_inj e ▸ h, fun h => ⟨k, h, rfl⟩⟩
/-- the words that are new -/
def newK (fs : List Kd) (l : Ls) (e : Lq) : List Kd := kds.filter fun k => !decide (k.wd ∈ fs.map Kd.wd) && letL l e k
theorem kds_mem (k : Kd) : k ∈ kds := by cases k <;> simp [kds]
theorem new_mem {fs : List Kd} {l : Ls} {e : Lq} {k : Kd} : k ∈ fs ++ newK fs l e ↔ k ∈ fs ∨ letL l e k = true := by
  rw [List.mem_append]
  unfold newK
  rw [List.mem_filter, Bool.and_eq_true, Bool.not_eq_true', decide_eq_false_iff_not, wd_mem]
  constructor
  · intro h
    rcases h with h | ⟨_, _, h⟩
    · exact .inl h
    · exact .inr h
  · intro h
    by_cases m : k ∈ fs
    · exact .inl m
    · rcases h with h | h
      · exact .inl h
      · exact .inr ⟨kds_mem k, m, h⟩
theorem kds_nodup : kds.Nodup := by
  unfold kds
  simp
theorem new_nodup {fs : List Kd} (l : Ls) (e : Lq) (h : fs.Nodup) : (fs ++ newK fs l e).Nodup := by
  rw [List.nodup_append]
  refine ⟨h, List.Pairwise.filter _ kds_nodup, fun a ha b hb z => ?_⟩
  subst z
  unfold newK at hb
  rw [List.mem_filter, Bool.and_eq_true, Bool.not_eq_true', decide_eq_false_iff_not, wd_mem] at hb
  exact hb.2.1 ha
def Kd.code : Kd → Nat
  | .a => 0
  | .o => 1
  | .s => 2
  | .b => 3
  | .l => 4
theorem kd_few {fs : List Kd} (h : fs.Nodup) : fs.length ≤ 5 := by
  have ci : ∀ a b : Kd, a.code = b.code → a = b := by
    intro a b e
    cases a <;> cases b <;> first | rfl | exact absurd e (by decide)
  have nd : (fs.map Kd.code).Nodup := by
    unfold List.Nodup
    rw [List.pairwise_map]
    exact List.Pairwise.imp (fun ne z => ne (ci _ _ z)) h
  have := nodup_le 5 (fs.map Kd.code) nd fun x hx => by
    obtain ⟨k, _, rfl⟩ := List.mem_map.mp hx
    cases k <;> decide
  rw [List.length_map] at this
  exact this
theorem strs_wd (fs : List Kd) : (fs.map fun k => V.str k.wd) = (fs.map Kd.wd).map V.str := by rw [List.map_map]; rfl
theorem new_len (fs : List Kd) (l : Ls) (e : Lq) (n : Nat) : ((kds.take n).filter fun k => !decide (k.wd ∈ fs.map Kd.wd) && letL l e k).length ≤ 5 := by
  have := List.length_filter_le (fun k => !decide (k.wd ∈ fs.map Kd.wd) && letL l e k) (kds.take n)
  have h2 : (kds.take n).length ≤ kds.length := by rw [List.length_take]; exact Nat.min_le_right _ _
  exact Nat.le_trans this h2
def spLetting (K : PySem.W.Frag) : Sp := fun vs H Q _ => ∃ (G : Hp) (M : List (Addr × HO)) (v u : V) (l : Ls) (e : Lq) (f : Addr) (fs : List Kd), vs = [v, u, .ref f] ∧ Sep G ((f, .lst (fs.map fun k => V.str k.wd)) :: M) H ∧ LsAt K G v l ∧ LqAt G u e ∧
  ∀ t G' H', Same G G' → G' t = some (.lst ((newK fs l e).map fun k => V.str k.wd)) → Sep G' ((f, .lst (fs.map fun k => V.str k.wd)) :: M) H' → Q (.ref t) H'
theorem ok_letting (T : Top K mg w) {k : Nat} (G_words : FnOk P w K mg base CX0 k T.a_words T.d_words [] spWords) (G_lets : FnOk P w K mg base CX0 k T.a_lets T.d_lets ["_law_word", "_law_own", "_law_same", "_law_last"] spLLets) : FnOk P w K mg base CX0 (k + 1) T.a_letting T.d_letting ["_law_now", "_law_entry", "_law_found"] (spLetting K) := by
  refine T.F_letting.ok sc_letting (fun vs H Q E h => ?_) (fun cdv A outer s H vs Q E hr h => ?_)
  · obtain ⟨G, M, v, u, l, e, f, fs, rfl, _⟩ := h
    rfl
  · obtain ⟨G, M, v, u, l, e, f, fs, rfl, S, hl, he, q⟩ := h
    refine ⟨_, (pss_cons (ps_set (i := 3) sc_letting.nd rfl (.inr rfl) (pe_cmpR (op_eqLK K hr.u190) (pe_ix (ix_k K) (xv 1) pe_int (fun _ _ => rfl)) (pe_ix (ix_k K) (xv 0) pe_int (fun _ _ => rfl)) (nomark _)))
      (pss_cons (ps_set (i := 4) sc_letting.nd rfl (.inr rfl) (pe_cmpR (op_eqLK K hr.u190) (pe_ix (ix_k K) (xv 1) pe_int (fun _ _ => rfl)) (pe_ix (ix_k K) (xv 0) pe_int (fun _ _ => rfl)) (nomark _)))
      (pss_cons (ps_set (i := 5) sc_letting.nd rfl (.inr rfl) (pe_cmpR (op_eqLK K hr.u190) (pe_ix (ix_k K) (xv 1) pe_int (fun _ _ => rfl)) (pe_ix (ix_k K) (xv 0) pe_int (fun _ _ => rfl)) (nomark _)))
      (pss_one (ps_ret (pe_lc (own := [("_law_word", 6)]) (by rfl) sc_letting.nd (pi_listK K (pe_call0 G_words (hr.mono (by omega)) (by rfl) T.g_words T.F_words.kp T.b_words .nil pass0)) (blkOk_by (N := ["_law_now", "_law_entry", "_law_found", "_law_own", "_law_same", "_law_last", "_law_word"]) (sc := defScope s_letting) (by decide +kernel)) (fun _ _ _ _ _ => (pg_name (i := 6) sc_letting.nd rfl (.inl rfl))) (fun _ _ _ _ _ => (pts_one (PW.pt (xw_and (xt_cmp (notin_seqK K) (xv 6) (xv 2) (by rfl)) (pw_and1 (xt_truK K (pe_call G_lets (hr.mono (by omega)) (by rfl) T.g_lets T.F_lets.kp T.b_lets .nil pass0 (pa_cons (xv 6) (pa_cons (xv 3) (pa_cons (xv 4) (pa_cons (xv 5) pa_nil))))))))))) (fun _ _ _ _ _ => (xv 6)))))))), ?_⟩
    obtain ⟨a, ll, ws, rfl, h1, h2, h3⟩ := hl
    obtain ⟨b, rfl, hb⟩ := he
    have hA := SqT.of (K := K) (S.st h1)
    have hB := SqT.of (K := K) (S.st hb)
    refine ⟨_, _, .inr hB, atI_nat (j := 0) rfl, _, _, .inr hA, atI_nat (j := 2) rfl, ?_⟩
    refine ⟨_, _, .inr hB, atI_nat (j := 2) rfl, _, _, .inr hA, atI_nat (j := 3) rfl, ?_⟩
    refine ⟨_, _, .inr hB, atI_nat (j := 1) rfl, _, _, .inr hA, atI_nat (j := 4) rfl, ?_⟩
    refine ⟨rfl, fun N nN => ?_⟩
    obtain ⟨G1, s1, S1, k1⟩ := Sep.mk (o := .lst (wds.map V.str)) S nN
    let pk : Kd → Bool := fun k => !decide (k.wd ∈ fs.map Kd.wd) && letL l e k
    have nl : ∀ n, ((kds.take n).filter pk).length ≤ 5 := new_len fs l e
    refine ⟨N, rfl, ⟨_, SqL.of (S1.st k1)⟩, fun D nD => lc_list (xs := kds.map fun k => V.str k.wd) (fun i H' => ∃ G' : Hp, Same G1 G' ∧ Sep G' ((D, .lst (((kds.take i).filter pk).map fun k => V.str k.wd)) :: (f, .lst (fs.map fun k => V.str k.wd)) :: M) H')
      ⟨G1, Same.refl _, S1.new nD⟩ (fun i H' _ h => ?_) (fun i y H' hy h => ⟨rfl, ?_⟩) (fun H' h => ?_)⟩
    · obtain ⟨G', s', S'⟩ := h
      exact SqL.of (S'.st (s' _ _ k1))
    · obtain ⟨G', s', S'⟩ := h
      obtain ⟨kd, hk, rfl⟩ := kdv_get hy
      have fs' := flt_step pk hk
      refine ⟨f, _, rfl, .inl (SqL.of S'.sw.hd), rfl, by rw [strs_wd]; exact strs_flat _, ?_⟩
      refine ⟨fun e1 => ?_, fun e1 => tst ff (fun _ => ?_)⟩
      · have e1 : (!decide (kd.wd ∈ fs.map Kd.wd)) = true := (in_wds fs kd _).symm.trans e1
        refine ⟨kd, _, _, _, rfl, ?_⟩
        have ez : kd.lt (decide ((e.who : Int) = (l.who : Nat))) (decide ((e.qu : Int) = (l.la : Nat))) (decide ((e.tk : Int) = (l.tk : Nat))) = letL l e kd := by
          unfold letL
          simp only [Int.natCast_inj]
        refine tst (fun e2 => ?_) (fun e2 => ?_)
        · have e2 := ez.symm.trans e2
          refine ⟨_, S'.hd, smallL (by rw [List.length_map]; have := nl i; omega), G', s', ?_⟩
          rw [fs', if_pos (show pk kd = true by show (!decide (kd.wd ∈ fs.map Kd.wd) && letL l e kd) = true; rw [e1, e2]; rfl), List.map_append]
          exact S'.set
        · have e2 := ez.symm.trans e2
          refine ⟨G', s', ?_⟩
          rw [fs', if_neg (show ¬ pk kd = true by show ¬ (!decide (kd.wd ∈ fs.map Kd.wd) && letL l e kd) = true; rw [e2, Bool.and_false]; decide), List.append_nil]
          exact S'
      · have e1 : (!decide (kd.wd ∈ fs.map Kd.wd)) = false := (in_wds fs kd _).symm.trans e1
        refine ⟨G', s', ?_⟩
        rw [fs', if_neg (show ¬ pk kd = true by show ¬ (!decide (kd.wd ∈ fs.map Kd.wd) && letL l e kd) = true; rw [e1, Bool.false_and]; decide), List.append_nil]
        exact S'
    · obtain ⟨G', s', S'⟩ := h
      rw [List.length_map, List.take_length] at S'
      have S' : Sep G' ((D, .lst ((newK fs l e).map fun k => V.str k.wd)) :: (f, .lst (fs.map fun k => V.str k.wd)) :: M) H' := S'
      obtain ⟨G2, s2, S2, k2⟩ := Sep.keep S'
      exact q D G2 _ (s1.trans (s'.trans s2)) k2 S2

end
end K48
set_option Elab.async false
set_option linter.all false
set_option maxRecDepth 100000
set_option maxHeartbeats 4000000
namespace K48
open PySem PySem.Spec PyProof.Rows L2 XL
/-! ### the words that are ever late -/
def Fnd (p : Pt) (l : List Stp) (k : Kd) : Prop := ∃ n, Stp.land n ∈ l ∧ ∃ e, p.ln[n]? = some e ∧ k.lt e.own (decide (e.qu = p.la)) e.lt = true ∧ e.an ≠ p.du
theorem fnd_can {W : Wd} {p : Pt} {k : Kd} : Fnd p (stepsP W p) k ↔ canLate k.lt p := by
  constructor
  · intro ⟨n, _, e, he, h1, h2⟩
    exact ⟨e, List.mem_of_getElem? he, h1, h2⟩
  · intro ⟨e, he, h1, h2⟩
    obtain ⟨n, hn, rfl⟩ := List.getElem_of_mem he
    exact ⟨n, mem_land hn, _, List.getElem?_eq_getElem hn, h1, h2⟩
theorem fnd_snoc {p : Pt} {l : List Stp} {s : Stp} {k : Kd} : Fnd p (l ++ [s]) k ↔ Fnd p l k ∨ Fnd p [s] k := by
  constructor
  · intro ⟨n, hn, h⟩
    rcases List.mem_append.mp hn with z | z
    · exact .inl ⟨n, z, h⟩
    · exact .inr ⟨n, z, h⟩
  · intro h
    rcases h with ⟨n, hn, h⟩ | ⟨n, hn, h⟩
    · exact ⟨n, List.mem_append_left _ hn, h⟩
    · exact ⟨n, List.mem_append_right _ hn, h⟩
/-- what may be late within d steps -/
def Soon (W : Wd) (p0 : Pt) (d : Nat) (k : Kd) : Prop := ∃ r, okRow W p0 r ∧ r.length < d ∧ canLate k.lt (endP W p0 r)
theorem soon_zero {W : Wd} {p0 : Pt} {k : Kd} : ¬ Soon W p0 0 k := fun ⟨_, _, h, _⟩ => Nat.not_lt_zero _ h
theorem soon_step {W : Wd} {p0 : Pt} {d : Nat} {kn lv : List (Pt × List Stp)} (h : Srch W p0 d kn lv) (k : Kd) : Soon W p0 (d + 1) k ↔ Soon W p0 d k ∨ ∃ x ∈ lv, canLate k.lt x.1 := by
  constructor
  · intro ⟨r, k1, k2, c⟩
    by_cases l : r.length < d
    · exact .inl ⟨r, k1, l, c⟩
    · obtain ⟨y, hy, e1⟩ := knows_iff.mp (h.all r k1 (by omega))
      obtain ⟨r1, r2, _, r4⟩ := h.row y hy
      rw [← e1] at c
      by_cases l2 : y.2.length < d
      · exact .inl ⟨y.2, r1, l2, by rw [r2]; exact c⟩
      · exact .inr ⟨y, h.len y hy (by omega), c⟩
  · intro h2
    rcases h2 with ⟨r, k1, k2, c⟩ | ⟨x, hx, c⟩
    · exact ⟨r, k1, by omega, c⟩
    · obtain ⟨hk, hd⟩ := h.lev x hx
      obtain ⟨r1, r2, _, _⟩ := h.row x hk
      exact ⟨x.2, r1, by omega, by rw [r2]; exact c⟩
theorem late_can {W : Wd} (w : OkA W) {R : Rs} (nm : R ≠ .many) (hR : Found W (startP W) R) : R.isL = true ↔ ∃ r, okRow (W0 W) (startP W) r ∧ canLate W.lt (endP (W0 W) (startP W) r) := by
  have h0 := start_okQ w
  have toQ : ∀ r, okRow W (startP W) r ↔ okRow (W0 W) (startP W) r := fun r => flat_row W r (startP W)
  have toE : ∀ r, canLate W.lt (endP W (startP W) r) ↔ canLate W.lt (endP (W0 W) (startP W) r) := fun r => by
    rw [← can_flat, flat_end]
    exact Iff.rfl
  cases R with
  | many => exact absurd rfl nm
  | none =>
    have hR : ∀ r, okRow W (startP W) r → lateP (endP W (startP W) r) = false := hR
    refine ⟨fun e => (nomatch e), fun ⟨r, k, c⟩ => ?_⟩
    obtain ⟨m, c1, c2⟩ := late_land (okRow_okQ w h0 ((toQ r).mpr k)) ((toE r).mpr c)
    have := hR (r ++ [.land m]) (okRow_snoc.mpr ⟨(toQ r).mpr k, c1⟩)
    rw [end_snoc, c2] at this
    cases this
  | late r =>
    have hR : LateRow W (startP W) r := hR
    refine ⟨fun _ => ?_, fun _ => rfl⟩
    have ne : r ≠ [] := fun z => by
      have := hR.late
      rw [z] at this
      cases this
    obtain ⟨r0, s, rfl⟩ : ∃ r0 s, r = r0 ++ [s] := ⟨r.dropLast, r.getLast ne, (List.dropLast_concat_getLast ne).symm⟩
    have k0 := (okRow_snoc.mp hR.ok).1
    have l0 : lateP (endP W (startP W) r0) = false := hR.min r0 k0 (by rw [List.length_append]; exact Nat.lt_succ_self _)
    have c0 : canLate W.lt (endP W (startP W) r0) := late_last l0 (by rw [← end_snoc]; exact hR.late)
    exact ⟨r0, (toQ r0).mp k0, (toE r0).mp c0⟩
theorem soon_late {W : Wd} (w : OkA W) (kd : Kd) (ek : W.lt = kd.lt) {R : Rs} (nm : R ≠ .many) (hR : Found W (startP W) R) : R.isL = true ↔ Soon (W0 W) (startP W) 60 kd := by
  rw [late_can w nm hR, ek]
  constructor
  · intro ⟨r, k, c⟩
    obtain ⟨r', k1, k2, k3⟩ := short_row (W := W0 W) ⟨w.w.st, w.w.row, w.w.rm, w.w.qs, w.w.q3⟩ kd k c
    exact ⟨r', k1, k3, k2⟩
  · intro ⟨r, k1, _, k2⟩
    exact ⟨r, k1, k2⟩

section
variable {P : Program} {w : World} {K : PySem.W.Frag} {mg : Str → Option Value} {base : Heap}
/-! ### the law's search for the words that are ever late -/
def StL (K : PySem.W.Frag) (G : Hp) (v : V) (p : Pt) : Prop := ∃ l : Ls, LsAt K G v l ∧ LOk l ∧ flat (toP l) = p
theorem StL.same {K : PySem.W.Frag} {G G' : Hp} {v : V} {p : Pt} (e : Same G G') (h : StL K G v p) : StL K G' v p := let ⟨l, h1, h2, h3⟩ := h; ⟨l, h1.same e, h2, h3⟩
abbrev LX (K : PySem.W.Frag) (G : Hp) : List V → List (Pt × List Stp) → Prop := Paired fun v x => StL K G v x.1
theorem lx_same {K : PySem.W.Frag} {G G' : Hp} {ws : List V} {lv : List (Pt × List Stp)} (e : Same G G') (h : LX K G ws lv) : LX K G' ws lv := prd_imp (fun _ _ => StL.same e) h
abbrev FsA (F : Addr) (fs : List Kd) : Addr × HO := (F, .lst (fs.map fun k => V.str k.wd))
def spLateW (K : PySem.W.Frag) : Sp := fun vs H Q _ => ∃ (G : Hp) (M : List (Addr × HO)) (st : List (List Int)) (rm : Nat) (qs : List Nat) (sa qa : Addr), vs = [.ref sa, .int (rm : Nat), .ref qa] ∧ Sep G M H ∧ (∀ lt, WAt G ⟨st, rm, qs, lt⟩ sa qa) ∧ (∀ lt, OkA ⟨st, rm, qs, lt⟩) ∧
  ∀ (t : Addr) (fs : List Kd) (G' H' : Hp), Same G G' → (∀ k : Kd, k ∈ fs ↔ Soon ⟨st, rm, qs, fun _ _ _ => false⟩ (startP ⟨st, rm, qs, fun _ _ _ => false⟩) 60 k) → G' t = some (.lst ((kds.filter fun k => decide (k ∈ fs)).map fun k => V.str k.wd)) → Sep G' M H' → Q (.ref t) H'
theorem ok_late_words (T : Top K mg w) {k : Nat} (G_start : FnOk P w K mg base CX0 k T.a_start T.d_start ["_law_store", "_law_asked"] (spStart K)) (G_open : FnOk P w K mg base CX0 k T.a_open T.d_open ["_law_now"] (spOpen K)) (G_steps : FnOk P w K mg base CX0 k T.a_steps T.d_steps ["_law_now", "_law_asked", "_law_store"] (spSteps K)) (G_after : FnOk P w K mg base CX0 k T.a_after T.d_after ["_law_now", "_law_step", "_law_word", "_law_store", "_law_width"] (spAfter K))
    (G_letting : FnOk P w K mg base CX0 k T.a_letting T.d_letting ["_law_now", "_law_entry", "_law_found"] (spLetting K)) (G_words : FnOk P w K mg base CX0 k T.a_words T.d_words [] spWords) :
    FnOk P w K mg base CX0 (k + 1) T.a_late_words T.d_late_words ["_law_store", "_law_width", "_law_asked"] (spLateW K) := by
  refine T.F_late_words.ok sc_late_words (fun vs H Q E h => ?_) (fun cdv A outer s H vs Q E hr h => ?_)
  · obtain ⟨G, M, st, rm, qs, sa, qa, rfl, _⟩ := h
    rfl
  · obtain ⟨G, M, st, rm, qs, sa, qa, rfl, S, hw, wa, q⟩ := h
    refine ⟨_, (pss_cons (ps_set (i := 3) sc_late_words.nd rfl (.inl rfl) (pe_call G_start (hr.mono (by omega)) (by rfl) T.g_start T.F_start.kp T.b_start .nil pass0 (pa_cons (xv 0) (pa_cons (xv 2) pa_nil))))
      (pss_cons (ps_set (i := 4) sc_late_words.nd rfl (.inl rfl) (pe_dd1 K w hr.u9 (pe_call G_open (hr.mono (by omega)) (by rfl) T.g_open T.F_open.kp T.b_open .nil pass0 (pa_cons (xv 3) pa_nil)) pe_bl))
      (pss_cons (ps_set (i := 5) sc_late_words.nd rfl (.inl rfl) (pe_lst (pa_cons (xv 3) pa_nil)))
      (pss_cons (ps_set (i := 6) sc_late_words.nd rfl (.inr rfl) (pe_lst pa_nil))
      (pss_cons (ps_for PassesOwn.never rfl (pi_range1 (by rfl) T.m_range (pa_cons pe_int pa_nil)) (pg_name (i := 7) sc_late_words.nd rfl (.inl rfl))
      (pss_cons (ps_set (i := 8) sc_late_words.nd rfl (.inl rfl) (pe_lst pa_nil))
      (pss_cons (ps_for PassesOwn.never rfl (pi_listK K (xv 5)) (pg_name (i := 9) sc_late_words.nd rfl (.inl rfl))
      (pss_one (ps_for PassesOwn.never rfl (pi_listK K (pe_call G_steps (hr.mono (by omega)) (by rfl) T.g_steps T.F_steps.kp T.b_steps .nil pass0 (pa_cons (xv 9) (pa_cons (xv 2) (pa_cons (xv 0) pa_nil))))) (pg_name (i := 10) sc_late_words.nd rfl (.inl rfl))
      (pss_cons (ps_set (i := 11) sc_late_words.nd rfl (.inl rfl) (pe_call G_after (hr.mono (by omega)) (by rfl) T.g_after T.F_after.kp T.b_after .nil pass0 (pa_cons (xv 9) (pa_cons (xv 10) (pa_cons pe_str (pa_cons (xv 0) (pa_cons (xv 1) pa_nil)))))))
      (xss_cut (xs_if (PW.pt (xw_and (xt_cmp (op_eqLK K hr.u190) (pe_ix (ix_k K) (xv 10) pe_int (fun _ _ => rfl)) pe_str (nomark _)) (pw_and1 (xt_cmp (op_neLK K hr.u190) (pe_ix (ix_k K) (pe_ix (ix_k K) (pe_ix (ix_k K) (xv 9) pe_int (fun _ _ => rfl)) (pe_ix (ix_k K) (xv 10) pe_int (fun _ _ => rfl)) (fun _ _ => rfl)) pe_int (fun _ _ => rfl)) (pe_ix (ix_k K) (xv 9) pe_int (fun _ _ => rfl)) (nomark _)))))
      (pss_one (ps_expr (pe_bmK K PySem.F.plainAttrs_list PySem.F.slot_list_extend PySem.F.type_list_extend mt_extend (xv 6) (pa_cons (pe_call G_letting (hr.mono (by omega)) (by rfl) T.g_letting T.F_letting.kp T.b_letting .nil pass0 (pa_cons (xv 9) (pa_cons (pe_ix (ix_k K) (pe_ix (ix_k K) (xv 9) pe_int (fun _ _ => rfl)) (pe_ix (ix_k K) (xv 10) pe_int (fun _ _ => rfl)) (fun _ _ => rfl)) (pa_cons (xv 6) pa_nil)))) pa_nil))))
      pss_nil)
      (pss_cons (ps_set (i := 12) sc_late_words.nd rfl (.inl rfl) (pe_call G_open (hr.mono (by omega)) (by rfl) T.g_open T.F_open.kp T.b_open .nil pass0 (pa_cons (xv 11) pa_nil)))
      (pss_one (xs_if (pt_cmp (pc_ddnotin K w hr.u9 (xv 12) (xv 4)))
      (pss_cons (ps_ddput K w hr.u9 (xv 4) (xv 12) pe_bl rfl)
      (pss_one (ps_expr (pe_bmK K PySem.F.plainAttrs_list PySem.F.slot_list_append PySem.F.type_list_append mt_append (xv 8) (pa_cons (xv 11) pa_nil)))))
      pss_nil))))))))
      (pss_one (ps_set (i := 5) sc_late_words.nd rfl (.inl rfl) (pe_callTy (call_listK K) (by rfl) T.m_list (by decide +kernel) (pa_cons (xv 8) pa_nil)))))))
      (pss_one (ps_ret (pe_lc (own := [("_law_word", 13)]) (by rfl) sc_late_words.nd (pi_listK K (pe_call0 G_words (hr.mono (by omega)) (by rfl) T.g_words T.F_words.kp T.b_words .nil pass0)) (blkOk_by (N := ["_law_store", "_law_width", "_law_asked", "_law_start_here", "_law_known", "_law_level", "_law_found", "_law_turn", "_law_further", "_law_now", "_law_step", "_law_after_here", "_law_folded", "_law_word"]) (sc := defScope s_late_words) (by decide +kernel)) (fun _ _ _ _ _ => (pg_name (i := 13) sc_late_words.nd rfl (.inl rfl))) (fun _ _ _ _ _ => (pts_one (xt_cmp (in_seqK K) (xv 13) (xv 6) (by rfl)))) (fun _ _ _ _ _ => (xv 13)))))))))), ?_⟩
    let W : Wd := ⟨st, rm, qs, fun _ _ _ => false⟩
    let Wa : Wd := ⟨st, rm, qs, Kd.a.lt⟩
    have w0 : OkA W := wa _
    refine ⟨G, _, W, sa, qa, rfl, S, hw _, fun sv G1 H1 s1 hst S1 => ?_⟩
    have lok0 : LOk (startL W) := fun e he => by rw [List.mem_singleton.mp he]; exact ⟨Nat.le_refl _, Nat.le_refl _⟩
    have st0 : flat (toP (startL W)) = startP W := rfl
    refine fun D o0 nD hD0 => ?_
    have S2 := S1.new (o := o0) nD
    refine ⟨G1, _, sv, startL W, rfl, S2, hst, Nat.le_of_ble_eq_true rfl, fun b0 G2 H2 s2 hk0 S3 => ?_⟩
    refine ⟨G2, b0, key4 (startP W), rfl, S3.hd, S3.1, hk0, fun o1 hD1 => ?_⟩
    have S4 := S3.set (o' := o1)
    refine ⟨sz, fun L1 nL1 => ?_⟩
    obtain ⟨G4, s4, S6, k6⟩ := Sep.mk (o := .lst [sv]) S4 nL1
    refine ⟨sz, fun F nF => ?_⟩
    have S7 := S6.new (o := .lst []) nF
    have s04 := s1.trans (s2.trans s4)
    have hw4 : ∀ lt, WAt G4 ⟨st, rm, qs, lt⟩ sa qa := fun lt => (hw lt).same s04
    have tab0 : TabQ K w G4 D o1 [(startP W, [])] := ⟨_, hD1.same s4, .cons ⟨rfl, rfl⟩ .nil⟩
    have hst0 : StL K G4 sv (startP W) := ⟨startL W, hst.same (s2.trans s4), lok0, st0⟩
    refine ⟨60, rfl, by decide, by decide, for_range (lo := 0) (n := (60 : Int).toNat) (fun d σ H' => ∃ (Lv : Addr) (ws : List V) (y7 y8 y9 y10 y11 y12 : Option V) (G' : Hp) (o : HO) (fs : List Kd) (kn lv : List (Pt × List Stp)), σ = [some (.ref sa), some (.int (rm : Nat)), some (.ref qa), some sv, some (.ref D), some (.ref Lv), some (.ref F), y7, y8, y9, y10, y11, y12, none] ∧
      Same G4 G' ∧ G' Lv = some (.lst ws) ∧ LX K G' ws lv ∧ TabQ K w G' D o kn ∧ Sep G' (FsA F fs :: (D, o) :: M) H' ∧ fs.Nodup ∧ Srch W (startP W) d kn lv ∧ Gc W 0 ⟨kn, lv⟩ ∧ ∀ k : Kd, k ∈ fs ↔ Soon W (startP W) d k)
      ⟨L1, _, _, _, _, _, _, _, G4, o1, [], _, [(startP W, [])], rfl, Same.refl _, k6, .cons hst0 .nil, tab0, S7, .nil, srch0 (late_sh0 rfl), start_gc w0, fun k => ⟨(fun h => nomatch h), fun h => absurd h soon_zero⟩⟩ (fun d σ H' hd h => ?_) (fun σ H' h => ?_)⟩
    · obtain ⟨Lv, ws, y7, y8, y9, y10, y11, y12, G7, o7, fs7, kn, lv, rfl, s7, hLv, pw, tab, S9, nd7, hsr, gd, few⟩ := h
      have e0 : (0 : Int) + (d : Nat) = (d : Nat) := by omega
      rw [e0]
      refine ⟨sz, fun U nU => ?_⟩
      have S10 := S9.new (o := .lst []) nU
      refine ⟨Lv, rfl, ⟨_, SqL.of (S10.st hLv)⟩, for_list (xs := ws) (fun i σ H' => ∃ (y9 y10 y11 y12 : Option V) (G' : Hp) (o : HO) (fs : List Kd) (us : List V) (b : Bs), σ = [some (.ref sa), some (.int (rm : Nat)), some (.ref qa), some sv, some (.ref D), some (.ref Lv), some (.ref F), some (.int (d : Nat)), some (.ref U), y9, y10, y11, y12, none] ∧
        Same G7 G' ∧ levS W (lv.take i) ⟨kn, []⟩ = .ok b ∧ LX K G' us b.fu ∧ TabQ K w G' D o b.kn ∧ Sep G' ((U, .lst us) :: FsA F fs :: (D, o) :: M) H' ∧ fs.Nodup ∧ ∀ k : Kd, k ∈ fs ↔ k ∈ fs7 ∨ ∃ y ∈ lv.take i, canLate k.lt y.1)
        ⟨_, _, _, _, G7, o7, fs7, [], ⟨kn, []⟩, rfl, Same.refl _, rfl, .nil, tab, S10, nd7, fun k => ⟨.inl, fun h => h.elim id fun ⟨_, h, _⟩ => (nomatch h)⟩⟩ (fun i σ H' _ h => ?_) (fun i y σ H' hy h => ?_) (fun σ H' h => ?_)⟩
      · obtain ⟨_, _, _, _, G', _, _, _, _, _, s', _, _, _, S', _⟩ := h
        exact SqL.of (S'.st (s' _ _ hLv))
      · obtain ⟨y9, y10, y11, y12, G8, o8, fs8, us8, b8, rfl, s8, lev8, pu8, tab8, S11, nd8, fe8⟩ := h
        obtain ⟨x, hx, hp⟩ := prd_get pw hy
        obtain ⟨l, hl, lok, el⟩ := hp
        obtain ⟨okx, rowx, xkn⟩ := lev_rowC gd hx
        have g8 := in_levC w0 gd lev8
        have s78 := s7.trans s8
        have okp : OkP Wa (toP l) := by
          have : OkP W (flat (toP l)) := by
            rw [el]
            exact okx.ok
          exact this
        have es : stepsP Wa (toP l) = stepsP W x.1 := by
          rw [← el]
          rfl
        refine ⟨G8, _, Wa, sa, qa, y, l, rfl, S11, (hw4 _).same s78, hl.same s8, okp, fun ls ss G10 H10 s10 hls pss S13 => ?_⟩
        rw [es] at pss
        refine ⟨ls, rfl, ⟨_, SqL.of (S13.st hls)⟩, for_list (xs := ss) (fun j σ H' => ∃ (y10 y11 y12 : Option V) (G' : Hp) (o : HO) (fs : List Kd) (us : List V) (b : Bs), σ = [some (.ref sa), some (.int (rm : Nat)), some (.ref qa), some sv, some (.ref D), some (.ref Lv), some (.ref F), some (.int (d : Nat)), some (.ref U), some y, y10, y11, y12, none] ∧
          Same G10 G' ∧ stepsS W x.1 x.2 ((stepsP W x.1).take j) b8 = .ok b ∧ LX K G' us b.fu ∧ TabQ K w G' D o b.kn ∧ Sep G' ((U, .lst us) :: FsA F fs :: (D, o) :: M) H' ∧ fs.Nodup ∧ ∀ k : Kd, k ∈ fs ↔ k ∈ fs8 ∨ Fnd x.1 ((stepsP W x.1).take j) k)
          ⟨_, _, _, G10, o8, fs8, us8, b8, rfl, Same.refl _, rfl, lx_same s10 pu8, tab8.same s10, S13, nd8, fun k => ⟨.inl, fun h => h.elim id fun ⟨_, h, _⟩ => (nomatch h)⟩⟩ (fun j σ H' _ h => ?_) (fun j z σ H' hz h => ?_) (fun σ H' h => ?_)⟩
        · obtain ⟨_, _, _, G', _, _, _, _, _, s', _, _, _, S', _⟩ := h
          exact SqL.of (S'.st (s' _ _ hls))
        · obtain ⟨y10, y11, y12, G11, o11, fs11, us11, b11, rfl, s11, st11, pu11, tab11, S14, nd11, fe11⟩ := h
          obtain ⟨stp, hst', hz'⟩ := prd_get pss hz
          have g11 := (in_stepsC w0 ⟨okx, rowx⟩ g8 st11).1
          have hz2 : StpAt G11 z stp := hz'.same s11
          have hsm : stp ∈ stepsP W x.1 := List.mem_of_getElem? hst'
          have hl11 := hl.same (s8.trans (s10.trans s11))
          have hw11 := fun lt => (hw4 lt).same (s78.trans (s10.trans s11))
          refine ⟨G11, _, Wa, .a, sa, qa, y, z, l, stp, rfl, rfl, S14, hw11 _, hl11, okp, hz2, steps_ok (es ▸ hsm), fun v' G12 H12 s12 hl12 S15 => ?_⟩
          have hz12 := hz2.same s12
          have hl12' := hl11.same s12
          refine ⟨fun σ H' => ∃ (G' : Hp) (fs : List Kd), σ = [some (.ref sa), some (.int (rm : Nat)), some (.ref qa), some sv, some (.ref D), some (.ref Lv), some (.ref F), some (.int (d : Nat)), some (.ref U), some y, some z, some v', y12, none] ∧ Same G12 G' ∧ Sep G' ((U, .lst us11) :: FsA F fs :: (D, o11) :: M) H' ∧ fs.Nodup ∧ ∀ k : Kd, k ∈ fs ↔ k ∈ fs11 ∨ Fnd x.1 [stp] k, ?_, fun σ' H' h => ?_⟩
          · have skip : (∀ k, ¬ Fnd x.1 [stp] k) → ∃ (G' : Hp) (fs : List Kd), Same G12 G' ∧ Sep G' ((U, .lst us11) :: FsA F fs :: (D, o11) :: M) H12 ∧ fs.Nodup ∧ ∀ k : Kd, k ∈ fs ↔ k ∈ fs11 ∨ Fnd x.1 [stp] k :=
              fun n => ⟨G12, fs11, Same.refl _, S15, nd11, fun k => ⟨.inl, fun h => h.elim id fun h => absurd h (n k)⟩⟩
            have nol : (∀ n, stp ≠ .land n) → ∀ k, ¬ Fnd x.1 [stp] k := fun h k ⟨n, h1, _⟩ => h n (List.mem_singleton.mp h1).symm
            cases stp with
            | ask qn =>
              obtain ⟨bb, rfl, hb⟩ := hz12
              obtain ⟨G', fs, z1, z2, z3, z4⟩ := skip (nol fun n z => by cases z)
              exact ⟨_, _, .inr (SqT.of (K := K) (S15.st hb)), atI_nat (j := 0) rfl, fun z => absurd z (by decide +kernel), fun _ => ⟨ff, fun _ => ⟨G', fs, rfl, z1, z2, z3, z4⟩⟩⟩
            | again qn =>
              obtain ⟨bb, rfl, hb⟩ := hz12
              obtain ⟨G', fs, z1, z2, z3, z4⟩ := skip (nol fun n z => by cases z)
              exact ⟨_, _, .inr (SqT.of (K := K) (S15.st hb)), atI_nat (j := 0) rfl, fun z => absurd z (by decide +kernel), fun _ => ⟨ff, fun _ => ⟨G', fs, rfl, z1, z2, z3, z4⟩⟩⟩
            | far =>
              obtain ⟨bb, rfl, hb⟩ := hz12
              obtain ⟨G', fs, z1, z2, z3, z4⟩ := skip (nol fun n z => by cases z)
              exact ⟨_, _, .inr (SqT.of (K := K) (S15.st hb)), atI_nat (j := 0) rfl, fun z => absurd z (by decide +kernel), fun _ => ⟨ff, fun _ => ⟨G', fs, rfl, z1, z2, z3, z4⟩⟩⟩
            | land n =>
              obtain ⟨bb, rfl, hb⟩ := hz12
              have hT := SqT.of (K := K) (S15.st hb)
              refine ⟨_, _, .inr hT, atI_nat (j := 0) rfl, fun _ => ?_, fun z => absurd z (by decide +kernel)⟩
              obtain ⟨ya, yl, yws, rfl, h1, h2, h3⟩ := id hl12'
              have hA := SqT.of (K := K) (S15.st h1)
              have hn : n < l.ln.length := by
                have z0 : StpOk Wa (toP l) (.land n) := steps_ok (es ▸ hsm)
                have z : n < (l.ln.map (toQ l.who l.tk)).length := z0
                rw [List.length_map] at z
                exact z
              obtain ⟨lv0, hlx, c, rfl, hc⟩ := prd_back h3 (List.getElem?_eq_getElem hn)
              have hC := SqT.of (K := K) (S15.st hc)
              have fl : ∀ k : Kd, Fnd x.1 [Stp.land n] k ↔ (letL l l.ln[n] k = true ∧ (l.ln[n]).an ≠ l.du) := fun k => by
                rw [← el]
                constructor
                · intro ⟨n', g1, e, g2, g3, g4⟩
                  cases List.mem_singleton.mp g1
                  have g2 : (l.ln.map (toQ l.who l.tk))[n]? = some e := g2
                  rw [List.getElem?_map, List.getElem?_eq_getElem hn] at g2
                  cases g2
                  exact ⟨g3, g4⟩
                · intro ⟨g3, g4⟩
                  exact ⟨n, List.mem_singleton.mpr rfl, toQ l.who l.tk l.ln[n], by show (l.ln.map _)[n]? = _; rw [List.getElem?_map, List.getElem?_eq_getElem hn]; rfl, g3, g4⟩
              refine ⟨_, _, .inr hA, atI_nat (j := 1) rfl, _, _, .inr hT, atI_nat (j := 1) rfl, _, _, .inr (S15.t h2), atI_nat hlx, _, _, .inr hC, atI_nat (j := 3) rfl, _, _, .inr hA, atI_nat (j := 5) rfl, fun e1 => ?_, fun e1 => ?_⟩
              · have e1 : (!decide ((l.ln[n]).an = l.du)) = true := e1
                have ne : (l.ln[n]).an ≠ l.du := by simpa using e1
                have S16 := S15.sw
                refine ⟨.inl ⟨rfl, _, SqL.of S16.hd⟩, ?_⟩
                refine ⟨_, _, .inr hA, atI_nat (j := 1) rfl, _, _, .inr hT, atI_nat (j := 1) rfl, _, _, .inr (S15.t h2), atI_nat hlx, ?_⟩
                refine ⟨G12, _, _, _, l, l.ln[n], F, fs11, rfl, S16, hl12', ⟨c, rfl, hc⟩, fun t G17 H17 s17 ht S17 => ?_⟩
                have nd := new_nodup l l.ln[n] nd11
                have l5 := kd_few nd
                rw [List.length_append] at l5
                refine ⟨F, t, _, _, rfl, rfl, S17.hd, S17.st ht, ?_, ?_⟩
                · rw [List.length_map, List.length_map, sizeLine_eq]
                  omega
                · refine ⟨G17, fs11 ++ newK fs11 l l.ln[n], rfl, s17, ?_, nd, fun k => ?_⟩
                  · rw [← List.map_append]
                    exact S17.set.sw
                  · rw [new_mem, fl k]
                    exact ⟨fun h => h.imp id fun h => ⟨h, ne⟩, fun h => h.imp id fun h => h.1⟩
              · have e1 : (!decide ((l.ln[n]).an = l.du)) = false := e1
                have eq : (l.ln[n]).an = l.du := by simpa using e1
                obtain ⟨G', fs, z1, z2, z3, z4⟩ := skip fun k z => ((fl k).mp z).2 eq
                exact ⟨G', fs, rfl, z1, z2, z3, z4⟩
          · obtain ⟨G13, fs13, rfl, s13, S16, nd13, fe13⟩ := h
            have fe : ∀ k : Kd, k ∈ fs13 ↔ k ∈ fs8 ∨ Fnd x.1 ((stepsP W x.1).take (j + 1)) k := fun k => by
              rw [fe13 k, fe11 k, List.take_add_one, hst']
              show _ ↔ _ ∨ Fnd x.1 (_ ++ [stp]) k
              rw [fnd_snoc, or_assoc]
            have hl13 : LsAt K G13 v' (aftL Wa l stp) := hl12.same s13
            have okn : OkP Wa (aftP Wa (toP l) stp) := aftP_ok (w := (hw _).1) okp (steps_ok (es ▸ hsm))
            have l3 : (aftL Wa l stp).ln.length ≤ 3 := by
              have h1 : (toP (aftL Wa l stp)).ln.length ≤ rm := by
                rw [aftL_to lok]
                exact okn.2.1
              have h2 : (toP (aftL Wa l stp)).ln.length = (aftL Wa l stp).ln.length := List.length_map _
              have := (hw Wa.lt).1.rm.2
              have h3 : rm ≤ 3 := this
              omega
            refine ⟨G13, _, v', aftL Wa l stp, rfl, S16, hl13, l3, fun va G14 H14 s14 hfk S17 => ?_⟩
            have ef : flat (toP (aftL Wa l stp)) = aftP W x.1 stp := by
              rw [flat_aftL lok, el]
              rfl
            rw [ef] at hfk
            have hxn : StL K G14 v' (aftP W x.1 stp) := ⟨_, hl13.same s14, aftL_ok lok stp, ef⟩
            have sh0 : (aftP W x.1 stp).sh = 0 := by rw [← ef]; rfl
            have s1114 := s12.trans (s13.trans s14)
            obtain ⟨kvs, hdd, hkv⟩ := tab11.same s1114
            have kin : (valV kvs (key4 (aftP W x.1 stp))).isSome = knows b11.kn (aftP W x.1 stp) := kn_val4 sh0 hkv
            have SD := S17.sw.drop.sw
            refine ⟨D, va, o11, kvs, _, rfl, rfl, SD.hd, hdd.same S17.1, hfk.same S17.1, ?_⟩
            refine ⟨_, rfl, fun e1 => ?_, fun e1 => ?_⟩
            · have nk : knows b11.kn (aftP W x.1 stp) = false := by
                rw [← kin]
                have e1 : (!(valV kvs (key4 (aftP W x.1 stp))).isSome) = true := e1
                simpa using e1
              have vn : valV kvs (key4 (aftP W x.1 stp)) = none := by
                rw [nk] at kin
                cases z : valV kvs (key4 (aftP W x.1 stp)) with
                | none => rfl
                | some _ => rw [z] at kin; cases kin
              have kl : kvs.length < sizeLine := by
                rw [prd_len hkv, sizeLine_eq]
                have := g11.2.1
                omega
              refine ⟨G14, D, va, o11, kvs, _, rfl, rfl, SD.hd, S17.1, hdd, hfk, kl, fun o16 hd16 => ?_⟩
              rw [put_new vn] at hd16
              have S18 := ((S17.perm (List.Perm.trans (List.Perm.cons _ (List.Perm.swap _ _ _)) (List.Perm.swap _ _ _))).set (o' := o16)).perm (List.Perm.trans (List.Perm.swap _ _ _) (List.Perm.cons _ (List.Perm.swap _ _ _)))
              have hk16 : Paired RwQ (kvs ++ [(key4 (aftP W x.1 stp), .bl true)]) (b11.kn ++ [(aftP W x.1 stp, x.2 ++ [stp])]) := prd_app hkv (.cons ⟨rfl, sh0⟩ .nil)
              have ul : us11.length < sizeLine := by
                rw [prd_len pu11, sizeLine_eq]
                have := g11.2.1
                have := g11.2.2.1
                omega
              refine ⟨.inl ⟨rfl, _, SqL.of S18.hd⟩, U, us11, _, rfl, rfl, S18.hd, ul, ?_⟩
              refine ⟨_, _, _, G14, o16, fs13, us11 ++ [v'], ⟨b11.kn ++ [(aftP W x.1 stp, x.2 ++ [stp])], b11.fu ++ [(aftP W x.1 stp, x.2 ++ [stp])]⟩, rfl, s11.trans s1114, ?_, prd_app (lx_same s1114 pu11) (.cons hxn .nil), ⟨_, hd16, hk16⟩, S18.set, nd13, fe⟩
              rw [steps_snoc st11 hst']
              exact one_new nk (late_sh0 sh0)
            · have nk : knows b11.kn (aftP W x.1 stp) = true := by
                rw [← kin]
                have e1 : (!(valV kvs (key4 (aftP W x.1 stp))).isSome) = false := e1
                simpa using e1
              refine ⟨_, _, _, G14, o11, fs13, us11, b11, rfl, s11.trans s1114, ?_, lx_same s1114 pu11, ⟨kvs, hdd, hkv⟩, S17, nd13, fe⟩
              rw [steps_snoc st11 hst']
              exact one_known nk
        · obtain ⟨y10, y11, y12, G11, o11, fs11, us11, b11, rfl, s11, st11, pu11, tab11, S14, nd11, fe11⟩ := h
          refine ⟨_, _, _, _, G11, o11, fs11, us11, b11, rfl, s8.trans (s10.trans s11), ?_, pu11, tab11, S14, nd11, fun k => ?_⟩
          · rw [lev_snoc lev8 hx, ← st11, prd_len pss, List.take_length]
          · rw [fe11 k, fe8 k, prd_len pss, List.take_length, fnd_can, List.take_add_one, hx]
            constructor
            · intro h
              rcases h with (h | ⟨q, h1, h2⟩) | h
              · exact .inl h
              · exact .inr ⟨q, List.mem_append_left _ h1, h2⟩
              · exact .inr ⟨x, List.mem_append_right _ (List.mem_singleton.mpr rfl), h⟩
            · intro h
              rcases h with h | ⟨q, h1, h2⟩
              · exact .inl (.inl h)
              · rcases List.mem_append.mp h1 with h1 | h1
                · exact .inl (.inr ⟨q, h1, h2⟩)
                · have : q = x := List.mem_singleton.mp h1
                  exact .inr (this ▸ h2)
      · obtain ⟨y9, y10, y11, y12, G8, o8, fs8, us8, b8, rfl, s8, lev8, pu8, tab8, S11, nd8, fe8⟩ := h
        rw [prd_len pw, List.take_length] at lev8 fe8
        refine ⟨U, us8, rfl, .inl (SqL.of S11.hd), fun L9 nL9 => ?_⟩
        obtain ⟨G9, s9, S12, k9⟩ := Sep.mk (o := .lst us8) S11 nL9
        exact ⟨L9, us8, _, _, _, _, _, _, G9, o8, fs8, b8.kn, b8.fu, rfl, s7.trans (s8.trans s9), k9, lx_same s9 pu8, tab8.same s9, S12.drop, nd8, (srch_next hsr lev8).1, next_gc w0 gd lev8, fun k => by rw [fe8 k, soon_step hsr k, few k]⟩
    · obtain ⟨Lv, ws, y7, y8, y9, y10, y11, y12, G7, o7, fs7, kn, lv, rfl, s7, hLv, pw, tab, S9, nd7, hsr, gd, few⟩ := h
      refine ⟨rfl, fun N nN => ?_⟩
      obtain ⟨G8, s8, S8, k8⟩ := Sep.mk (o := .lst (wds.map V.str)) S9 nN
      let pf : Kd → Bool := fun k => decide (k ∈ fs7)
      refine ⟨N, rfl, ⟨_, SqL.of (S8.st k8)⟩, fun E2 nE => lc_list (xs := kds.map fun k => V.str k.wd) (fun i H' => ∃ G' : Hp, Same G8 G' ∧ Sep G' ((E2, .lst (((kds.take i).filter pf).map fun k => V.str k.wd)) :: FsA F fs7 :: (D, o7) :: M) H')
        ⟨G8, Same.refl _, S8.new nE⟩ (fun i H' _ h => ?_) (fun i y H' hy h => ⟨rfl, ?_⟩) (fun H' h => ?_)⟩
      · obtain ⟨G', s', S'⟩ := h
        exact SqL.of (S'.st (s' _ _ k8))
      · obtain ⟨G', s', S'⟩ := h
        obtain ⟨kd, hk, rfl⟩ := kdv_get hy
        have fs' := flt_step pf hk
        refine ⟨F, _, rfl, .inl (SqL.of S'.sw.hd), rfl, by rw [strs_wd]; exact strs_flat _, ?_⟩
        have ev : decide (kd.wd ∈ fs7.map Kd.wd) = pf kd := by
          show _ = decide (kd ∈ fs7)
          rw [decide_eq_decide]
          exact wd_mem
        refine tst (fun e1 => ?_) (fun e1 => ?_)
        · have e1 : pf kd = true := ev.symm.trans ((in_wdsF fs7 kd _).symm.trans e1)
          refine ⟨_, S'.hd, smallL ?_, G', s', ?_⟩
          · rw [List.length_map]
            have := List.length_filter_le pf (kds.take i)
            have h2 : (kds.take i).length ≤ 5 := by rw [List.length_take]; exact Nat.min_le_right _ _
            omega
          · rw [fs', if_pos e1, List.map_append]
            exact S'.set
        · have e1 : pf kd = false := ev.symm.trans ((in_wdsF fs7 kd _).symm.trans e1)
          refine ⟨G', s', ?_⟩
          rw [fs', if_neg (by rw [e1]; decide), List.append_nil]
          exact S'
      · obtain ⟨G9, s9, S10⟩ := h
        rw [List.length_map, List.take_length] at S10
        obtain ⟨G10, s10, S11, k10⟩ := Sep.keep S10
        exact q E2 fs7 G10 _ (s04.trans (s7.trans (s8.trans (s9.trans s10)))) few k10 S11.drop.drop

end
end K48
set_option Elab.async false
set_option linter.all false
set_option maxRecDepth 100000
set_option maxHeartbeats 4000000
namespace K48
open PySem PySem.Spec PyProof.Rows L2 XL
section
variable {P : Program} {w : World} {K : PySem.W.Frag} {mg : Str → Option Value} {base : Heap}
/-! ### what is due -/
def spDue (K : PySem.W.Frag) : Sp := fun vs H Q _ => ∃ (G : Hp) (M : List (Addr × HO)) (a : Addr) (ls : List Kd), vs = [.ref a] ∧ Sep G M H ∧ G a = some (.lst (ls.map fun k => V.str k.wd)) ∧
  ∀ t G' H', Same G G' → G' t = some (.tup ((weakL fun k => decide (k ∈ ls)).map fun k => V.str k.wd)) → Sep G' M H' → Q (.ref t) H'
theorem ok_due (T : Top K mg w) {k : Nat} (G_words : FnOk P w K mg base CX0 k T.a_words T.d_words [] spWords) (G_at_most : FnOk P w K mg base CX0 k T.a_at_most T.d_at_most ["_law_first", "_law_second"] spAtM) :
    FnOk P w K mg base CX0 (k + 1) T.a_due T.d_due ["_law_late"] (spDue K) := by
  refine T.F_due.ok sc_due (fun vs H Q E h => ?_) (fun cdv A outer s H vs Q E hr h => ?_)
  · obtain ⟨G, M, a, ls, rfl, _⟩ := h
    rfl
  · obtain ⟨G, M, a, ls, rfl, S, ha, q⟩ := h
    refine ⟨_, (pss_cons (ps_setLc (i := 2) (own := [("_law_word", 1)]) (by rfl) sc_due.nd rfl rfl (sw_true rfl rfl rfl (by decide +kernel)) (pi_listK K (pe_call0 G_words (hr.mono (by omega)) (by rfl) T.g_words T.F_words.kp T.b_words .nil pass0)) (blkOk_by (N := ["_law_late", "_law_word", "_law_enough", "_law_out", "_law_other"]) (sc := defScope s_due) (by decide +kernel)) (fun _ _ _ _ _ => (pg_name (i := 1) sc_due.nd rfl (.inl rfl))) (fun _ _ _ _ _ => (pts_one (xt_cmp (notin_seqK K) (xv 1) (xv 0) (by rfl)))) (fun _ _ _ _ _ => (xv 1)))
      (pss_cons (ps_set (i := 3) sc_due.nd rfl (.inl rfl) (pe_lst pa_nil))
      (pss_cons (ps_for PassesOwn.never rfl (pi_listK K (xv 2)) (pg_name (i := 1) sc_due.nd rfl (.inr rfl))
      (pss_one (xs_if (xt_cmp (op_eqLK K hr.u190) (pe_lc (own := [("_law_other", 4)]) (by rfl) sc_due.nd (pi_listK K (xv 2)) (blkOk_by (N := ["_law_late", "_law_word", "_law_enough", "_law_out", "_law_other"]) (sc := defScope s_due) (by decide +kernel)) (fun _ _ _ _ _ => (pg_name (i := 4) sc_due.nd rfl (.inl rfl))) (fun _ _ _ _ _ => (pts_one (PW.pt (xw_and (xt_cmp (op_neLK K hr.u190) (xv 4) (xv 1) (nomark _)) (pw_and1 (xt_truK K (pe_call G_at_most (hr.mono (by omega)) (by rfl) T.g_at_most T.F_at_most.kp T.b_at_most .nil pass0 (pa_cons (xv 1) (pa_cons (xv 4) pa_nil))))))))) (fun _ _ _ _ _ => (xv 4))) (pe_lst pa_nil) (nomark _))
      (pss_one (ps_expr (pe_bmK K PySem.F.plainAttrs_list PySem.F.slot_list_append PySem.F.type_list_append mt_append (xv 3) (pa_cons (xv 1) pa_nil))))
      pss_nil)))
      (pss_one (ps_ret (pe_callTy (call_tupleK K) (by rfl) T.m_tuple (by decide +kernel) (pa_cons (xv 3) pa_nil))))))), ?_⟩
    let late : Kd → Bool := fun k => decide (k ∈ ls)
    refine ⟨rfl, fun N nN => ?_⟩
    obtain ⟨G0, s0, S0, k0⟩ := Sep.mk (o := .lst (wds.map V.str)) S nN
    refine ⟨N, rfl, ⟨_, SqL.of (S0.st k0)⟩, fun D nD => lc_list (xs := kds.map fun k => V.str k.wd) (fun i H' => ∃ G' : Hp, Same G0 G' ∧ Sep G' ((D, .lst (((kds.take i).filter fun k => !late k).map fun k => V.str k.wd)) :: M) H')
      ⟨G0, Same.refl _, S0.new nD⟩ (fun i H' _ h => ?_) (fun i y H' hy h => ⟨rfl, ?_⟩) (fun H' h => ?_)⟩
    · obtain ⟨G', s', S'⟩ := h
      exact SqL.of (S'.st (s' _ _ k0))
    · obtain ⟨G', s', S'⟩ := h
      obtain ⟨kd, hk, rfl⟩ := kdv_get hy
      have fs := flt_step (fun k => !late k) hk
      refine ⟨a, _, rfl, .inl (SqL.of (S'.st (s' _ _ (s0 _ _ ha)))), rfl, by rw [strs_wd]; exact strs_flat _, ?_⟩
      have ev : decide (kd.wd ∈ ls.map Kd.wd) = late kd := by
        show _ = decide (kd ∈ ls)
        rw [decide_eq_decide]
        exact wd_mem
      have ev2 : (!decide (kd.wd ∈ ls.map Kd.wd)) = !late kd := by rw [ev]
      refine tst (fun e1 => ?_) (fun e1 => ?_)
      · have e1 : (!late kd) = true := ev2.symm.trans ((in_wds ls kd _).symm.trans e1)
        refine ⟨_, S'.hd, smallL ?_, G', s', ?_⟩
        · rw [List.length_map]
          have := List.length_filter_le (fun k => !late k) (kds.take i)
          have h2 : (kds.take i).length ≤ 5 := by rw [List.length_take]; exact Nat.min_le_right _ _
          omega
        · rw [fs, if_pos e1, List.map_append]
          exact S'.set
      · have e1 : (!late kd) = false := ev2.symm.trans ((in_wds ls kd _).symm.trans e1)
        refine ⟨G', s', ?_⟩
        rw [fs, if_neg (by rw [e1]; decide), List.append_nil]
        exact S'
    · obtain ⟨G1, s1, S1⟩ := h
      have S1 : Sep G1 ((D, .lst ((enoughL late).map fun k => V.str k.wd)) :: M) H' := S1
      obtain ⟨G2, s2, S2, k2⟩ := Sep.keep S1
      refine ⟨sz, fun F nF => ?_⟩
      have S3 := S2.new (o := .lst []) nF
      let wk : Kd → Bool := fun k => decide ((weaker late k).length = 0)
      have e5 := enough_len late
      have fl : ∀ (p : Kd → Bool) (n : Nat), (((enoughL late).take n).filter p).length ≤ 5 := fun p n => by
        have := List.length_filter_le p ((enoughL late).take n)
        have h2 : ((enoughL late).take n).length ≤ (enoughL late).length := by rw [List.length_take]; exact Nat.min_le_right _ _
        omega
      refine ⟨D, rfl, ⟨_, SqL.of (S3.st k2)⟩, for_list (xs := (enoughL late).map fun k => V.str k.wd) (fun i σ H' => ∃ (y1 y4 : Option V) (G' : Hp), σ = [some (.ref a), y1, some (.ref D), some (.ref F), y4] ∧ Same G2 G' ∧ Sep G' ((F, .lst ((((enoughL late).take i).filter wk).map fun k => V.str k.wd)) :: M) H')
        ⟨_, _, G2, rfl, Same.refl _, S3⟩ (fun i σ H' _ h => ?_) (fun i y σ H' hy h => ?_) (fun σ H' h => ?_)⟩
      · obtain ⟨_, _, G', _, s', S'⟩ := h
        exact SqL.of (S'.st (s' _ _ k2))
      · obtain ⟨y1, y4, G3, rfl, s3, S4⟩ := h
        obtain ⟨kd, hk, rfl⟩ := kdv_get hy
        have hD3 := s3 _ _ k2
        let pw : Kd → Bool := fun o => !decide (o.wd = kd.wd) && leK kd o
        refine ⟨D, rfl, ⟨_, SqL.of (S4.st hD3)⟩, fun Wl nW => lc_list (xs := (enoughL late).map fun k => V.str k.wd) (fun j H' => ∃ G' : Hp, Same G3 G' ∧ Sep G' ((Wl, .lst ((((enoughL late).take j).filter pw).map fun k => V.str k.wd)) :: (F, .lst ((((enoughL late).take i).filter wk).map fun k => V.str k.wd)) :: M) H')
          ⟨G3, Same.refl _, S4.new nW⟩ (fun j H' _ h => ?_) (fun j y H' hy h => ⟨rfl, ?_⟩) (fun H' h => ?_)⟩
        · obtain ⟨G', s', S'⟩ := h
          exact SqL.of (S'.st (s' _ _ hD3))
        · obtain ⟨G', s', S'⟩ := h
          obtain ⟨o, ho, rfl⟩ := kdv_get hy
          have fs := flt_step pw ho
          refine ⟨fun e1 => ?_, fun e1 => tst ff (fun _ => ?_)⟩
          · have e1 : (!decide (o.wd = kd.wd)) = true := e1
            refine ⟨G', _, kd, o, rfl, S', fun G6 H6 s6 S7 => ?_⟩
            have s36 := s'.trans s6
            refine tst (fun e2 => ?_) (fun e2 => ?_)
            · have e2 : leK kd o = true := e2
              refine ⟨_, S7.hd, smallL (by rw [List.length_map]; have := fl pw j; omega), G6, s36, ?_⟩
              rw [fs, if_pos (show (!decide (o.wd = kd.wd) && leK kd o) = true by rw [e1, e2]; rfl), List.map_append]
              exact S7.set
            · have e2 : leK kd o = false := e2
              refine ⟨G6, s36, ?_⟩
              rw [fs, if_neg (show ¬ (!decide (o.wd = kd.wd) && leK kd o) = true by rw [e2, Bool.and_false]; decide), List.append_nil]
              exact S7
          · have e1 : (!decide (o.wd = kd.wd)) = false := e1
            refine ⟨G', s', ?_⟩
            rw [fs, if_neg (show ¬ (!decide (o.wd = kd.wd) && leK kd o) = true by rw [e1, Bool.false_and]; decide), List.append_nil]
            exact S'
        · obtain ⟨G4, s4, S5⟩ := h
          rw [List.length_map, List.take_length] at S5
          have S5 : Sep G4 ((Wl, .lst ((weaker late kd).map fun k => V.str k.wd)) :: (F, .lst ((((enoughL late).take i).filter wk).map fun k => V.str k.wd)) :: M) H' := S5
          refine ⟨sz, fun N nN => ?_⟩
          obtain ⟨G6, s6, S6, k6⟩ := Sep.mk (o := .lst []) S5 nN
          have lay := datW_lay (weaker late kd)
          refine ⟨datW (weaker late kd), .list [], .lst (SqL.of S6.hd) (dp_words _), .lst (SqL.of (S6.st k6)) .nil, lay.1, rfl, lay.2, ?_⟩
          have ee : PyData.eqv (datW (weaker late kd)) (.list []) = decide ((weaker late kd).length = 0) := by
            unfold datW
            rw [eqv_nil, List.length_map]
          rw [ee]
          have fs := flt_step wk hk
          have s36 := s3.trans (s4.trans s6)
          refine ⟨fun e1 => ?_, fun e1 => ?_⟩
          · have e1 : wk kd = true := e1
            have S7 := S6.drop
            refine ⟨.inl ⟨rfl, _, SqL.of S7.hd⟩, F, _, _, rfl, rfl, S7.hd, smallL (by rw [List.length_map]; have := fl wk i; omega), ?_⟩
            refine ⟨_, _, G6, rfl, s36, ?_⟩
            rw [fs, if_pos e1, List.map_append]
            exact S7.set
          · have e1 : wk kd = false := e1
            refine ⟨_, _, G6, rfl, s36, ?_⟩
            rw [fs, if_neg (by rw [e1]; decide), List.append_nil]
            exact S6.drop
      · obtain ⟨y1, y4, G3, rfl, s3, S4⟩ := h
        rw [List.length_map, List.take_length] at S4
        refine ⟨F, _, rfl, .inl ⟨SqL.of S4.hd, fun t nt => ?_⟩⟩
        obtain ⟨G5, s5, S5, k5⟩ := Sep.mk (o := .tup (((enoughL late).filter wk).map fun k => V.str k.wd)) S4 nt
        exact q t G5 _ (s0.trans (s1.trans (s2.trans (s3.trans s5)))) k5 S5.drop

end
end K48
set_option Elab.async false
set_option linter.all false
set_option maxRecDepth 100000
set_option maxHeartbeats 4000000
namespace K48
open PySem PySem.Spec PyProof.Rows L2 XL
/-- the line's rows are the law's open questions -/
def Rows (rows : List Rw) (ln : List Lq) : Prop := rows.map (fun r => (r.who, r.tk, r.qu, r.an)) = ln.map fun e => (((e.who : Nat) : Int), ((e.tk : Nat) : Int), ((e.qu : Nat) : Int), e.an)

theorem st_row {W : Wd} (w : OkW W) {e q : Nat} (he : e < W.st.length) (hq : q ≤ 3) : ∃ z, W.st[e]? = some z ∧ z[q]? = some (W.an e q) := by
  have hr := w.row _ (List.getElem_mem he)
  have e2 : W.st.getD e [] = W.st[e] := by rw [List.getD_eq_getElem?_getD, List.getElem?_eq_getElem he]; rfl
  have q4 : q < (W.st[e]).length := by omega
  refine ⟨W.st[e], List.getElem?_eq_getElem he, ?_⟩
  unfold Wd.an
  rw [e2, List.getD_eq_getElem?_getD, List.getElem?_eq_getElem q4]
  rfl
theorem rows_len {rows : List Rw} {ln : List Lq} (h : Rows rows ln) : rows.length = ln.length := by
  have := congrArg List.length h
  rw [List.length_map, List.length_map] at this
  exact this
theorem rows_at {rows : List Rw} {ln : List Lq} (h : Rows rows ln) {n : Nat} {r : Rw} (hr : rows[n]? = some r) : ∃ e, ln[n]? = some e ∧ r.who = (e.who : Nat) ∧ r.tk = (e.tk : Nat) ∧ r.qu = (e.qu : Nat) ∧ r.an = e.an := by
  have nl : n < ln.length := by
    rw [← rows_len h]
    exact (List.getElem?_eq_some_iff.mp hr).1
  refine ⟨ln[n], List.getElem?_eq_getElem nl, ?_⟩
  have e1 : (rows.map (fun r => (r.who, r.tk, r.qu, r.an)))[n]? = (ln.map fun e => (((e.who : Nat) : Int), ((e.tk : Nat) : Int), ((e.qu : Nat) : Int), e.an))[n]? := by rw [show rows.map _ = _ from h]
  rw [List.getElem?_map, List.getElem?_map, hr, List.getElem?_eq_getElem nl] at e1
  simp only [Option.map_some, Option.some.injEq, Prod.mk.injEq] at e1
  exact e1
theorem rows_erase {rows : List Rw} {ln : List Lq} (h : Rows rows ln) (n : Nat) : Rows (rows.eraseIdx n) (ln.take n ++ ln.drop (n + 1)) := by
  unfold Rows at h ⊢
  rw [List.eraseIdx_eq_take_drop_succ, List.map_append, List.map_append, List.map_take, List.map_take, List.map_drop, List.map_drop, h]
theorem rows_push {rows : List Rw} {ln : List Lq} (h : Rows rows ln) {rm : Nat} (hl : ln.length ≤ rm) (h1 : 1 ≤ rm) {r : Rw} {e : Lq} (he : (r.who, r.tk, r.qu, r.an) = (((e.who : Nat) : Int), ((e.tk : Nat) : Int), ((e.qu : Nat) : Int), e.an)) : Rows (push (rm : Nat) (rows ++ [r])) ((ln ++ [e]).drop ((ln.length + 1) - rm)) := by
  have hk : Rows (rows ++ [r]) (ln ++ [e]) := by
    unfold Rows at h ⊢
    rw [List.map_append, List.map_append, h]
    exact congrArg (fun z => (ln.map fun e => (((e.who : Nat) : Int), ((e.tk : Nat) : Int), ((e.qu : Nat) : Int), e.an)) ++ [z]) he
  have len := rows_len h
  unfold push
  by_cases c : ((rm : Nat) : Int) < ((rows ++ [r]).length : Nat)
  · rw [if_pos c]
    rw [List.length_append] at c
    have c : ((rm : Nat) : Int) < ((rows.length + 1 : Nat) : Int) := c
    have e1 : ln.length + 1 - rm = 1 := by omega
    rw [e1]
    unfold Rows at hk ⊢
    rw [← List.drop_one, List.map_drop, List.map_drop, hk]
  · rw [if_neg c]
    rw [List.length_append] at c
    have c : ¬ ((rm : Nat) : Int) < ((rows.length + 1 : Nat) : Int) := c
    have e1 : ln.length + 1 - rm = 0 := by omega
    rw [e1]
    exact hk
theorem okRow_take {W : Wd} : ∀ {r : List Stp} {p : Pt} (h : okRow W p r) (i : Nat), okRow W p (r.take i)
  | [], _, _, i => by rw [List.take_nil]; exact True.intro
  | s :: r, p, h, 0 => True.intro
  | s :: r, p, h, i + 1 => ⟨h.1, okRow_take h.2 i⟩
theorem okRow_at {W : Wd} : ∀ {r : List Stp} {p : Pt} {i : Nat} {s : Stp}, okRow W p r → r[i]? = some s → s ∈ stepsP W (endP W p (r.take i))
  | [], _, _, _, _, e => by simp at e
  | t :: r, p, 0, s, h, e => by
    simp at e
    subst e
    exact h.1
  | t :: r, p, i + 1, s, h, e => by
    rw [List.getElem?_cons_succ] at e
    exact okRow_at (r := r) (p := aftP W p t) h.2 e
theorem okRow_ok {W : Wd} (w : OkW W) : ∀ {r : List Stp} {p : Pt}, OkP W p → okRow W p r → OkP W (endP W p r)
  | [], _, h, _ => h
  | s :: r, p, h, k => okRow_ok w (r := r) (aftP_ok w h (steps_ok k.1)) k.2
theorem kd_fG (k : Kd) (r : Rw) (wh qu tk : Int) : k.f r wh qu tk = k.lt (decide (r.who = wh)) (decide (r.qu = qu)) (decide (r.tk = tk)) := by cases k <;> rfl

section
variable {P : Program} {w : World} {K : PySem.W.Frag} {mg : Str → Option Value} {base : Heap}
/-! ### a drawn row of possible steps -/
theorem steps_pos {W : Wd} (w : OkW W) (p : Pt) : 0 < (stepsP W p).length := by
  unfold stepsP
  simp only [List.length_append, List.length_map]
  have := w.qs.1
  omega
theorem prd_mem {α β : Type} {F : α → β → Prop} {xs : List α} {ys : List β} (h : Paired F xs ys) {x : α} (hx : x ∈ xs) : ∃ y, y ∈ ys ∧ F x y := by
  obtain ⟨i, hi, e⟩ := List.getElem_of_mem hx
  obtain ⟨y, hy, f⟩ := prd_get h (List.getElem?_eq_getElem hi)
  rw [e] at f
  exact ⟨y, List.mem_of_getElem? hy, f⟩
def spDrawn (K : PySem.W.Frag) : Sp := fun vs H Q _ => ∃ (G : Hp) (M : List (Addr × HO)) (b : Addr) (o : HO) (st : List (List Int)) (rm : Nat) (qs : List Nat) (sa qa : Addr), vs = [.ref b, .ref sa, .int (rm : Nat), .ref qa] ∧ Sep G ((b, o) :: M) H ∧ Bag G o ∧ (∀ lt, WAt G ⟨st, rm, qs, lt⟩ sa qa) ∧
  ∀ t ws r o' G' H', Same G G' → G' t = some (.lst ws) → Paired (StpAt G') ws r → okRow ⟨st, rm, qs, fun _ _ _ => false⟩ (startP ⟨st, rm, qs, fun _ _ _ => false⟩) r → Bag G' o' → Sep G' ((b, o') :: M) H' → Q (.ref t) H'
theorem ok_drawn_steps (T : Top K mg w) {k : Nat} (G_pick : FnOk P w K mg base CX0 k T.a_pick T.d_pick ["_law_bag_here", "_law_many"] spPick) (G_choice : FnOk P w K mg base CX0 k T.a_choice T.d_choice ["_law_bag_here", "_law_things"] (spChoice K)) (G_start : FnOk P w K mg base CX0 k T.a_start T.d_start ["_law_store", "_law_asked"] (spStart K)) (G_steps : FnOk P w K mg base CX0 k T.a_steps T.d_steps ["_law_now", "_law_asked", "_law_store"] (spSteps K)) (G_after : FnOk P w K mg base CX0 k T.a_after T.d_after ["_law_now", "_law_step", "_law_word", "_law_store", "_law_width"] (spAfter K)) :
    FnOk P w K mg base CX0 (k + 1) T.a_drawn_steps T.d_drawn_steps ["_law_bag_here", "_law_store", "_law_width", "_law_asked"] (spDrawn K) := by
  refine T.F_drawn_steps.ok sc_drawn_steps (fun vs H Q E h => ?_) (fun cdv A outer s H vs Q E hr h => ?_)
  · obtain ⟨G, M, b, o, st, rm, qs, sa, qa, rfl, _⟩ := h
    rfl
  · obtain ⟨G, M, b, o, st, rm, qs, sa, qa, rfl, S, B, hw, q⟩ := h
    refine ⟨_, (pss_cons (ps_set (i := 4) sc_drawn_steps.nd rfl (.inl rfl) (pe_call G_start (hr.mono (by omega)) (by rfl) T.g_start T.F_start.kp T.b_start .nil pass0 (pa_cons (xv 1) (pa_cons (xv 3) pa_nil))))
      (pss_cons (ps_set (i := 5) sc_drawn_steps.nd rfl (.inl rfl) (pe_lst pa_nil))
      (pss_cons (ps_for PassesOwn.never rfl (pi_range1 (by rfl) T.m_range (pa_cons (pe_call G_pick (hr.mono (by omega)) (by rfl) T.g_pick T.F_pick.kp T.b_pick .nil pass0 (pa_cons (xv 0) (pa_cons pe_int pa_nil))) pa_nil)) (pg_name (i := 6) sc_drawn_steps.nd rfl (.inl rfl))
      (pss_cons (ps_set (i := 7) sc_drawn_steps.nd rfl (.inl rfl) (pe_call G_choice (hr.mono (by omega)) (by rfl) T.g_choice T.F_choice.kp T.b_choice .nil pass0 (pa_cons (xv 0) (pa_cons (pe_call G_steps (hr.mono (by omega)) (by rfl) T.g_steps T.F_steps.kp T.b_steps .nil pass0 (pa_cons (xv 4) (pa_cons (xv 3) (pa_cons (xv 1) pa_nil)))) pa_nil))))
      (pss_cons (ps_expr (pe_bmK K PySem.F.plainAttrs_list PySem.F.slot_list_append PySem.F.type_list_append mt_append (xv 5) (pa_cons (xv 7) pa_nil)))
      (pss_one (ps_set (i := 4) sc_drawn_steps.nd rfl (.inl rfl) (pe_call G_after (hr.mono (by omega)) (by rfl) T.g_after T.F_after.kp T.b_after .nil pass0 (pa_cons (xv 4) (pa_cons (xv 7) (pa_cons pe_str (pa_cons (xv 1) (pa_cons (xv 2) pa_nil)))))))))))
      (pss_one (ps_ret (xv 5)))))), ?_⟩
    let W : Wd := ⟨st, rm, qs, fun _ _ _ => false⟩
    let Wa : Wd := ⟨st, rm, qs, Kd.a.lt⟩
    have hW : ∀ lt, OkW ⟨st, rm, qs, lt⟩ := fun lt => (hw lt).1
    refine ⟨G, _, W, sa, qa, rfl, S, hw _, fun sv G1 H1 s1 hst S1 => ?_⟩
    have lok0 : LOk (startL W) := fun e he => by rw [List.mem_singleton.mp he]; exact ⟨Nat.le_refl _, Nat.le_refl _⟩
    refine ⟨sz, fun R nR => ?_⟩
    have S2 := S1.new (o := .lst []) nR
    refine ⟨G1, _, b, o, 31, rfl, S2.sw, B.same s1, by decide, by decide, fun n o3 H3 n0 n1 B3 S3 => ?_⟩
    refine ⟨n, rfl, by omega, by omega, for_range (lo := 0) (n := n.toNat) (fun i σ H' => ∃ (v : V) (l : Ls) (y6 y7 : Option V) (G' : Hp) (o' : HO) (ws : List V) (r : List Stp), σ = [some (.ref b), some (.ref sa), some (.int (rm : Nat)), some (.ref qa), some v, some (.ref R), y6, y7] ∧
      Same G1 G' ∧ LsAt K G' v l ∧ LOk l ∧ flat (toP l) = endP W (startP W) r ∧ okRow W (startP W) r ∧ Paired (StpAt G') ws r ∧ r.length = i ∧ Bag G' o' ∧ Sep G' ((R, .lst ws) :: (b, o') :: M) H')
      ⟨sv, startL W, _, _, G1, o3, [], [], rfl, Same.refl _, hst, lok0, rfl, True.intro, .nil, rfl, B3, S3.sw⟩ (fun i σ H' hi h => ?_) (fun σ H' h => ?_)⟩
    · obtain ⟨v, l, y6, y7, G4, o4, ws, r, rfl, s4, hl, lok, el, okr, pws, rl, B4, S4⟩ := h
      have okp : OkP Wa (toP l) := by
        have : OkP W (flat (toP l)) := by
          rw [el]
          exact okRow_ok (hW _) (start_ok (hW _)) okr
        exact this
      have hw4 := fun lt => ((hw lt).same s1).same s4
      refine ⟨G4, _, Wa, sa, qa, v, l, rfl, S4, hw4 _, hl, okp, fun p ss G5 H5 s5 hp pss S5 => ?_⟩
      have sl := prd_len pss
      have s12 : (stepsP Wa (toP l)).length ≤ 12 := steps_len (hW Kd.a.lt) okp
      have s0 : 0 < (stepsP Wa (toP l)).length := steps_pos (hW Kd.a.lt) (toP l)
      refine ⟨G5, _, b, o4, p, ss, rfl, S5.sw, B4.same s5, SqL.of hp, by omega, by omega, fun sv2 o6 H6 hm B6 S6 => ?_⟩
      obtain ⟨stp, hsm, hsv⟩ := prd_mem pss hm
      have S7 := S6.sw
      have hi : i < n.toNat := hi
      refine ⟨.inl ⟨rfl, _, SqL.of S7.hd⟩, R, _, _, rfl, rfl, S7.hd, smallL (by rw [prd_len pws]; omega), ?_⟩
      have S8 := S7.set (o' := .lst (ws ++ [sv2]))
      refine ⟨G5, _, Wa, .a, sa, qa, v, sv2, l, stp, rfl, rfl, S8, (hw4 _).same s5, hl.same s5, okp, hsv, steps_ok hsm, fun v' G9 H9 s9 hl9 S9 => ?_⟩
      refine ⟨v', aftL Wa l stp, _, _, G9, o6, ws ++ [sv2], r ++ [stp], rfl, s4.trans (s5.trans s9), hl9, aftL_ok lok stp, ?_, ?_, ?_, by rw [List.length_append, rl]; rfl, B6.same s9, S9⟩
      · rw [flat_aftL lok, el, end_snoc]
        rfl
      · refine okRow_snoc.mpr ⟨okr, ?_⟩
        rw [← el]
        exact hsm
      · exact prd_app (stps_same (s5.trans s9) pws) (.cons (hsv.same s9) .nil)
    · obtain ⟨v, l, y6, y7, G4, o4, ws, r, rfl, s4, hl, lok, el, okr, pws, rl, B4, S4⟩ := h
      obtain ⟨G5, s5, S5, k5⟩ := Sep.keep S4
      exact q R ws r o4 G5 _ (s1.trans (s4.trans s5)) k5 (stps_same s5 pws) okr (B4.same s5) S5

end
end K48
set_option Elab.async false
set_option linter.all false
set_option maxRecDepth 100000
set_option maxHeartbeats 4000000
namespace K48
open PySem PySem.Spec PyProof.Rows L2 XL
section
variable {P : Program} {w : World} {K : PySem.W.Frag} {mg : Str → Option Value} {base : Heap}
/-! ### an asker made of the program's line and fence, beside an asker of the law's own -/
def spPlayed (K : PySem.W.Frag) : Sp := fun vs H Q _ => ∃ (G : Hp) (M : List (Addr × HO)) (W : Wd) (kd : Kd) (sa qa : Addr) (rv : V) (r : List Stp) (dh : Bool), vs = [.str kd.wd, .ref sa, .int (W.rm : Nat), .ref qa, rv, .bl dh] ∧ W.lt = kd.lt ∧ Sep G M H ∧ WAt G W sa qa ∧ RowAt G rv r ∧ okRow W (startP W) r ∧ (dh = true → ∀ i, i ≤ r.length → lateP (endP W (startP W) (r.take i)) = false) ∧
  ∀ G' H', Same G G' → Sep G' M H' → Q (.bl true) H'
theorem ok_played (T : Top K mg w) {k : Nat} (G_Line_init : FnOk P w K mg base CX0 k T.a_Line_init T.d_Line_init ["self", "far", "room"] (spLn T.C_Line)) (G_fence_of : FnOk P w K mg base CX0 k T.a_fence_of T.d_fence_of ["word"] (spFenceG (kc T))) (G_Line_send : FnOk P w K mg base CX0 k T.a_Line_send T.d_Line_send ["self", "owner", "word", "who", "question"] (spSend T.C_Line T.C_Entry))
    (G_Line_take : FnOk P w K mg base CX0 k T.a_Line_take T.d_Line_take ["self", "number"] (spTakeV T.C_Line T.C_Entry)) (G_Line_turn : FnOk P w K mg base CX0 k T.a_Line_turn T.d_Line_turn ["self"] (spTurn T.C_Line)) (G_Line_edition : FnOk P w K mg base CX0 k T.a_Line_edition T.d_Line_edition ["self"] (spEd T.C_Line)) (G_Line_entries : FnOk P w K mg base CX0 k T.a_Line_entries T.d_Line_entries ["self"] (spEntries T.C_Line T.C_Entry))
    (G_start : FnOk P w K mg base CX0 k T.a_start T.d_start ["_law_store", "_law_asked"] (spStart K)) (G_after : FnOk P w K mg base CX0 k T.a_after T.d_after ["_law_now", "_law_step", "_law_word", "_law_store", "_law_width"] (spAfter K)) (G_is_late : FnOk P w K mg base CX0 k T.a_is_late T.d_is_late ["_law_now"] (spLateL K))
    (G_Fence_lets : FnOk P w K mg base CX0 k T.a_Fence_lets T.d_Fence_lets ["self", "entry", "who", "question", "ticket"] (fun vs H Q E => ∃ C, spLets C T.C_Entry ltA vs H Q E)) (G_Own_lets : FnOk P w K mg base CX0 k T.a_Own_lets T.d_Own_lets ["self", "entry", "who", "question", "ticket"] (spLets T.C_Own T.C_Entry ltO))
    (G_Same_lets : FnOk P w K mg base CX0 k T.a_Same_lets T.d_Same_lets ["self", "entry", "who", "question", "ticket"] (spLets T.C_Same T.C_Entry ltS)) (G_Both_lets : FnOk P w K mg base CX0 k T.a_Both_lets T.d_Both_lets ["self", "entry", "who", "question", "ticket"] (spLets T.C_Both T.C_Entry ltB)) (G_Last_lets : FnOk P w K mg base CX0 k T.a_Last_lets T.d_Last_lets ["self", "entry", "who", "question", "ticket"] (spLets T.C_Last T.C_Entry ltL)) :
    FnOk P w K mg base CX0 (k + 2) T.a_played T.d_played ["_law_word", "_law_store", "_law_width", "_law_asked", "_law_steps_here", "_law_due_here"] (spPlayed K) := by
  refine T.F_played.ok sc_played (fun vs H Q E h => ?_) (fun cdv A outer s H vs Q E hr h => ?_)
  · obtain ⟨G, M, W, kd, sa, qa, rv, r, dh, rfl, _⟩ := h
    rfl
  · obtain ⟨G, M, W, kd, sa, qa, rv, r, dh, rfl, ek, S, hw, hrow, hok, hdue, q⟩ := h
    refine ⟨_, (pss_cons (ps_set (i := 6) sc_played.nd rfl (.inl rfl) (pe_make T.mk_Line G_Line_init (hr.mono (by omega)) (by rfl) T.g_Line T.b_Line_init .nil pass0 (pa_cons (xv 1) (pa_cons (xv 2) pa_nil))))
      (pss_cons (ps_set (i := 7) sc_played.nd rfl (.inl rfl) (pe_call G_fence_of (hr.mono (by omega)) (by rfl) T.g_fence_of T.F_fence_of.kp T.b_fence_of .nil pass0 (pa_cons (xv 0) pa_nil)))
      (pss_cons (ps_set (i := 8) sc_played.nd rfl (.inl rfl) (pe_call G_start (hr.mono (by omega)) (by rfl) T.g_start T.F_start.kp T.b_start .nil pass0 (pa_cons (xv 1) (pa_cons (xv 3) pa_nil))))
      (pss_cons (ps_set (i := 9) sc_played.nd rfl (.inl rfl) pe_int)
      (pss_cons (ps_set (i := 10) sc_played.nd rfl (.inl rfl) (pe_meth (xv 6) T.cl_Line T.me_Line_send G_Line_send (hr.mono (by omega)) T.b_Line_send .nil pass0 (pa_cons (pe_tup pa_nil) (pa_cons (xv 0) (pa_cons (xv 9) (pa_cons (pe_ix (ix_k K) (xv 3) pe_int (fun _ _ => rfl)) pa_nil))))))
      (pss_cons (ps_set (i := 11) sc_played.nd rfl (.inl rfl) pe_int)
      (pss_cons (ps_for PassesOwn.never rfl (pi_listK K (xv 4)) (pg_name (i := 12) sc_played.nd rfl (.inl rfl))
      (pss_cons (ps_set (i := 8) sc_played.nd rfl (.inl rfl) (pe_call G_after (hr.mono (by omega)) (by rfl) T.g_after T.F_after.kp T.b_after .nil pass0 (pa_cons (xv 8) (pa_cons (xv 12) (pa_cons (xv 0) (pa_cons (xv 1) (pa_cons (xv 2) pa_nil)))))))
      (xss_cut (xs_if (xt_cmp (op_eqLK K hr.u190) (pe_ix (ix_k K) (xv 12) pe_int (fun _ _ => rfl)) pe_str (nomark _))
      (pss_cons (ps_set (i := 13) sc_played.nd rfl (.inl rfl) (pe_meth (xv 6) T.cl_Line T.me_Line_take G_Line_take (hr.mono (by omega)) T.b_Line_take .nil pass0 (pa_cons (pe_ix (ix_k K) (xv 12) pe_int (fun _ _ => rfl)) pa_nil)))
      (pss_one (xs_if (xt_truK K (pe_or (pe_meth (xv 7) T.cl_Fence T.me_Fence_lets G_Fence_lets (hr.mono (by omega)) T.b_Fence_lets .nil pass0 (pa_cons (xv 13) (pa_cons (xv 9) (pa_cons (pe_fldK K (xv 10)) (pa_cons (pe_fldK K (xv 10)) pa_nil))))) (pe_or (pe_meth (xv 7) T.cl_Own T.me_Own_lets G_Own_lets (hr.mono (by omega)) T.b_Own_lets .nil pass0 (pa_cons (xv 13) (pa_cons (xv 9) (pa_cons (pe_fldK K (xv 10)) (pa_cons (pe_fldK K (xv 10)) pa_nil))))) (pe_or (pe_meth (xv 7) T.cl_Same T.me_Same_lets G_Same_lets (hr.mono (by omega)) T.b_Same_lets .nil pass0 (pa_cons (xv 13) (pa_cons (xv 9) (pa_cons (pe_fldK K (xv 10)) (pa_cons (pe_fldK K (xv 10)) pa_nil))))) (pe_or (pe_meth (xv 7) T.cl_Both T.me_Both_lets G_Both_lets (hr.mono (by omega)) T.b_Both_lets .nil pass0 (pa_cons (xv 13) (pa_cons (xv 9) (pa_cons (pe_fldK K (xv 10)) (pa_cons (pe_fldK K (xv 10)) pa_nil))))) (pe_meth (xv 7) T.cl_Last T.me_Last_lets G_Last_lets (hr.mono (by omega)) T.b_Last_lets .nil pass0 (pa_cons (xv 13) (pa_cons (xv 9) (pa_cons (pe_fldK K (xv 10)) (pa_cons (pe_fldK K (xv 10)) pa_nil))))))))))
      (pss_one (ps_set (i := 11) sc_played.nd rfl (.inl rfl) (pe_fldK K (xv 13))))
      pss_nil)))
      (pss_one (xs_if (xt_cmp (op_eqLK K hr.u190) (pe_ix (ix_k K) (xv 12) pe_int (fun _ _ => rfl)) pe_str (nomark _))
      (pss_one (ps_expr (pe_meth0 (xv 6) T.cl_Line T.me_Line_turn G_Line_turn (hr.mono (by omega)) T.b_Line_turn .nil pass0)))
      (pss_cons (ps_set (i := 9) sc_played.nd rfl (.inl rfl) (pe_op op_addY (xv 9) (pe_callTy cr_int (by rfl) T.m_int (by decide +kernel) (pa_cons (pe_cmpR (op_eqLK K hr.u190) (pe_ix (ix_k K) (xv 12) pe_int (fun _ _ => rfl)) pe_str (nomark _)) pa_nil))))
      (pss_cons (ps_set (i := 10) sc_played.nd rfl (.inl rfl) (pe_meth (xv 6) T.cl_Line T.me_Line_send G_Line_send (hr.mono (by omega)) T.b_Line_send .nil pass0 (pa_cons (pe_tup pa_nil) (pa_cons (xv 0) (pa_cons (xv 9) (pa_cons (pe_ix (ix_k K) (xv 12) pe_int (fun _ _ => rfl)) pa_nil))))))
      (pss_one (ps_set (i := 11) sc_played.nd rfl (.inl rfl) pe_int)))))))
      (pss_cons (xs_if (PW.pt (xw_or (xt_cmp (op_neLK K hr.u190) (xv 11) (pe_ix (ix_k K) (xv 8) pe_int (fun _ _ => rfl)) (nomark _)) (xw_or (xt_cmp (op_neLK K hr.u190) (pe_fldK K (xv 10)) (pe_ix (ix_k K) (xv 8) pe_int (fun _ _ => rfl)) (nomark _)) (pw_or1 (xt_cmp (op_neLK K hr.u190) (pe_prop (xv 6) T.cl_Line T.pr_Line_edition G_Line_edition (hr.mono (by omega)) T.b_Line_edition .nil pass0 rfl) (pe_ix (ix_k K) (xv 8) pe_int (fun _ _ => rfl)) (nomark _))))))
      (pss_one (ps_ret pe_bl))
      pss_nil)
      (pss_one (xs_if (PW.pt (xw_and (xt_truK K (xv 5)) (pw_and1 (xt_truK K (pe_call G_is_late (hr.mono (by omega)) (by rfl) T.g_is_late T.F_is_late.kp T.b_is_late .nil pass0 (pa_cons (xv 8) pa_nil))))))
      (pss_one (ps_ret pe_bl))
      pss_nil))))))
      (pss_one (ps_ret (pe_cmpR (op_eqLK K hr.u190) (pe_callB (cr_lenK K) (by rfl) T.m_len (by decide +kernel) (pa_cons (pe_meth0 (xv 6) T.cl_Line T.me_Line_entries G_Line_entries (hr.mono (by omega)) T.b_Line_entries .nil pass0) pa_nil)) (pe_callB (cr_lenK K) (by rfl) T.m_len (by decide +kernel) (pa_cons (pe_ix (ix_k K) (xv 8) pe_int (fun _ _ => rfl)) pa_nil)) (nomark _))))))))))), ?_⟩
    obtain ⟨rl, rws, rfl, hrl, prw⟩ := hrow
    obtain ⟨us0, hus0, _⟩ := id hw.2.1
    refine fun x dx nx ndx hne => ?_
    have S1 := S.new2 (o := .ins T.C_Line dx []) (u := .own x) nx ndx hne
    refine ⟨G, _, x, dx, sa, (W.rm : Nat), us0, rfl, S1, hus0, fun ll H2 S2 => ⟨rfl, ?_⟩⟩
    refine ⟨G, _, kd, rfl, S2, fun fv G3 H3 s3 hf S3 => ?_⟩
    obtain ⟨fx, fdx, rfl, hfx⟩ := hf
    obtain ⟨hq0, h3⟩ := q0_get hw.1
    obtain ⟨z0, hz0, ha0⟩ := st_row hw.1 (e := 0) hw.1.st.1 h3
    have rm1 := hw.1.rm
    refine ⟨G3, _, W, sa, qa, rfl, S3, hw.same s3, fun nv G4 H4 s4 hn4 S4 => ?_⟩
    have S5 := S4.sw
    have s04 := s3.trans s4
    refine ⟨x, dx, _, rfl, S5.hd, rfl, ?_⟩
    refine ⟨sz, fun t5 nt5 => ?_⟩
    obtain ⟨G6, s6, S6, k6⟩ := Sep.mk (o := .tup []) S5 nt5
    refine ⟨_, _, .inl (SqL.of (S6.st (s6 _ _ (s04 _ _ hw.2.2)))), atI_nat (j := 0) hq0, ?_⟩
    have how0 : OwAt G6 (.ref t5) := ⟨t5, [], rfl, k6, Nat.zero_le _, fun _ h => nomatch h⟩
    refine ⟨G6, _, x, dx, sa, ll, (W.rm : Nat), 0, 0, q0 W, [], [], W.st, z0, .ref t5, kd.wd, 0, W.an 0 (q0 W), rfl, S6, .nil, hw.2.1.same (s04.trans s6), how0, hz0, ha0, by omega, by omega, by simp, fun e5 ws5 G5 H5 s5 en5 pw5 S5 => ?_⟩
    have s05 := s04.trans (s6.trans s5)
    have rows0 : Rows (push (W.rm : Nat) ([] ++ [(⟨.ref t5, kd.wd, 0, 0, (q0 W : Nat), W.an 0 (q0 W)⟩ : Rw)])) (startL W).ln := by
      have := rows_push (rows := []) (ln := []) rfl (rm := W.rm) (by simp) rm1.1 (r := ⟨.ref t5, kd.wd, 0, 0, (q0 W : Nat), W.an 0 (q0 W)⟩) (e := ⟨0, 0, q0 W, W.an 0 (q0 W)⟩) rfl
      have e1 : ([] : List Lq).length + 1 - W.rm = 0 := by simp; omega
      rw [e1] at this
      exact this
    have lok0 : LOk (startL W) := fun e he => by rw [List.mem_singleton.mp he]; exact ⟨Nat.le_refl _, Nat.le_refl _⟩
    refine ⟨rl, rfl, ⟨_, SqL.of (S5.st (s05 _ _ hrl))⟩, for_list (xs := rws) (fun i σ H' => ∃ (y12 y13 : Option V) (v ow : V) (l : Ls) (e : Addr) (ws : List V) (rows : List Rw) (G' : Hp), σ = [some (.str kd.wd), some (.ref sa), some (.int (W.rm : Nat)), some (.ref qa), some (.ref rl), some (.bl dh), some (.ref x), some (.ref fx), some v, some (.int (l.who : Nat)), some (.ref e), some (.int l.sh), y12, y13] ∧
      Same G5 G' ∧ LsAt K G' v l ∧ toP l = endP W (startP W) (r.take i) ∧ LOk l ∧ EnAt G' T.C_Entry (.ref e) ⟨ow, kd.wd, (l.who : Nat), (l.tk : Nat), (l.la : Nat), l.du⟩ ∧ Paired (RwAt G') ws rows ∧ Rows rows l.ln ∧ Sep G' ((x, .ins T.C_Line dx (lnF sa (W.rm : Nat) ll ((l.tk : Nat) + 1) (l.ed : Nat))) :: (ll, .lst ws) :: (dx, .own x) :: M) H')
      ⟨_, _, nv, .ref t5, startL W, e5, ws5, _, G5, rfl, Same.refl _, hn4.same (s6.trans s5), by rw [List.take_zero]; rfl, lok0, en5, pw5, rows0, S5⟩ (fun i σ H' _ h => ?_) (fun i y σ H' hy h => ?_) (fun σ H' h => ?_)⟩
    · obtain ⟨_, _, _, _, _, _, _, _, G', _, s', _, _, _, _, _, _, S'⟩ := h
      exact SqL.of (S'.st (s' _ _ (s05 _ _ hrl)))
    · obtain ⟨y12, y13, v, ow, l, e, ws, rows, G6, rfl, s6', hls, hl, lok, hen, pw, hrows, S6⟩ := h
      have s06 := s05.trans s6'
      obtain ⟨st, hst, hsv⟩ := prd_get prw hy
      have ir : i < r.length := (List.getElem?_eq_some_iff.mp hst).1
      have stmem : st ∈ stepsP W (toP l) := by
        have := okRow_at hok hst
        rw [hl]
        exact this
      have okp : OkP W (toP l) := by
        rw [hl]
        exact okRow_ok hw.1 (start_ok hw.1) (okRow_take hok i)
      have lnl : l.ln.length ≤ W.rm := by
        have z : (l.ln.map (toQ l.who l.tk)).length ≤ W.rm := okp.2.1
        rw [List.length_map] at z
        exact z
      have rlen := rows_len hrows
      have next : toP (aftL W l st) = endP W (startP W) (r.take (i + 1)) := by
        rw [List.take_add_one, hst]
        show toP _ = endP W (startP W) (r.take i ++ [st])
        rw [end_snoc, ← hl]
        exact aftL_to lok st
      have hsv6 := hsv.same s06
      have hw6 := hw.same s06
      refine ⟨G6, _, W, kd, sa, qa, v, y, l, st, rfl, ek, S6, hw6, hls, okp, hsv6, steps_ok stmem, fun v' G7 H7 s7 hl7 S7 => ?_⟩
      have hsv7 := hsv6.same s7
      have hw7 := hw6.same s7
      have hen7 := hen.same s7
      have pw7 := rws_same s7 pw
      obtain ⟨ea, de, eea, hea, _⟩ := id hen7
      cases eea
      have s07 := s06.trans s7
      have s57 := s6'.trans s7
      refine ⟨fun σ H' => ∃ (y13 : Option V) (ow : V) (e : Addr) (ws : List V) (rows : List Rw) (G' : Hp), σ = [some (.str kd.wd), some (.ref sa), some (.int (W.rm : Nat)), some (.ref qa), some (.ref rl), some (.bl dh), some (.ref x), some (.ref fx), some v', some (.int ((aftL W l st).who : Nat)), some (.ref e), some (.int (aftL W l st).sh), some y, y13] ∧
        Same G7 G' ∧ EnAt G' T.C_Entry (.ref e) ⟨ow, kd.wd, ((aftL W l st).who : Nat), ((aftL W l st).tk : Nat), ((aftL W l st).la : Nat), (aftL W l st).du⟩ ∧ Paired (RwAt G') ws rows ∧ Rows rows (aftL W l st).ln ∧ Sep G' ((x, .ins T.C_Line dx (lnF sa (W.rm : Nat) ll (((aftL W l st).tk : Nat) + 1) ((aftL W l st).ed : Nat))) :: (ll, .lst ws) :: (dx, .own x) :: M) H', ?_, fun σ' H8 h => ?_⟩
      · cases st with
        | far =>
          obtain ⟨b, rfl, hb⟩ := hsv7
          have hT := SqT.of (K := K) (S7.st hb)
          refine ⟨_, _, .inr hT, atI_nat (j := 0) rfl, fun z => absurd z (by decide +kernel), fun _ => ?_⟩
          refine ⟨_, _, .inr hT, atI_nat (j := 0) rfl, fun _ => ?_, fun z => absurd z (by decide +kernel)⟩
          have hg : l.ed + 1 < W.st.length := steps_ok stmem
          refine ⟨x, dx, _, rfl, S7.hd, rfl, G7, _, x, dx, sa, ll, (W.rm : Nat), (l.tk : Nat) + 1, (l.ed : Nat), W.st, rfl, S7, hw7.2.1, fun _ H8 S8 => ?_, fun z => absurd (show ((l.ed : Nat) : Int) + 1 < (W.st.length : Nat) by omega) z⟩
          refine ⟨_, ow, e, ws, rows, G7, rfl, Same.refl _, hen7, pw7, hrows, ?_⟩
          have e8 : (((l.ed + 1 : Nat)) : Int) = ((l.ed : Nat) : Int) + 1 := Int.natCast_succ _
          show Sep G7 ((x, .ins T.C_Line dx (lnF sa (W.rm : Nat) ll ((l.tk : Nat) + 1) ((l.ed + 1 : Nat) : Int))) :: _) H8
          rw [e8]
          exact S8
        | land n =>
          obtain ⟨b, rfl, hb⟩ := hsv7
          have hT := SqT.of (K := K) (S7.st hb)
          refine ⟨_, _, .inr hT, atI_nat (j := 0) rfl, fun _ => ?_, fun z => absurd z (by decide +kernel)⟩
          have hg : n < rows.length := by
            have z : n < (l.ln.map (toQ l.who l.tk)).length := steps_ok stmem
            rw [List.length_map] at z
            omega
          refine ⟨x, dx, _, rfl, S7.hd, rfl, _, _, .inr hT, atI_nat (j := 1) rfl, ?_⟩
          refine ⟨G7, _, x, dx, sa, ll, (W.rm : Nat), (l.tk : Nat) + 1, (l.ed : Nat), (n : Nat), ws, rows, rfl, S7, pw7, by omega, by omega, by omega, fun k0 r0 e8 ws8 G8 H8 hk hr8 s8 en8 pw8 S8 => ?_⟩
          obtain rfl : k0 = n := by omega
          obtain ⟨lq, hlq, w1, w2, w3, w4⟩ := rows_at hrows hr8
          obtain ⟨ea8, de8, eea8, hea8, _⟩ := id en8
          cases eea8
          have he8 := S8.st (s8 _ _ hea)
          refine lets5 T (fun R h => h) (fun R h => ⟨e, T.C_Entry, de, _, _, rfl, he8, T.cl_Entry, T.na_Entry_question, enF_qu, e, T.C_Entry, de, _, _, rfl, he8, T.cl_Entry, T.na_Entry_ticket, enF_tk, h⟩) (S8.st (s8 _ _ (s7 _ _ (s6' _ _ (s5 _ _ (s6 _ _ (s4 _ _ hfx))))))) (S8.st hea8) ?_
          have ea : aftL W l (.land k0) = ⟨l.ed, l.ln.take k0 ++ l.ln.drop (k0 + 1), l.who, l.la, l.tk, l.du, if W.lt (decide (lq.who = l.who)) (decide (lq.qu = l.la)) (decide (lq.tk = l.tk)) then lq.an else l.sh⟩ := by
            show (match l.ln[k0]? with | some e => _ | none => l) = _
            rw [hlq]
          have ez : kd.f r0 (l.who : Nat) (l.la : Nat) (l.tk : Nat) = W.lt (decide (lq.who = l.who)) (decide (lq.qu = l.la)) (decide (lq.tk = l.tk)) := by
            rw [kd_fG, ek, w1, w2, w3]
            simp only [Int.natCast_inj]
          rw [ea]
          refine ⟨fun e1 => ?_, fun e1 => ?_⟩
          · refine ⟨e8, T.C_Entry, de8, _, _, rfl, S8.st hea8, T.cl_Entry, T.na_Entry_answer, enF_an, ?_⟩
            rw [if_pos (ez.symm.trans e1), ← w4]
            exact ⟨_, ow, e, ws8, _, G8, rfl, s8, hen7.same s8, pw8, rows_erase hrows k0, S8⟩
          · rw [if_neg (by rw [← ez, e1]; decide)]
            exact ⟨_, ow, e, ws8, _, G8, rfl, s8, hen7.same s8, pw8, rows_erase hrows k0, S8⟩
        | ask qn =>
          obtain ⟨b, rfl, hb⟩ := hsv7
          have hT := SqT.of (K := K) (S7.st hb)
          refine ⟨_, _, .inr hT, atI_nat (j := 0) rfl, fun z => absurd z (by decide +kernel), fun _ => ?_⟩
          refine ⟨_, _, .inr hT, atI_nat (j := 0) rfl, fun z => absurd z (by decide +kernel), fun _ => ?_⟩
          refine ⟨_, _, .inr hT, atI_nat (j := 0) rfl, ?_⟩
          have qm : qn ∈ W.qs := steps_ok stmem
          obtain ⟨z8, hz8, ha8⟩ := st_row hw.1 (e := l.ed) okp.1 (hw.1.q3 qn qm)
          refine ⟨x, dx, _, rfl, S7.hd, rfl, sz, fun t9 nt9 => ?_⟩
          obtain ⟨G9, s9, S9, k9⟩ := Sep.mk (o := .tup []) S7 nt9
          have how9 : OwAt G9 (.ref t9) := ⟨t9, [], rfl, k9, Nat.zero_le _, fun _ h => nomatch h⟩
          refine ⟨_, _, .inr (SqT.of (S9.st (s9 _ _ hb))), atI_nat (j := 1) rfl, ?_⟩
          have ew : ((l.who : Nat) : Int) + (if decide ((Str.ofString "ask") = Str.ofString "again") = true then 1 else 0) = ((l.who : Nat) : Int) := by
            rw [if_neg (by decide +kernel)]
            omega
          refine ⟨G9, _, x, dx, sa, ll, (W.rm : Nat), (l.tk : Nat) + 1, l.ed, qn, ws, rows, W.st, z8, .ref t9, kd.wd, _, W.an l.ed qn, rfl, S9, rws_same s9 pw7, (hw7.same s9).2.1, how9, hz8, ha8, by omega, by omega, by omega, fun e8 ws8 G8 H8 s8 en8 pw8 S8 => ?_⟩
          rw [ew] at en8 pw8 ⊢
          have et : (((l.tk + 1 : Nat)) : Int) = ((l.tk : Nat) : Int) + 1 := Int.natCast_succ _
          rw [← et] at en8 pw8 S8
          refine ⟨_, .ref t9, e8, ws8, _, G8, rfl, s9.trans s8, en8, pw8, ?_, S8⟩
          exact rows_push hrows lnl rm1.1 (e := ⟨l.who, l.tk + 1, qn, W.an l.ed qn⟩) rfl
        | again qn =>
          obtain ⟨b, rfl, hb⟩ := hsv7
          have hT := SqT.of (K := K) (S7.st hb)
          refine ⟨_, _, .inr hT, atI_nat (j := 0) rfl, fun z => absurd z (by decide +kernel), fun _ => ?_⟩
          refine ⟨_, _, .inr hT, atI_nat (j := 0) rfl, fun z => absurd z (by decide +kernel), fun _ => ?_⟩
          refine ⟨_, _, .inr hT, atI_nat (j := 0) rfl, ?_⟩
          have qm : qn ∈ W.qs := steps_ok stmem
          obtain ⟨z8, hz8, ha8⟩ := st_row hw.1 (e := l.ed) okp.1 (hw.1.q3 qn qm)
          refine ⟨x, dx, _, rfl, S7.hd, rfl, sz, fun t9 nt9 => ?_⟩
          obtain ⟨G9, s9, S9, k9⟩ := Sep.mk (o := .tup []) S7 nt9
          have how9 : OwAt G9 (.ref t9) := ⟨t9, [], rfl, k9, Nat.zero_le _, fun _ h => nomatch h⟩
          refine ⟨_, _, .inr (SqT.of (S9.st (s9 _ _ hb))), atI_nat (j := 1) rfl, ?_⟩
          have ew : ((l.who : Nat) : Int) + (if decide ((Str.ofString "again") = Str.ofString "again") = true then 1 else 0) = ((l.who + 1 : Nat) : Int) := by
            rw [if_pos (by decide +kernel)]
            omega
          refine ⟨G9, _, x, dx, sa, ll, (W.rm : Nat), (l.tk : Nat) + 1, l.ed, qn, ws, rows, W.st, z8, .ref t9, kd.wd, _, W.an l.ed qn, rfl, S9, rws_same s9 pw7, (hw7.same s9).2.1, how9, hz8, ha8, by omega, by omega, by omega, fun e8 ws8 G8 H8 s8 en8 pw8 S8 => ?_⟩
          rw [ew] at en8 pw8 ⊢
          have et : (((l.tk + 1 : Nat)) : Int) = ((l.tk : Nat) : Int) + 1 := Int.natCast_succ _
          rw [← et] at en8 pw8 S8
          refine ⟨_, .ref t9, e8, ws8, _, G8, rfl, s9.trans s8, en8, pw8, ?_, S8⟩
          exact rows_push hrows lnl rm1.1 (e := ⟨l.who + 1, l.tk + 1, qn, W.an l.ed qn⟩) rfl
      · obtain ⟨y13', ow', e', ws', rows', G8, rfl, s8, en8, pw8, rows8, S8⟩ := h
        have hl8 := hl7.same s8
        obtain ⟨na, nl, nws, rfl, g1, g2, g3⟩ := id hl8
        have hN := SqT.of (K := K) (S8.st g1)
        obtain ⟨ea', de', eea', hea', _⟩ := id en8
        cases eea'
        have he' := S8.st hea'
        refine ⟨_, _, .inr hN, atI_nat (j := 6) rfl, fun e1 => absurd e1 (by simp), fun _ => ?_⟩
        refine ⟨e', T.C_Entry, de', _, _, rfl, he', T.cl_Entry, T.na_Entry_answer, enF_an, _, _, .inr hN, atI_nat (j := 5) rfl, fun e1 => absurd e1 (by simp), fun _ => ?_⟩
        refine ⟨x, dx, _, rfl, S8.hd, x, dx, sa, ll, _, _, _, rfl, S8.hd, _, _, .inr hN, atI_nat (j := 0) rfl, fun e1 => absurd e1 (by simp), fun _ => ?_⟩
        have fin : ∃ (y12 y13 : Option V) (v ow : V) (l' : Ls) (e : Addr) (ws : List V) (rows : List Rw) (G' : Hp), ([some (.str kd.wd), some (.ref sa), some (.int (W.rm : Nat)), some (.ref qa), some (.ref rl), some (.bl dh), some (.ref x), some (.ref fx), some (.ref na), some (.int ((aftL W l st).who : Nat)), some (.ref e'), some (.int (aftL W l st).sh), some y, y13'] : List (Option V)) = [some (.str kd.wd), some (.ref sa), some (.int (W.rm : Nat)), some (.ref qa), some (.ref rl), some (.bl dh), some (.ref x), some (.ref fx), some v, some (.int (l'.who : Nat)), some (.ref e), some (.int l'.sh), y12, y13] ∧
            Same G5 G' ∧ LsAt K G' v l' ∧ toP l' = endP W (startP W) (r.take (i + 1)) ∧ LOk l' ∧ EnAt G' T.C_Entry (.ref e) ⟨ow, kd.wd, (l'.who : Nat), (l'.tk : Nat), (l'.la : Nat), l'.du⟩ ∧ Paired (RwAt G') ws rows ∧ Rows rows l'.ln ∧ Sep G' ((x, .ins T.C_Line dx (lnF sa (W.rm : Nat) ll ((l'.tk : Nat) + 1) (l'.ed : Nat))) :: (ll, .lst ws) :: (dx, .own x) :: M) H8 :=
          ⟨_, _, _, ow', aftL W l st, e', ws', rows', G8, rfl, s57.trans s8, hl8, next, aftL_ok lok st, en8, pw8, rows8, S8⟩
        cases dh with
        | false => exact ⟨ff, fun _ => ⟨ff, fun _ => fin⟩⟩
        | true =>
          refine ⟨fun _ => ⟨_, _, rfl, hl8.same S8.1, ?_⟩, tt⟩
          have := hdue rfl (i + 1) (by omega)
          rw [← next] at this
          rw [this]
          exact ⟨ff, fun _ => fin⟩
    · obtain ⟨y12, y13, v, ow, l, e, ws, rows, G6, rfl, s6', hls, hl, lok, hen, pw, hrows, S6⟩ := h
      obtain ⟨na, nl, nws, rfl, g1, g2, g3⟩ := id hls
      have rlen := rows_len hrows
      have okp : OkP W (toP l) := by
        rw [hl]
        exact okRow_ok hw.1 (start_ok hw.1) (okRow_take hok _)
      have lnl : l.ln.length ≤ W.rm := by
        have z : (l.ln.map (toQ l.who l.tk)).length ≤ W.rm := okp.2.1
        rw [List.length_map] at z
        exact z
      refine ⟨x, dx, _, rfl, S6.hd, rfl, G6, _, x, dx, sa, ll, _, _, _, ws, rows, rfl, S6, pw, by omega, fun L es G7 H7 s7 pe S7 => ?_⟩
      refine ⟨_, .inl (SqL.of S7.hd), _, _, .inr (SqT.of (S7.st (s7 _ _ g1))), atI_nat (j := 1) rfl, _, .inr (S7.t (same_t s7 g2)), ?_⟩
      have e1 := prd_len pe
      have e2 := prd_len g3
      show Q (.bl (decide (((es.length : Nat) : Int) = (nws.length : Nat)))) _
      rw [decide_eq_true (by omega)]
      exact q G7 _ (s05.trans (s6'.trans s7)) S7.drop.drop.drop.drop

end
end K48
set_option Elab.async false
set_option linter.all false
set_option maxRecDepth 100000
set_option maxHeartbeats 4000000
namespace K48
open PySem PySem.Spec PyProof.Rows L2 XL
section
variable {P : Program} {w : World} {K : PySem.W.Frag} {mg : Str → Option Value} {base : Heap}
/-! ### the law -/
theorem le_lt (a b : Kd) (h : leK a b = true) : ∀ x y z, a.lt x y z = true → b.lt x y z = true := by
  cases a <;> cases b <;> first | (exact by decide +kernel) | exact absurd h (by decide +kernel)
def setK (a o s b l : Bool) : Kd → Bool
  | .a => a
  | .o => o
  | .s => s
  | .b => b
  | .l => l
def neverK (late : Kd → Bool) (k : Kd) : Bool := !decide (((weakL late).filter fun o => leK k o).length = 0)
theorem never_fin : ∀ a o s b l : Bool, ∀ k ∈ kds, (∀ x ∈ kds, ∀ y ∈ kds, leK x y = true → setK a o s b l x = true → setK a o s b l y = true) → neverK (setK a o s b l) k = !setK a o s b l k := by decide +kernel
theorem never_late (late : Kd → Bool) (m : ∀ x y, leK x y = true → late x = true → late y = true) (k : Kd) : neverK late k = !late k := by
  have e : late = setK (late .a) (late .o) (late .s) (late .b) (late .l) := by
    funext x
    cases x <;> rfl
  have h := never_fin (late .a) (late .o) (late .s) (late .b) (late .l) k (kds_mem k)
  rw [← e] at h
  exact h fun x _ y _ => m x y
theorem vstr_perm {ys : List V} {zs : List Str} (h : ys.Perm (zs.map V.str)) : ∀ y ∈ ys, ∃ z ∈ zs, y = .str z := fun y hy => by
  obtain ⟨z, hz, e⟩ := List.mem_map.mp (h.mem_iff.mp hy)
  exact ⟨z, hz, e.symm⟩
def spLaw (K : PySem.W.Frag) : Sp := fun vs H Q _ => ∃ (a : Addr) (ns : List Int), vs = [.ref a] ∧ SqL K H a (ns.map V.int) ∧ ns.length ≤ 63 ∧ ∀ H', Q (.bl true) H'
theorem ok_law (T : Top K mg w) {k : Nat} (G_bag : FnOk P w K mg base CX0 k T.a_bag T.d_bag ["_law_script"] (spBag K)) (G_world : FnOk P w K mg base CX0 k T.a_world T.d_world ["_law_bag_here", "_law_most"] spWorld)
    (G_late_words : FnOk P w K mg base CX0 k T.a_late_words T.d_late_words ["_law_store", "_law_width", "_law_asked"] (spLateW K)) (G_due : FnOk P w K mg base CX0 k T.a_due T.d_due ["_law_late"] (spDue K)) (G_weakest : FnOk P w K mg base CX0 k T.a_weakest T.d_weakest ["far", "room", "questions"] (spWeakest K))
    (G_drawn_steps : FnOk P w K mg base CX0 k T.a_drawn_steps T.d_drawn_steps ["_law_bag_here", "_law_store", "_law_width", "_law_asked"] (spDrawn K)) (G_words : FnOk P w K mg base CX0 k T.a_words T.d_words [] spWords) (G_at_most : FnOk P w K mg base CX0 k T.a_at_most T.d_at_most ["_law_first", "_law_second"] spAtM) (G_played : FnOk P w K mg base CX0 k T.a_played T.d_played ["_law_word", "_law_store", "_law_width", "_law_asked", "_law_steps_here", "_law_due_here"] (spPlayed K)) :
    FnOk P w K mg base CX0 (k + 1) T.a_law T.d_law ["_law_script"] (spLaw K) := by
  refine T.F_law.ok sc_law (fun vs H Q E h => ?_) (fun cdv A outer s H vs Q E hr h => ?_)
  · obtain ⟨a, ns, rfl, _⟩ := h
    rfl
  · obtain ⟨a, nn, rfl, ha, hl, q⟩ := h
    refine ⟨_, (pss_cons (ps_set (i := 1) sc_law.nd rfl (.inl rfl) (pe_call G_bag (hr.mono (by omega)) (by rfl) T.g_bag T.F_bag.kp T.b_bag .nil pass0 (pa_cons (xv 0) pa_nil)))
      (pss_cons (ps_asg (pe_call G_world (hr.mono (by omega)) (by rfl) T.g_world T.F_world.kp T.b_world .nil pass0 (pa_cons (xv 1) (pa_cons pe_int pa_nil))) (pg_tupK K 3 (pgs_cons (pg_name (i := 2) sc_law.nd rfl (.inl rfl)) (pgs_cons (pg_name (i := 3) sc_law.nd rfl (.inl rfl)) (pgs_cons (pg_name (i := 4) sc_law.nd rfl (.inl rfl)) pgs_nil)))))
      (pss_cons (ps_set (i := 5) sc_law.nd rfl (.inl rfl) (pe_call G_late_words (hr.mono (by omega)) (by rfl) T.g_late_words T.F_late_words.kp T.b_late_words .nil pass0 (pa_cons (xv 2) (pa_cons (xv 3) (pa_cons (xv 4) pa_nil)))))
      (pss_cons (ps_set (i := 6) sc_law.nd rfl (.inl rfl) (pe_call G_due (hr.mono (by omega)) (by rfl) T.g_due T.F_due.kp T.b_due .nil pass0 (pa_cons (xv 5) pa_nil)))
      (pss_cons (ps_set (i := 7) sc_law.nd rfl (.inl rfl) (pe_callTy (call_listK K) (by rfl) T.m_list (by decide +kernel) (pa_cons (xv 4) pa_nil)))
      (pss_cons (ps_set (i := 8) sc_law.nd rfl (.inl rfl) (pe_call G_weakest (hr.mono (by omega)) (by rfl) T.g_weakest T.F_weakest.kp T.b_weakest .nil pass0 (pa_cons (xv 2) (pa_cons (xv 3) (pa_cons (xv 7) pa_nil)))))
      (pss_cons (xs_if (PW.pt (xw_or (pt_not (xt_truK K (pe_callB (call_isK K) (by rfl) T.m_isinstance (by decide +kernel) (pa_cons (xv 8) (pa_cons (pe_bltn (v := .ty "tuple") (by rfl) T.m_tuple (by decide +kernel) rfl) pa_nil))))) (xw_or (xt_cmp (op_neLK K hr.u190) (xv 8) (xv 6) (nomark _)) (pw_or1 (xt_cmp (op_neLK K hr.u190) (xv 7) (xv 4) (nomark _))))))
      (pss_one (ps_ret pe_bl))
      pss_nil)
      (pss_cons (ps_set (i := 9) sc_law.nd rfl (.inl rfl) (pe_call G_drawn_steps (hr.mono (by omega)) (by rfl) T.g_drawn_steps T.F_drawn_steps.kp T.b_drawn_steps .nil pass0 (pa_cons (xv 1) (pa_cons (xv 2) (pa_cons (xv 3) (pa_cons (xv 4) pa_nil))))))
      (pss_cons (ps_for PassesOwn.never rfl (pi_listK K (pe_call0 G_words (hr.mono (by omega)) (by rfl) T.g_words T.F_words.kp T.b_words .nil pass0)) (pg_name (i := 10) sc_law.nd rfl (.inr rfl))
      (pss_cons (ps_set (i := 11) sc_law.nd rfl (.inl rfl) (pe_cmpR (op_neLK K hr.u190) (pe_lc (own := [("_law_other", 12)]) (by rfl) sc_law.nd (pi_tupK K (xv 6)) (blkOk_by (N := ["_law_script", "_law_bag_here", "_law_store", "_law_width", "_law_asked", "_law_late", "_law_due_here", "_law_given", "_law_told", "_law_steps_here", "_law_word", "_law_never", "_law_other"]) (sc := defScope s_law) (by decide +kernel)) (fun _ _ _ _ _ => (pg_name (i := 12) sc_law.nd rfl (.inl rfl))) (fun _ _ _ _ _ => (pts_one (xt_truK K (pe_call G_at_most (hr.mono (by omega)) (by rfl) T.g_at_most T.F_at_most.kp T.b_at_most .nil pass0 (pa_cons (xv 10) (pa_cons (xv 12) pa_nil)))))) (fun _ _ _ _ _ => (xv 12))) (pe_lst pa_nil) (nomark _)))
      (pss_cons (xs_if (xt_cmp (op_eqLK K hr.u190) (xv 11) (pe_cmpR (in_seqK K) (xv 10) (xv 5) (by rfl)) (nomark _))
      (pss_one (ps_ret pe_bl))
      pss_nil)
      (pss_one (xs_if (pt_not (xt_truK K (pe_call G_played (hr.mono (by omega)) (by rfl) T.g_played T.F_played.kp T.b_played .nil pass0 (pa_cons (xv 10) (pa_cons (xv 2) (pa_cons (xv 3) (pa_cons (xv 4) (pa_cons (xv 9) (pa_cons (xv 11) pa_nil)))))))))
      (pss_one (ps_ret pe_bl))
      pss_nil)))))
      (pss_one (ps_ret pe_bl))))))))))), ?_⟩
    refine ⟨H, [], a, nn, rfl, sep0, ha, hl, fun b o1 G1 H1 _ B1 S1 => ?_⟩
    refine ⟨G1, _, b, o1, 6, rfl, by decide, S1, B1, fun t sa qa st rm qs o2 G2 H2 s2 ht hw hbd B2 S2 => ?_⟩
    refine ⟨t, _, rfl, SqT.of (S2.st ht), rfl, _, _, rfl, _, _, rfl, _, _, rfl, rfl, ?_⟩
    have wa : ∀ lt, OkA ⟨st, rm, qs, lt⟩ := fun lt => ⟨(hw lt).1, hbd⟩
    refine ⟨G2, _, st, rm, qs, sa, qa, rfl, S2, hw, wa, fun lv fs G3 H3 s3 hfs hlv S3 => ?_⟩
    refine ⟨G3, _, lv, kds.filter fun k => decide (k ∈ fs), rfl, S3, hlv, fun dv G4 H4 s4 hdv S4 => ?_⟩
    have hq2 := (hw fun _ _ _ => false).2.2
    have hw4 := fun lt => ((hw lt).same s3).same s4
    refine ⟨qa, _, rfl, .inl (SqL.of (S4.st (hw4 fun _ _ _ => false).2.2)), fun g ng => ?_⟩
    obtain ⟨G5, s5, S5, k5⟩ := Sep.mk (o := .lst (qs.map nV)) S4 ng
    have hw5 := fun lt => (hw4 lt).same s5
    have hwg : ∀ lt, WAt G5 ⟨st, rm, qs, lt⟩ sa g := fun lt => ⟨(hw5 lt).1, (hw5 lt).2.1, k5⟩
    let R : Kd → Rs := fun k => bfsN ⟨st, rm, qs, k.lt⟩ 16264081 [(startP ⟨st, rm, qs, k.lt⟩, [])] [(startP ⟨st, rm, qs, k.lt⟩, [])]
    have sr : ∀ k : Kd, Srch ⟨st, rm, qs, k.lt⟩ (startP ⟨st, rm, qs, k.lt⟩) 0 [(startP ⟨st, rm, qs, k.lt⟩, [])] [(startP ⟨st, rm, qs, k.lt⟩, [])] := fun k => srch0 (W := ⟨st, rm, qs, k.lt⟩) (p0 := startP ⟨st, rm, qs, k.lt⟩) (late_sh0 rfl)
    have nm : ∀ k : Kd, R k ≠ .many := fun k => bfsN_ends (wa k.lt) (start_okQ (wa k.lt)) 16264081 0 _ _ (sr k) (by show 16264080 < 16264081 + 1; decide)
    have fd : ∀ k : Kd, Found ⟨st, rm, qs, k.lt⟩ (startP ⟨st, rm, qs, k.lt⟩) (R k) := fun k => bfsN_found 16264081 0 _ _ (sr k)
    refine ⟨G5, _, st, rm, qs, sa, g, R, rfl, S5, hwg, wa, fun k => ⟨nm k, 16264081, rfl⟩, fun tv G6 H6 s6 htv S6 => ?_⟩
    let late : Kd → Bool := fun k => decide (k ∈ fs)
    have eL : ∀ k : Kd, (R k).isL = late k := fun k => by
      have h1 := soon_late (wa k.lt) k rfl (nm k) (fd k)
      have h2 := hfs k
      show (R k).isL = decide (k ∈ fs)
      cases z : (R k).isL with
      | true =>
        rw [z] at h1
        exact (decide_eq_true (h2.mpr (h1.mp rfl))).symm
      | false =>
        refine (decide_eq_false fun m => ?_).symm
        have := h1.mpr (h2.mp m)
        rw [z] at this
        cases this
    have eD : (weakL fun k => decide (k ∈ kds.filter fun k => decide (k ∈ fs))) = weakL late := by
      congr 1
      funext k
      show decide _ = decide _
      rw [decide_eq_decide, List.mem_filter]
      simp [kds_mem]
    rw [eD] at hdv
    have eW : (weakL fun k => (R k).isL) = weakL late := by
      congr 1
      funext k
      exact eL k
    rw [eW] at htv
    have mono : ∀ x y, leK x y = true → late x = true → late y = true := fun x y h1 h2 => by
      have hx := (hfs x).mp (of_decide_eq_true h2)
      obtain ⟨r, k1, k2, c, c1, c2, c3⟩ := hx
      exact decide_eq_true ((hfs y).mpr ⟨r, k1, k2, c, c1, le_lt x y h1 _ _ _ c2, c3⟩)
    have hdv6 := s6 _ _ (s5 _ _ hdv)
    have layT : ∀ l : List Kd, (PyData.tuple (l.map fun k => .str k.wd)).canLay0 = true := fun l => by
      simp only [PyData.canLay0]
      exact layAll fun d hd => by
        obtain ⟨k, _, rfl⟩ := List.mem_map.mp hd
        exact wd_lay k
    have depT : ∀ l : List Kd, (PyData.tuple (l.map fun k => .str k.wd)).depth ≤ 190 := fun l => by
      have := depthAll_le (n := 2) (xs := l.map fun k : Kd => PyData.str k.wd) fun d hd => by
        obtain ⟨k, _, rfl⟩ := List.mem_map.mp hd
        simp only [PyData.depth]
        omega
      simp only [PyData.depth]
      omega
    refine ⟨_, _, _, _, true, rfl, .ty _, .base (.tup (S6.st htv)), kit_ty (by decide +kernel), ff, fun _ => ?_⟩
    refine ⟨.tuple ((weakL late).map fun k => .str k.wd), .tuple ((weakL late).map fun k => .str k.wd), .tup (SqT.of (S6.st htv)) (dp_words _), .tup (SqT.of (S6.st hdv6)) (dp_words _), layT _, layT _, depT _, ?_⟩
    rw [SeqAt.eqv_refl _ (layT _)]
    refine ⟨ff, fun _ => ?_⟩
    have hw6 := fun lt => (hw5 lt).same s6
    have g6 : G6 g = some (.lst (qs.map nV)) := s6 _ _ k5
    have q6 : G6 qa = some (.lst (qs.map nV)) := (hw6 fun _ _ _ => false).2.2
    have eints : qs.map nV = (qs.map fun n => ((n : Nat) : Int)).map V.int := by rw [List.map_map]; rfl
    rw [eints] at g6 q6
    have lay := lay_ints (qs.map fun n => ((n : Nat) : Int))
    have layL : (PyData.list ((qs.map fun n => ((n : Nat) : Int)).map PyData.int)).canLay0 = true := by
      simp only [PyData.canLay0]
      exact lay.1
    have depL : (PyData.list ((qs.map fun n => ((n : Nat) : Int)).map PyData.int)).depth ≤ 190 := by
      simp only [PyData.depth]
      have := lay.2
      omega
    refine ⟨.list ((qs.map fun n => ((n : Nat) : Int)).map PyData.int), .list ((qs.map fun n => ((n : Nat) : Int)).map PyData.int), .lst (SqL.of (S6.st g6)) (dp_ints _), .lst (SqL.of (S6.st q6)) (dp_ints _), layL, layL, depL, ?_⟩
    rw [SeqAt.eqv_refl _ layL]
    refine ⟨ff, fun _ => ?_⟩
    have B6 := B2.same (s3.trans (s4.trans (s5.trans s6)))
    refine ⟨G6, _, b, o2, st, rm, qs, sa, qa, rfl, S6, B6, hw6, fun sv sws r o7 G7 H7 s7 hsv pws okr B7 S7 => ?_⟩
    refine ⟨rfl, fun N nN => ?_⟩
    obtain ⟨G8, s8, S8, k8⟩ := Sep.mk (o := .lst (wds.map V.str)) S7 nN
    have hdv8 := s8 _ _ (s7 _ _ hdv6)
    have hlv8 := s8 _ _ (s7 _ _ (s6 _ _ (s5 _ _ (s4 _ _ hlv))))
    have hw8 := fun lt => ((hw6 lt).same s7).same s8
    have hrow8 : RowAt G8 (.ref sv) r := ⟨sv, sws, rfl, s8 _ _ hsv, stps_same s8 pws⟩
    refine ⟨N, rfl, ⟨_, SqL.of (S8.st k8)⟩, for_list (xs := kds.map fun k => V.str k.wd) (fun i σ H' => ∃ (y9 y10 : Option V) (G' : Hp), σ = [some (.ref a), some (.ref b), some (.ref sa), some (.int (rm : Nat)), some (.ref qa), some (.ref lv), some (.ref dv), some (.ref g), some (.ref tv), some (.ref sv), y9, y10, none] ∧ Same G8 G' ∧ Sep G' [(b, o7)] H')
      ⟨_, _, G8, rfl, Same.refl _, S8⟩ (fun i σ H' _ h => ?_) (fun i y σ H' hy h => ?_) (fun σ H' h => ?_)⟩
    · obtain ⟨_, _, G', _, s', S'⟩ := h
      exact SqL.of (S'.st (s' _ _ k8))
    · obtain ⟨y9, y10, G9, rfl, s9, S9⟩ := h
      obtain ⟨kd, hk, rfl⟩ := kdv_get hy
      have hdv9 := s9 _ _ hdv8
      let pw : Kd → Bool := fun o => leK kd o
      have wl : (weakL late).length ≤ 5 := Nat.le_trans (List.length_filter_le _ _) (enough_len late)
      have fl : ∀ n : Nat, (((weakL late).take n).filter pw).length ≤ 5 := fun n => by
        have := List.length_filter_le pw ((weakL late).take n)
        have h2 : ((weakL late).take n).length ≤ (weakL late).length := by rw [List.length_take]; exact Nat.min_le_right _ _
        omega
      refine ⟨dv, rfl, ⟨_, SqT.of (S9.st hdv9)⟩, fun D nD => lc_tup (xs := (weakL late).map fun k => V.str k.wd) (fun j H' => ∃ G' : Hp, Same G9 G' ∧ Sep G' ((D, .lst ((((weakL late).take j).filter pw).map fun k => V.str k.wd)) :: [(b, o7)]) H')
        ⟨G9, Same.refl _, S9.new nD⟩ (fun j H' _ h => ?_) (fun j y H' hy h => ⟨rfl, ?_⟩) (fun H' h => ?_)⟩
      · obtain ⟨G', s', S'⟩ := h
        exact SqT.of (S'.st (s' _ _ hdv9))
      · obtain ⟨G', s', S'⟩ := h
        obtain ⟨o, ho, rfl⟩ := kdv_get hy
        have fs := flt_step pw ho
        refine ⟨G', _, kd, o, rfl, S', fun G10 H10 s10 S10 => ?_⟩
        have s910 := s'.trans s10
        refine tst (fun e2 => ?_) (fun e2 => ?_)
        · have e2 : pw o = true := e2
          refine ⟨_, S10.hd, smallL (by rw [List.length_map]; have := fl j; omega), G10, s910, ?_⟩
          rw [fs, if_pos e2, List.map_append]
          exact S10.set
        · have e2 : pw o = false := e2
          refine ⟨G10, s910, ?_⟩
          rw [fs, if_neg (by rw [e2]; decide), List.append_nil]
          exact S10
      · obtain ⟨G10, s10, S10⟩ := h
        rw [List.length_map, List.take_length] at S10
        refine ⟨sz, fun Z nZ => ?_⟩
        obtain ⟨G11, s11, S11, k11⟩ := Sep.mk (o := .lst []) S10 nZ
        have layW := datW_lay ((weakL late).filter pw)
        refine ⟨datW ((weakL late).filter pw), .list [], .lst (SqL.of S11.hd) (dp_words _), .lst (SqL.of (S11.st k11)) .nil, layW.1, rfl, layW.2, ?_⟩
        have ee : PyData.eqv (datW ((weakL late).filter pw)) (.list []) = decide (((weakL late).filter pw).length = 0) := by
          unfold datW
          rw [eqv_nil, List.length_map]
        rw [ee]
        have en : (!decide (((weakL late).filter pw).length = 0)) = !late kd := never_late late mono kd
        rw [en]
        have S12 := S11.drop
        have s8' := s9.trans (s10.trans s11)
        have s89 : Same G8 G11 := s8'
        have hlv11 := s89 _ _ hlv8
        have inl : (if false = true then !inV (V.str kd.wd) ((kds.filter fun k => decide (k ∈ fs)).map fun k => V.str k.wd) else inV (V.str kd.wd) ((kds.filter fun k => decide (k ∈ fs)).map fun k => V.str k.wd)) = late kd := by
          rw [in_wdsF]
          show decide _ = decide (kd ∈ fs)
          rw [decide_eq_decide, wd_mem, List.mem_filter]
          simp [kds_mem]
        refine ⟨lv, _, rfl, .inl (SqL.of (S12.st hlv11)), rfl, by rw [strs_wd]; exact strs_flat _, ?_⟩
        refine ⟨fun e => ?_, fun _ => ?_⟩
        · have e : decide ((!late kd) = (if false = true then !inV (V.str kd.wd) ((kds.filter fun k => decide (k ∈ fs)).map fun k => V.str k.wd) else inV (V.str kd.wd) ((kds.filter fun k => decide (k ∈ fs)).map fun k => V.str k.wd))) = true := e
          rw [inl] at e
          cases z : late kd <;> rw [z] at e <;> cases e
        · have okr' : okRow ⟨st, rm, qs, kd.lt⟩ (startP ⟨st, rm, qs, kd.lt⟩) r := (flat_row ⟨st, rm, qs, kd.lt⟩ r (startP ⟨st, rm, qs, kd.lt⟩)).mpr okr
          refine ⟨G11, _, ⟨st, rm, qs, kd.lt⟩, kd, sa, qa, .ref sv, r, !late kd, rfl, rfl, S12, (hw8 kd.lt).same s89, hrow8.same s89, okr', fun nev i hi => ?_, fun G13 H13 s13 S13 => ⟨ff, fun _ => ⟨_, _, G13, rfl, s89.trans s13, S13⟩⟩⟩
          have hn : R kd = .none := by
            have z := eL kd
            have nl : late kd = false := by simpa using nev
            rw [nl] at z
            cases e : R kd with
            | none => rfl
            | many => exact absurd e (nm kd)
            | late r => rw [e] at z; cases z
          have := fd kd
          rw [hn] at this
          exact this (r.take i) (okRow_take okr' i)
    · exact q _

end
end K48
set_option Elab.async false
set_option linter.all false
set_option maxRecDepth 100000
set_option maxHeartbeats 4000000
namespace K48
open PySem PySem.Spec PyProof.Rows L2 XL
theorem law_end {l : PySem.W.OpenLaw} {w : World} {K : PySem.W.Frag} {h : Heap} {mg : Str → Option Value} {fa f : Addr} {file : Str} (X : K.In h) (G : h.Ns mainGlobals mg) (hfa : mg "law" = some (.ref fa))
    (t : ∃ T : Top K mg w, T.a_law = f ∧ T.x_file = file ∧ ∀ (s : Shared) (v : Value), BindsTo s T.d_law ⟨[v], []⟩ [("_law_script", v)]) (pf0 : PySem.XExc.PF l.prog file) :
    ∃ fd : FuncData, (∀ (s : Shared) (v : Value), BindsTo s fd ⟨[v], []⟩ [("_law_script", v)]) ∧ ∀ base : Heap, K.In base → base.Ns mainGlobals mg → FnOk l.prog w K mg base CX0 22 fa fd ["_law_script"] (spLaw K) := by
  obtain ⟨T, _, ef, hb⟩ := t
  have pf : PySem.XExc.PF l.prog T.x_file := by rw [ef]; exact pf0
  have e := hfa.symm.trans T.g_law
  cases e
  refine ⟨T.d_law, hb, fun base _ _ => ?_⟩
  have Gp : ∀ k, FnOk l.prog w K mg base CX0 (k + 2) T.a_pick T.d_pick _ spPick := fun k => ok_pick T (k := k) (ok_mixed T)
  have Gmi : ∀ k, FnOk l.prog w K mg base CX0 (k + 3) T.a_mingled T.d_mingled _ (spMingled K) := fun k => ok_mingled T (k := k + 2) (Gp k)
  have Gei : ∀ k, FnOk l.prog w K mg base CX0 (k + 1) T.a_Entry_init T.d_Entry_init _ (spEn T.C_Entry) := fun k => ok_Entry_init T
  have Gfl : ∀ k, FnOk l.prog w K mg base CX0 (k + 1) T.a_Fence_lets T.d_Fence_lets _ (fun vs H Q E => ∃ C, spLets C T.C_Entry ltA vs H Q E) := fun k => ok_Fence_lets T
  have Gsl : ∀ k, FnOk l.prog w K mg base CX0 (k + 2) T.a_Same_lets T.d_Same_lets _ (spLets T.C_Same T.C_Entry ltS) := fun k => ok_Same_lets T pf (Gfl k)
  have Gol : ∀ k, FnOk l.prog w K mg base CX0 (k + 2) T.a_Own_lets T.d_Own_lets _ (spLets T.C_Own T.C_Entry ltO) := fun k => ok_Own_lets T pf (Gfl k)
  have Gbl : ∀ k, FnOk l.prog w K mg base CX0 (k + 4) T.a_Both_lets T.d_Both_lets _ (spLets T.C_Both T.C_Entry ltB) := fun k => ok_Both_lets T pf (ok_Own_letsB T pf (ok_Same_letsB T pf (Gfl k)))
  have Gll : ∀ k, FnOk l.prog w K mg base CX0 (k + 1) T.a_Last_lets T.d_Last_lets _ (spLets T.C_Last T.C_Entry ltL) := fun k => ok_Last_lets T
  have Gw : FnOk l.prog w K mg base CX0 21 T.a_world T.d_world _ spWorld := ok_world T (k := 20) (Gp 18) (Gmi 17) (ok_sizes T (k := 19) (Gp 17)) (ok_edition T (k := 19) (Gp 17) (Gmi 16))
  have Gle := ok_Fence_le T (k := 18) (Gei 17) (Gfl 17) (Gol 16) (Gsl 16) (Gbl 14) (Gll 17)
  have Gl : FnOk l.prog w K mg base CX0 18 T.a_landing T.d_landing _ (spLandP T K) := ok_landing T (k := 16) (Gei 15) (Gfl 15) (Gol 14) (Gsl 14) (Gbl 12) (Gll 15)
  have Gr : FnOk l.prog w K mg base CX0 20 T.a_late_row T.d_late_row _ (spLateRowN K) := ok_late_row T (k := 19) (ok_fence_ofG T) (ok_steps_of T) (ok_stand_behind T (k := 18) (ok_sending T) Gl)
  have Gwk : FnOk l.prog w K mg base CX0 21 T.a_weakest T.d_weakest _ (spWeakest K) := ok_weakest T (k := 20) Gr (ok_fence_ofG T) Gle
  have Gst : ∀ k, FnOk l.prog w K mg base CX0 (k + 1) T.a_start T.d_start _ (spStart K) := fun k => ok_start T
  have Gss : ∀ k, FnOk l.prog w K mg base CX0 (k + 1) T.a_steps T.d_steps _ (spSteps K) := fun k => ok_steps T
  have Glt : ∀ k, FnOk l.prog w K mg base CX0 (k + 1) T.a_lets T.d_lets _ spLLets := fun k => ok_lets T
  have Gaf : ∀ k, FnOk l.prog w K mg base CX0 (k + 2) T.a_after T.d_after _ (spAfter K) := fun k => ok_after T (k := k + 1) (ok_sent T) (Glt k)
  have Gwo : ∀ k, FnOk l.prog w K mg base CX0 (k + 1) T.a_words T.d_words _ spWords := fun k => ok_words T
  have Gop : ∀ k, FnOk l.prog w K mg base CX0 (k + 1) T.a_open T.d_open _ (spOpen K) := fun k => ok_open T
  have Gam : ∀ k, FnOk l.prog w K mg base CX0 (k + 2) T.a_at_most T.d_at_most _ spAtM := fun k => ok_at_most T (k := k + 1) (Glt k)
  have Glw : FnOk l.prog w K mg base CX0 21 T.a_late_words T.d_late_words _ (spLateW K) := ok_late_words T (k := 20) (Gst 19) (Gop 19) (Gss 19) (Gaf 18) (ok_letting T (k := 19) (Gwo 18) (Glt 18)) (Gwo 19)
  have Gdu : FnOk l.prog w K mg base CX0 21 T.a_due T.d_due _ (spDue K) := ok_due T (k := 20) (Gwo 19) (Gam 18)
  have Gds : FnOk l.prog w K mg base CX0 21 T.a_drawn_steps T.d_drawn_steps _ (spDrawn K) := ok_drawn_steps T (k := 20) (Gp 18) (ok_choice T (k := 19) (Gp 17)) (Gst 19) (Gss 19) (Gaf 18)
  have Gse : FnOk l.prog w K mg base CX0 19 T.a_Line_send T.d_Line_send _ (spSend T.C_Line T.C_Entry) := ok_Line_send T (k := 16) (Gei 16)
  have Gta : FnOk l.prog w K mg base CX0 19 T.a_Line_take T.d_Line_take _ (spTakeV T.C_Line T.C_Entry) := ok_Line_take T (k := 16) (Gei 16) (ok_is_number T)
  have Gen : FnOk l.prog w K mg base CX0 19 T.a_Line_entries T.d_Line_entries _ (spEntries T.C_Line T.C_Entry) := ok_Line_entries T (k := 16) (Gei 16)
  have Gpl : FnOk l.prog w K mg base CX0 21 T.a_played T.d_played _ (spPlayed K) := ok_played T (k := 19) (ok_Line_init T) (ok_fence_ofG T) Gse Gta (ok_Line_turn T) (ok_Line_edition T) Gen (Gst 18) (Gaf 17) (ok_is_late T) (Gfl 18) (Gol 17) (Gsl 17) (Gbl 15) (Gll 18)
  exact ok_law T (k := 21) (ok_bag T) Gw Glw Gdu Gwk Gds (Gwo 20) (Gam 19) Gpl
end K48
set_option Elab.async false
set_option linter.all false
set_option maxRecDepth 100000
set_option maxHeartbeats 4000000
namespace K48
open PySem PySem.Spec PyProof.Rows L2 XL
theorem top_mk {K : PySem.W.Frag} {W : World} {h : Heap} {mg : Str → Option Value} (X : K.In h) (G : h.Ns mainGlobals mg)
    {file : Str}
    {C0 : Addr}
    (ca0 : PySem.W.nsIn K mainGlobals "Entry" = some (some (.ref C0)))
    {C1 : Addr}
    (ca1 : PySem.W.nsIn K mainGlobals "Line" = some (some (.ref C1)))
    {C2 : Addr}
    (ca2 : PySem.W.nsIn K mainGlobals "Fence" = some (some (.ref C2)))
    {C3 : Addr}
    (ca3 : PySem.W.nsIn K mainGlobals "Own" = some (some (.ref C3)))
    {C4 : Addr}
    (ca4 : PySem.W.nsIn K mainGlobals "Same" = some (some (.ref C4)))
    {C5 : Addr}
    (ca5 : PySem.W.nsIn K mainGlobals "Both" = some (some (.ref C5)))
    {C6 : Addr}
    (ca6 : PySem.W.nsIn K mainGlobals "Last" = some (some (.ref C6)))
    {f0 : Addr} {od0 an0 : Option Addr} {sl0 : Array (Option Value)} {oc0 kV0 dc0 pm0 cd0 ct0 : Value}
    (a0 : PySem.W.nsIn K mainGlobals "is_number" = some (some (.ref f0)))
    (l0 : K.lookup f0 = some ⟨oc0, od0, .func (PySem.W.fnOf "is_number" "is_number" (defArgs s_is_number) (defBody s_is_number) (defScope s_is_number) .none kV0 dc0 pm0 an0 cd0 ct0), sl0⟩)
    (c0 : PySem.W.codeIn K cd0 "is_number" = true)
    (k0 : PySem.W.keepIn K (.ref f0) = true)
    {f1 : Addr} {od1 an1 : Option Addr} {sl1 : Array (Option Value)} {oc1 kV1 dc1 pm1 cd1 ct1 : Value}
    (a1 : PySem.W.findIn K (.ref C0) "__init__" = some (some (.ref f1)))
    (i1 : PySem.W.isFn K (.ref f1) = true)
    (l1 : K.lookup f1 = some ⟨oc1, od1, .func (PySem.W.fnOf "__init__" "Entry.__init__" (defArgs s_Entry_init) (defBody s_Entry_init) (defScope s_Entry_init) .none kV1 dc1 pm1 an1 cd1 ct1), sl1⟩)
    (c1 : PySem.W.codeIn K cd1 "Entry.__init__" = true)
    (k1 : PySem.W.keepIn K (.ref f1) = true)
    {f2 : Addr} {od2 an2 : Option Addr} {sl2 : Array (Option Value)} {oc2 kV2 dc2 pm2 cd2 ct2 : Value}
    (a2 : PySem.W.findIn K (.ref C1) "__init__" = some (some (.ref f2)))
    (i2 : PySem.W.isFn K (.ref f2) = true)
    (l2 : K.lookup f2 = some ⟨oc2, od2, .func (PySem.W.fnOf "__init__" "Line.__init__" (defArgs s_Line_init) (defBody s_Line_init) (defScope s_Line_init) .none kV2 dc2 pm2 an2 cd2 ct2), sl2⟩)
    (c2 : PySem.W.codeIn K cd2 "Line.__init__" = true)
    (k2 : PySem.W.keepIn K (.ref f2) = true)
    {f3 : Addr} {od3 an3 : Option Addr} {sl3 : Array (Option Value)} {oc3 kV3 dc3 pm3 cd3 ct3 : Value}
    {p3 : Addr} {pr3 : List Value}
    (a3 : PySem.W.findIn K (.ref C1) "edition" = some (some (.ref p3)))
    (pg3 : PySem.W.specialIn K (.ref p3) "__get__" = some (some (.builtin "property.__get__")))
    (pt3 : PySem.W.takesIn K (.ref p3) = some true)
    (pc3 : PySem.W.recIn K p3 "property" = some (.ref f3 :: pr3))
    (l3 : K.lookup f3 = some ⟨oc3, od3, .func (PySem.W.fnOf "edition" "Line.edition" (defArgs s_Line_edition) (defBody s_Line_edition) (defScope s_Line_edition) .none kV3 dc3 pm3 an3 cd3 ct3), sl3⟩)
    (c3 : PySem.W.codeIn K cd3 "Line.edition" = true)
    (k3 : PySem.W.keepIn K (.ref f3) = true)
    {f4 : Addr} {od4 an4 : Option Addr} {sl4 : Array (Option Value)} {oc4 kV4 dc4 pm4 cd4 ct4 : Value}
    (a4 : PySem.W.findIn K (.ref C1) "send" = some (some (.ref f4)))
    (i4 : PySem.W.isFn K (.ref f4) = true)
    (l4 : K.lookup f4 = some ⟨oc4, od4, .func (PySem.W.fnOf "send" "Line.send" (defArgs s_Line_send) (defBody s_Line_send) (defScope s_Line_send) .none kV4 dc4 pm4 an4 cd4 ct4), sl4⟩)
    (c4 : PySem.W.codeIn K cd4 "Line.send" = true)
    (k4 : PySem.W.keepIn K (.ref f4) = true)
    {f5 : Addr} {od5 an5 : Option Addr} {sl5 : Array (Option Value)} {oc5 kV5 dc5 pm5 cd5 ct5 : Value}
    (a5 : PySem.W.findIn K (.ref C1) "take" = some (some (.ref f5)))
    (i5 : PySem.W.isFn K (.ref f5) = true)
    (l5 : K.lookup f5 = some ⟨oc5, od5, .func (PySem.W.fnOf "take" "Line.take" (defArgs s_Line_take) (defBody s_Line_take) (defScope s_Line_take) .none kV5 dc5 pm5 an5 cd5 ct5), sl5⟩)
    (c5 : PySem.W.codeIn K cd5 "Line.take" = true)
    (k5 : PySem.W.keepIn K (.ref f5) = true)
    {f6 : Addr} {od6 an6 : Option Addr} {sl6 : Array (Option Value)} {oc6 kV6 dc6 pm6 cd6 ct6 : Value}
    (a6 : PySem.W.findIn K (.ref C1) "entries" = some (some (.ref f6)))
    (i6 : PySem.W.isFn K (.ref f6) = true)
    (l6 : K.lookup f6 = some ⟨oc6, od6, .func (PySem.W.fnOf "entries" "Line.entries" (defArgs s_Line_entries) (defBody s_Line_entries) (defScope s_Line_entries) .none kV6 dc6 pm6 an6 cd6 ct6), sl6⟩)
    (c6 : PySem.W.codeIn K cd6 "Line.entries" = true)
    (k6 : PySem.W.keepIn K (.ref f6) = true)
    {f7 : Addr} {od7 an7 : Option Addr} {sl7 : Array (Option Value)} {oc7 kV7 dc7 pm7 cd7 ct7 : Value}
    (a7 : PySem.W.findIn K (.ref C1) "turn" = some (some (.ref f7)))
    (i7 : PySem.W.isFn K (.ref f7) = true)
    (l7 : K.lookup f7 = some ⟨oc7, od7, .func (PySem.W.fnOf "turn" "Line.turn" (defArgs s_Line_turn) (defBody s_Line_turn) (defScope s_Line_turn) .none kV7 dc7 pm7 an7 cd7 ct7), sl7⟩)
    (c7 : PySem.W.codeIn K cd7 "Line.turn" = true)
    (k7 : PySem.W.keepIn K (.ref f7) = true)
    {f8 : Addr} {od8 an8 : Option Addr} {sl8 : Array (Option Value)} {oc8 kV8 dc8 pm8 cd8 ct8 : Value}
    (a8 : PySem.W.findIn K (.ref C2) "lets" = some (some (.ref f8)))
    (i8 : PySem.W.isFn K (.ref f8) = true)
    (l8 : K.lookup f8 = some ⟨oc8, od8, .func (PySem.W.fnOf "lets" "Fence.lets" (defArgs s_Fence_lets) (defBody s_Fence_lets) (defScope s_Fence_lets) .none kV8 dc8 pm8 an8 cd8 ct8), sl8⟩)
    (c8 : PySem.W.codeIn K cd8 "Fence.lets" = true)
    (k8 : PySem.W.keepIn K (.ref f8) = true)
    {f9 : Addr} {od9 an9 : Option Addr} {sl9 : Array (Option Value)} {oc9 kV9 dc9 pm9 cd9 ct9 : Value}
    (a9 : PySem.W.findIn K (.ref C2) "__le__" = some (some (.ref f9)))
    (i9 : PySem.W.isFn K (.ref f9) = true)
    (l9 : K.lookup f9 = some ⟨oc9, od9, .func (PySem.W.fnOf "__le__" "Fence.__le__" (defArgs s_Fence_le) (defBody s_Fence_le) (defScope s_Fence_le) .none kV9 dc9 pm9 an9 cd9 ct9), sl9⟩)
    (c9 : PySem.W.codeIn K cd9 "Fence.__le__" = true)
    (k9 : PySem.W.keepIn K (.ref f9) = true)
    {f10 : Addr} {od10 an10 : Option Addr} {sl10 : Array (Option Value)} {oc10 kV10 dc10 pm10 ct10 : Value}
    (a10 : PySem.W.findIn K (.ref C3) "lets" = some (some (.ref f10)))
    (i10 : PySem.W.isFn K (.ref f10) = true)
    {cda10_ ccl10_ : Addr} {scl10 scc10 : Value} {scd10 sce10 : Option Addr} {sss10 sst10 : Array (Option Value)} {svs10 : Array Value} {stf10 : Tok}
    (l10 : K.lookup f10 = some ⟨oc10, od10, .func (PySem.W.ksFn "lets" "Own.lets" (defArgs s_Own_lets) (defBody s_Own_lets) (defScope s_Own_lets) .none kV10 dc10 pm10 an10 (.ref cda10_) ct10 ccl10_), sl10⟩)
    (c10 : PySem.W.codeIn K (.ref cda10_) "Own.lets" = true)
    (k10 : PySem.W.keepIn K (.ref f10) = true)
    (se10 : K.lookup cda10_ = some ⟨scl10, scd10, .fields svs10, sss10⟩)
    (sv10 : svs10[2]? = some (.str file stf10))
    (sq10 : K.lookup ccl10_ = some ⟨scc10, sce10, .cell (some (.ref C3)), sst10⟩)
    {f11 : Addr} {od11 an11 : Option Addr} {sl11 : Array (Option Value)} {oc11 kV11 dc11 pm11 ct11 : Value}
    (a11 : PySem.W.findIn K (.ref C4) "lets" = some (some (.ref f11)))
    (i11 : PySem.W.isFn K (.ref f11) = true)
    {cda11_ ccl11_ : Addr} {scl11 scc11 : Value} {scd11 sce11 : Option Addr} {sss11 sst11 : Array (Option Value)} {svs11 : Array Value} {stf11 : Tok}
    (l11 : K.lookup f11 = some ⟨oc11, od11, .func (PySem.W.ksFn "lets" "Same.lets" (defArgs s_Same_lets) (defBody s_Same_lets) (defScope s_Same_lets) .none kV11 dc11 pm11 an11 (.ref cda11_) ct11 ccl11_), sl11⟩)
    (c11 : PySem.W.codeIn K (.ref cda11_) "Same.lets" = true)
    (k11 : PySem.W.keepIn K (.ref f11) = true)
    (se11 : K.lookup cda11_ = some ⟨scl11, scd11, .fields svs11, sss11⟩)
    (sv11 : svs11[2]? = some (.str file stf11))
    (sq11 : K.lookup ccl11_ = some ⟨scc11, sce11, .cell (some (.ref C4)), sst11⟩)
    {f12 : Addr} {od12 an12 : Option Addr} {sl12 : Array (Option Value)} {oc12 kV12 dc12 pm12 ct12 : Value}
    (a12 : PySem.W.findIn K (.ref C5) "lets" = some (some (.ref f12)))
    (i12 : PySem.W.isFn K (.ref f12) = true)
    {cda12_ ccl12_ : Addr} {scl12 scc12 : Value} {scd12 sce12 : Option Addr} {sss12 sst12 : Array (Option Value)} {svs12 : Array Value} {stf12 : Tok}
    (l12 : K.lookup f12 = some ⟨oc12, od12, .func (PySem.W.ksFn "lets" "Both.lets" (defArgs s_Both_lets) (defBody s_Both_lets) (defScope s_Both_lets) .none kV12 dc12 pm12 an12 (.ref cda12_) ct12 ccl12_), sl12⟩)
    (c12 : PySem.W.codeIn K (.ref cda12_) "Both.lets" = true)
    (k12 : PySem.W.keepIn K (.ref f12) = true)
    (se12 : K.lookup cda12_ = some ⟨scl12, scd12, .fields svs12, sss12⟩)
    (sv12 : svs12[2]? = some (.str file stf12))
    (sq12 : K.lookup ccl12_ = some ⟨scc12, sce12, .cell (some (.ref C5)), sst12⟩)
    {f13 : Addr} {od13 an13 : Option Addr} {sl13 : Array (Option Value)} {oc13 kV13 dc13 pm13 cd13 ct13 : Value}
    (a13 : PySem.W.findIn K (.ref C6) "lets" = some (some (.ref f13)))
    (i13 : PySem.W.isFn K (.ref f13) = true)
    (l13 : K.lookup f13 = some ⟨oc13, od13, .func (PySem.W.fnOf "lets" "Last.lets" (defArgs s_Last_lets) (defBody s_Last_lets) (defScope s_Last_lets) .none kV13 dc13 pm13 an13 cd13 ct13), sl13⟩)
    (c13 : PySem.W.codeIn K cd13 "Last.lets" = true)
    (k13 : PySem.W.keepIn K (.ref f13) = true)
    {f14 : Addr} {od14 an14 : Option Addr} {sl14 : Array (Option Value)} {oc14 kV14 dc14 pm14 cd14 ct14 : Value}
    (a14 : PySem.W.nsIn K mainGlobals "fence_of" = some (some (.ref f14)))
    (l14 : K.lookup f14 = some ⟨oc14, od14, .func (PySem.W.fnOf "fence_of" "fence_of" (defArgs s_fence_of) (defBody s_fence_of) (defScope s_fence_of) .none kV14 dc14 pm14 an14 cd14 ct14), sl14⟩)
    (c14 : PySem.W.codeIn K cd14 "fence_of" = true)
    (k14 : PySem.W.keepIn K (.ref f14) = true)
    {f15 : Addr} {od15 an15 : Option Addr} {sl15 : Array (Option Value)} {oc15 kV15 dc15 pm15 cd15 ct15 : Value}
    (a15 : PySem.W.nsIn K mainGlobals "sending" = some (some (.ref f15)))
    (l15 : K.lookup f15 = some ⟨oc15, od15, .func (PySem.W.fnOf "sending" "sending" (defArgs s_sending) (defBody s_sending) (defScope s_sending) .none kV15 dc15 pm15 an15 cd15 ct15), sl15⟩)
    (c15 : PySem.W.codeIn K cd15 "sending" = true)
    (k15 : PySem.W.keepIn K (.ref f15) = true)
    {f16 : Addr} {od16 an16 : Option Addr} {sl16 : Array (Option Value)} {oc16 kV16 dc16 pm16 cd16 ct16 : Value}
    (a16 : PySem.W.nsIn K mainGlobals "landing" = some (some (.ref f16)))
    (l16 : K.lookup f16 = some ⟨oc16, od16, .func (PySem.W.fnOf "landing" "landing" (defArgs s_landing) (defBody s_landing) (defScope s_landing) .none kV16 dc16 pm16 an16 cd16 ct16), sl16⟩)
    (c16 : PySem.W.codeIn K cd16 "landing" = true)
    (k16 : PySem.W.keepIn K (.ref f16) = true)
    {f17 : Addr} {od17 an17 : Option Addr} {sl17 : Array (Option Value)} {oc17 kV17 dc17 pm17 cd17 ct17 : Value}
    (a17 : PySem.W.nsIn K mainGlobals "steps_of" = some (some (.ref f17)))
    (l17 : K.lookup f17 = some ⟨oc17, od17, .func (PySem.W.fnOf "steps_of" "steps_of" (defArgs s_steps_of) (defBody s_steps_of) (defScope s_steps_of) .none kV17 dc17 pm17 an17 cd17 ct17), sl17⟩)
    (c17 : PySem.W.codeIn K cd17 "steps_of" = true)
    (k17 : PySem.W.keepIn K (.ref f17) = true)
    {f18 : Addr} {od18 an18 : Option Addr} {sl18 : Array (Option Value)} {oc18 kV18 dc18 pm18 cd18 ct18 : Value}
    (a18 : PySem.W.nsIn K mainGlobals "stand_behind" = some (some (.ref f18)))
    (l18 : K.lookup f18 = some ⟨oc18, od18, .func (PySem.W.fnOf "stand_behind" "stand_behind" (defArgs s_stand_behind) (defBody s_stand_behind) (defScope s_stand_behind) .none kV18 dc18 pm18 an18 cd18 ct18), sl18⟩)
    (c18 : PySem.W.codeIn K cd18 "stand_behind" = true)
    (k18 : PySem.W.keepIn K (.ref f18) = true)
    {f19 : Addr} {od19 an19 : Option Addr} {sl19 : Array (Option Value)} {oc19 kV19 dc19 pm19 cd19 ct19 : Value}
    (a19 : PySem.W.nsIn K mainGlobals "late_row" = some (some (.ref f19)))
    (l19 : K.lookup f19 = some ⟨oc19, od19, .func (PySem.W.fnOf "late_row" "late_row" (defArgs s_late_row) (defBody s_late_row) (defScope s_late_row) .none kV19 dc19 pm19 an19 cd19 ct19), sl19⟩)
    (c19 : PySem.W.codeIn K cd19 "late_row" = true)
    (k19 : PySem.W.keepIn K (.ref f19) = true)
    {f20 : Addr} {od20 an20 : Option Addr} {sl20 : Array (Option Value)} {oc20 kV20 dc20 pm20 cd20 ct20 : Value}
    (a20 : PySem.W.nsIn K mainGlobals "weakest" = some (some (.ref f20)))
    (l20 : K.lookup f20 = some ⟨oc20, od20, .func (PySem.W.fnOf "weakest" "weakest" (defArgs s_weakest) (defBody s_weakest) (defScope s_weakest) .none kV20 dc20 pm20 an20 cd20 ct20), sl20⟩)
    (c20 : PySem.W.codeIn K cd20 "weakest" = true)
    (k20 : PySem.W.keepIn K (.ref f20) = true)
    {f21 : Addr} {od21 an21 : Option Addr} {sl21 : Array (Option Value)} {oc21 kV21 dc21 pm21 cd21 ct21 : Value}
    (a21 : PySem.W.nsIn K mainGlobals "_law_mixed" = some (some (.ref f21)))
    (l21 : K.lookup f21 = some ⟨oc21, od21, .func (PySem.W.fnOf "_law_mixed" "_law_mixed" (defArgs s_mixed) (defBody s_mixed) (defScope s_mixed) .none kV21 dc21 pm21 an21 cd21 ct21), sl21⟩)
    (c21 : PySem.W.codeIn K cd21 "_law_mixed" = true)
    (k21 : PySem.W.keepIn K (.ref f21) = true)
    {f22 : Addr} {od22 an22 : Option Addr} {sl22 : Array (Option Value)} {oc22 kV22 dc22 pm22 cd22 ct22 : Value}
    (a22 : PySem.W.nsIn K mainGlobals "_law_bag" = some (some (.ref f22)))
    (l22 : K.lookup f22 = some ⟨oc22, od22, .func (PySem.W.fnOf "_law_bag" "_law_bag" (defArgs s_bag) (defBody s_bag) (defScope s_bag) .none kV22 dc22 pm22 an22 cd22 ct22), sl22⟩)
    (c22 : PySem.W.codeIn K cd22 "_law_bag" = true)
    (k22 : PySem.W.keepIn K (.ref f22) = true)
    {f23 : Addr} {od23 an23 : Option Addr} {sl23 : Array (Option Value)} {oc23 kV23 dc23 pm23 cd23 ct23 : Value}
    (a23 : PySem.W.nsIn K mainGlobals "_law_pick" = some (some (.ref f23)))
    (l23 : K.lookup f23 = some ⟨oc23, od23, .func (PySem.W.fnOf "_law_pick" "_law_pick" (defArgs s_pick) (defBody s_pick) (defScope s_pick) .none kV23 dc23 pm23 an23 cd23 ct23), sl23⟩)
    (c23 : PySem.W.codeIn K cd23 "_law_pick" = true)
    (k23 : PySem.W.keepIn K (.ref f23) = true)
    {f24 : Addr} {od24 an24 : Option Addr} {sl24 : Array (Option Value)} {oc24 kV24 dc24 pm24 cd24 ct24 : Value}
    (a24 : PySem.W.nsIn K mainGlobals "_law_choice" = some (some (.ref f24)))
    (l24 : K.lookup f24 = some ⟨oc24, od24, .func (PySem.W.fnOf "_law_choice" "_law_choice" (defArgs s_choice) (defBody s_choice) (defScope s_choice) .none kV24 dc24 pm24 an24 cd24 ct24), sl24⟩)
    (c24 : PySem.W.codeIn K cd24 "_law_choice" = true)
    (k24 : PySem.W.keepIn K (.ref f24) = true)
    {f25 : Addr} {od25 an25 : Option Addr} {sl25 : Array (Option Value)} {oc25 kV25 dc25 pm25 cd25 ct25 : Value}
    (a25 : PySem.W.nsIn K mainGlobals "_law_mingled" = some (some (.ref f25)))
    (l25 : K.lookup f25 = some ⟨oc25, od25, .func (PySem.W.fnOf "_law_mingled" "_law_mingled" (defArgs s_mingled) (defBody s_mingled) (defScope s_mingled) .none kV25 dc25 pm25 an25 cd25 ct25), sl25⟩)
    (c25 : PySem.W.codeIn K cd25 "_law_mingled" = true)
    (k25 : PySem.W.keepIn K (.ref f25) = true)
    {f26 : Addr} {od26 an26 : Option Addr} {sl26 : Array (Option Value)} {oc26 kV26 dc26 pm26 cd26 ct26 : Value}
    (a26 : PySem.W.nsIn K mainGlobals "_law_edition" = some (some (.ref f26)))
    (l26 : K.lookup f26 = some ⟨oc26, od26, .func (PySem.W.fnOf "_law_edition" "_law_edition" (defArgs s_edition) (defBody s_edition) (defScope s_edition) .none kV26 dc26 pm26 an26 cd26 ct26), sl26⟩)
    (c26 : PySem.W.codeIn K cd26 "_law_edition" = true)
    (k26 : PySem.W.keepIn K (.ref f26) = true)
    {f27 : Addr} {od27 an27 : Option Addr} {sl27 : Array (Option Value)} {oc27 kV27 dc27 pm27 cd27 ct27 : Value}
    (a27 : PySem.W.nsIn K mainGlobals "_law_sizes" = some (some (.ref f27)))
    (l27 : K.lookup f27 = some ⟨oc27, od27, .func (PySem.W.fnOf "_law_sizes" "_law_sizes" (defArgs s_sizes) (defBody s_sizes) (defScope s_sizes) .none kV27 dc27 pm27 an27 cd27 ct27), sl27⟩)
    (c27 : PySem.W.codeIn K cd27 "_law_sizes" = true)
    (k27 : PySem.W.keepIn K (.ref f27) = true)
    {f28 : Addr} {od28 an28 : Option Addr} {sl28 : Array (Option Value)} {oc28 kV28 dc28 pm28 cd28 ct28 : Value}
    (a28 : PySem.W.nsIn K mainGlobals "_law_world" = some (some (.ref f28)))
    (l28 : K.lookup f28 = some ⟨oc28, od28, .func (PySem.W.fnOf "_law_world" "_law_world" (defArgs s_world) (defBody s_world) (defScope s_world) .none kV28 dc28 pm28 an28 cd28 ct28), sl28⟩)
    (c28 : PySem.W.codeIn K cd28 "_law_world" = true)
    (k28 : PySem.W.keepIn K (.ref f28) = true)
    {f29 : Addr} {od29 an29 : Option Addr} {sl29 : Array (Option Value)} {oc29 kV29 dc29 pm29 cd29 ct29 : Value}
    (a29 : PySem.W.nsIn K mainGlobals "_law_lets" = some (some (.ref f29)))
    (l29 : K.lookup f29 = some ⟨oc29, od29, .func (PySem.W.fnOf "_law_lets" "_law_lets" (defArgs s_lets) (defBody s_lets) (defScope s_lets) .none kV29 dc29 pm29 an29 cd29 ct29), sl29⟩)
    (c29 : PySem.W.codeIn K cd29 "_law_lets" = true)
    (k29 : PySem.W.keepIn K (.ref f29) = true)
    {f30 : Addr} {od30 an30 : Option Addr} {sl30 : Array (Option Value)} {oc30 kV30 dc30 pm30 cd30 ct30 : Value}
    (a30 : PySem.W.nsIn K mainGlobals "_law_start" = some (some (.ref f30)))
    (l30 : K.lookup f30 = some ⟨oc30, od30, .func (PySem.W.fnOf "_law_start" "_law_start" (defArgs s_start) (defBody s_start) (defScope s_start) .none kV30 dc30 pm30 an30 cd30 ct30), sl30⟩)
    (c30 : PySem.W.codeIn K cd30 "_law_start" = true)
    (k30 : PySem.W.keepIn K (.ref f30) = true)
    {f31 : Addr} {od31 an31 : Option Addr} {sl31 : Array (Option Value)} {oc31 kV31 dc31 pm31 cd31 ct31 : Value}
    (a31 : PySem.W.nsIn K mainGlobals "_law_steps" = some (some (.ref f31)))
    (l31 : K.lookup f31 = some ⟨oc31, od31, .func (PySem.W.fnOf "_law_steps" "_law_steps" (defArgs s_steps) (defBody s_steps) (defScope s_steps) .none kV31 dc31 pm31 an31 cd31 ct31), sl31⟩)
    (c31 : PySem.W.codeIn K cd31 "_law_steps" = true)
    (k31 : PySem.W.keepIn K (.ref f31) = true)
    {f32 : Addr} {od32 an32 : Option Addr} {sl32 : Array (Option Value)} {oc32 kV32 dc32 pm32 cd32 ct32 : Value}
    (a32 : PySem.W.nsIn K mainGlobals "_law_sent" = some (some (.ref f32)))
    (l32 : K.lookup f32 = some ⟨oc32, od32, .func (PySem.W.fnOf "_law_sent" "_law_sent" (defArgs s_sent) (defBody s_sent) (defScope s_sent) .none kV32 dc32 pm32 an32 cd32 ct32), sl32⟩)
    (c32 : PySem.W.codeIn K cd32 "_law_sent" = true)
    (k32 : PySem.W.keepIn K (.ref f32) = true)
    {f33 : Addr} {od33 an33 : Option Addr} {sl33 : Array (Option Value)} {oc33 kV33 dc33 pm33 cd33 ct33 : Value}
    (a33 : PySem.W.nsIn K mainGlobals "_law_after" = some (some (.ref f33)))
    (l33 : K.lookup f33 = some ⟨oc33, od33, .func (PySem.W.fnOf "_law_after" "_law_after" (defArgs s_after) (defBody s_after) (defScope s_after) .none kV33 dc33 pm33 an33 cd33 ct33), sl33⟩)
    (c33 : PySem.W.codeIn K cd33 "_law_after" = true)
    (k33 : PySem.W.keepIn K (.ref f33) = true)
    {f34 : Addr} {od34 an34 : Option Addr} {sl34 : Array (Option Value)} {oc34 kV34 dc34 pm34 cd34 ct34 : Value}
    (a34 : PySem.W.nsIn K mainGlobals "_law_is_late" = some (some (.ref f34)))
    (l34 : K.lookup f34 = some ⟨oc34, od34, .func (PySem.W.fnOf "_law_is_late" "_law_is_late" (defArgs s_is_late) (defBody s_is_late) (defScope s_is_late) .none kV34 dc34 pm34 an34 cd34 ct34), sl34⟩)
    (c34 : PySem.W.codeIn K cd34 "_law_is_late" = true)
    (k34 : PySem.W.keepIn K (.ref f34) = true)
    {f35 : Addr} {od35 an35 : Option Addr} {sl35 : Array (Option Value)} {oc35 kV35 dc35 pm35 cd35 ct35 : Value}
    (a35 : PySem.W.nsIn K mainGlobals "_law_words" = some (some (.ref f35)))
    (l35 : K.lookup f35 = some ⟨oc35, od35, .func (PySem.W.fnOf "_law_words" "_law_words" (defArgs s_words) (defBody s_words) (defScope s_words) .none kV35 dc35 pm35 an35 cd35 ct35), sl35⟩)
    (c35 : PySem.W.codeIn K cd35 "_law_words" = true)
    (k35 : PySem.W.keepIn K (.ref f35) = true)
    {f36 : Addr} {od36 an36 : Option Addr} {sl36 : Array (Option Value)} {oc36 kV36 dc36 pm36 cd36 ct36 : Value}
    (a36 : PySem.W.nsIn K mainGlobals "_law_at_most" = some (some (.ref f36)))
    (l36 : K.lookup f36 = some ⟨oc36, od36, .func (PySem.W.fnOf "_law_at_most" "_law_at_most" (defArgs s_at_most) (defBody s_at_most) (defScope s_at_most) .none kV36 dc36 pm36 an36 cd36 ct36), sl36⟩)
    (c36 : PySem.W.codeIn K cd36 "_law_at_most" = true)
    (k36 : PySem.W.keepIn K (.ref f36) = true)
    {f37 : Addr} {od37 an37 : Option Addr} {sl37 : Array (Option Value)} {oc37 kV37 dc37 pm37 cd37 ct37 : Value}
    (a37 : PySem.W.nsIn K mainGlobals "_law_open" = some (some (.ref f37)))
    (l37 : K.lookup f37 = some ⟨oc37, od37, .func (PySem.W.fnOf "_law_open" "_law_open" (defArgs s_open) (defBody s_open) (defScope s_open) .none kV37 dc37 pm37 an37 cd37 ct37), sl37⟩)
    (c37 : PySem.W.codeIn K cd37 "_law_open" = true)
    (k37 : PySem.W.keepIn K (.ref f37) = true)
    {f38 : Addr} {od38 an38 : Option Addr} {sl38 : Array (Option Value)} {oc38 kV38 dc38 pm38 cd38 ct38 : Value}
    (a38 : PySem.W.nsIn K mainGlobals "_law_letting" = some (some (.ref f38)))
    (l38 : K.lookup f38 = some ⟨oc38, od38, .func (PySem.W.fnOf "_law_letting" "_law_letting" (defArgs s_letting) (defBody s_letting) (defScope s_letting) .none kV38 dc38 pm38 an38 cd38 ct38), sl38⟩)
    (c38 : PySem.W.codeIn K cd38 "_law_letting" = true)
    (k38 : PySem.W.keepIn K (.ref f38) = true)
    {f39 : Addr} {od39 an39 : Option Addr} {sl39 : Array (Option Value)} {oc39 kV39 dc39 pm39 cd39 ct39 : Value}
    (a39 : PySem.W.nsIn K mainGlobals "_law_late_words" = some (some (.ref f39)))
    (l39 : K.lookup f39 = some ⟨oc39, od39, .func (PySem.W.fnOf "_law_late_words" "_law_late_words" (defArgs s_late_words) (defBody s_late_words) (defScope s_late_words) .none kV39 dc39 pm39 an39 cd39 ct39), sl39⟩)
    (c39 : PySem.W.codeIn K cd39 "_law_late_words" = true)
    (k39 : PySem.W.keepIn K (.ref f39) = true)
    {f40 : Addr} {od40 an40 : Option Addr} {sl40 : Array (Option Value)} {oc40 kV40 dc40 pm40 cd40 ct40 : Value}
    (a40 : PySem.W.nsIn K mainGlobals "_law_due" = some (some (.ref f40)))
    (l40 : K.lookup f40 = some ⟨oc40, od40, .func (PySem.W.fnOf "_law_due" "_law_due" (defArgs s_due) (defBody s_due) (defScope s_due) .none kV40 dc40 pm40 an40 cd40 ct40), sl40⟩)
    (c40 : PySem.W.codeIn K cd40 "_law_due" = true)
    (k40 : PySem.W.keepIn K (.ref f40) = true)
    {f41 : Addr} {od41 an41 : Option Addr} {sl41 : Array (Option Value)} {oc41 kV41 dc41 pm41 cd41 ct41 : Value}
    (a41 : PySem.W.nsIn K mainGlobals "_law_drawn_steps" = some (some (.ref f41)))
    (l41 : K.lookup f41 = some ⟨oc41, od41, .func (PySem.W.fnOf "_law_drawn_steps" "_law_drawn_steps" (defArgs s_drawn_steps) (defBody s_drawn_steps) (defScope s_drawn_steps) .none kV41 dc41 pm41 an41 cd41 ct41), sl41⟩)
    (c41 : PySem.W.codeIn K cd41 "_law_drawn_steps" = true)
    (k41 : PySem.W.keepIn K (.ref f41) = true)
    {f42 : Addr} {od42 an42 : Option Addr} {sl42 : Array (Option Value)} {oc42 kV42 dc42 pm42 cd42 ct42 : Value}
    (a42 : PySem.W.nsIn K mainGlobals "_law_played" = some (some (.ref f42)))
    (l42 : K.lookup f42 = some ⟨oc42, od42, .func (PySem.W.fnOf "_law_played" "_law_played" (defArgs s_played) (defBody s_played) (defScope s_played) .none kV42 dc42 pm42 an42 cd42 ct42), sl42⟩)
    (c42 : PySem.W.codeIn K cd42 "_law_played" = true)
    (k42 : PySem.W.keepIn K (.ref f42) = true)
    {f43 : Addr} {od43 an43 : Option Addr} {sl43 : Array (Option Value)} {oc43 kV43 dc43 pm43 cd43 ct43 : Value}
    (a43 : PySem.W.nsIn K mainGlobals "law" = some (some (.ref f43)))
    (l43 : K.lookup f43 = some ⟨oc43, od43, .func (PySem.W.fnOf "law" "law" (defArgs s_law) (defBody s_law) (defScope s_law) .none kV43 dc43 pm43 an43 cd43 ct43), sl43⟩)
    (c43 : PySem.W.codeIn K cd43 "law" = true)
    (k43 : PySem.W.keepIn K (.ref f43) = true)
    (z0 : PySem.W.nsIn K mainGlobals "abs" = some none)
    (z1 : PySem.W.nsIn K mainGlobals "bool" = some none)
    (z2 : PySem.W.nsIn K mainGlobals "enumerate" = some none)
    (z3 : PySem.W.nsIn K mainGlobals "int" = some none)
    (z4 : PySem.W.nsIn K mainGlobals "isinstance" = some none)
    (z5 : PySem.W.nsIn K mainGlobals "len" = some none)
    (z6 : PySem.W.nsIn K mainGlobals "list" = some none)
    (z7 : PySem.W.nsIn K mainGlobals "range" = some none)
    (z8 : PySem.W.nsIn K mainGlobals "super" = some none)
    (z9 : PySem.W.nsIn K mainGlobals "tuple" = some none)
    {U0 : Addr} {un0 : Nat} {us0 : Array (Option Value)} {ut0_0 : Tok} {ut0_1 : Tok} {ut0_2 : Tok} {ut0_3 : Tok} {ut0_4 : Tok}
    (ua0 : PySem.W.nsIn K mainGlobals "FENCES" = some (some (.ref U0)))
    (ul0 : K.lookup U0 = some ⟨.type "tuple", none, .seq #[.str "any" ut0_0, .str "own" ut0_1, .str "same" ut0_2, .str "both" ut0_3, .str "last" ut0_4] un0, us0⟩)
    (cg0 : PySem.W.plainGet K C0 Str.empty = true)
    (ch0 : PySem.W.hasDictIn K C0 = true)
    (co0 : PySem.W.plainOver K C0 = true)
    (cs0 : PySem.W.findIn K (.ref C0) "__setattr__" = some (some (.builtin "object.__setattr__")))
    (cf0_0 : PySem.W.findIn K (.ref C0) "owner" = some none)
    (cf0_1 : PySem.W.findIn K (.ref C0) "word" = some none)
    (cf0_2 : PySem.W.findIn K (.ref C0) "who" = some none)
    (cf0_3 : PySem.W.findIn K (.ref C0) "ticket" = some none)
    (cf0_4 : PySem.W.findIn K (.ref C0) "question" = some none)
    (cf0_5 : PySem.W.findIn K (.ref C0) "answer" = some none)
    (cm0 : PySem.W.makesIn K C0 = true)
    (ck0 : PySem.W.keepIn K (.ref C0) = true)
    (cg1 : PySem.W.plainGet K C1 Str.empty = true)
    (ch1 : PySem.W.hasDictIn K C1 = true)
    (co1 : PySem.W.plainOver K C1 = true)
    (cs1 : PySem.W.findIn K (.ref C1) "__setattr__" = some (some (.builtin "object.__setattr__")))
    (cf1_0 : PySem.W.findIn K (.ref C1) "far" = some none)
    (cf1_1 : PySem.W.findIn K (.ref C1) "room" = some none)
    (cf1_2 : PySem.W.findIn K (.ref C1) "waiting" = some none)
    (cf1_3 : PySem.W.findIn K (.ref C1) "tickets" = some none)
    (cf1_4 : PySem.W.findIn K (.ref C1) "present" = some none)
    (cm1 : PySem.W.makesIn K C1 = true)
    (ck1 : PySem.W.keepIn K (.ref C1) = true)
    (cg2 : PySem.W.plainGet K C2 Str.empty = true)
    (ch2 : PySem.W.hasDictIn K C2 = true)
    (co2 : PySem.W.plainOver K C2 = true)
    (cs2 : PySem.W.findIn K (.ref C2) "__setattr__" = some (some (.builtin "object.__setattr__")))
    (cg3 : PySem.W.plainGet K C3 Str.empty = true)
    (ch3 : PySem.W.hasDictIn K C3 = true)
    (co3 : PySem.W.plainOver K C3 = true)
    (cs3 : PySem.W.findIn K (.ref C3) "__setattr__" = some (some (.builtin "object.__setattr__")))
    (cg4 : PySem.W.plainGet K C4 Str.empty = true)
    (ch4 : PySem.W.hasDictIn K C4 = true)
    (co4 : PySem.W.plainOver K C4 = true)
    (cs4 : PySem.W.findIn K (.ref C4) "__setattr__" = some (some (.builtin "object.__setattr__")))
    (cg5 : PySem.W.plainGet K C5 Str.empty = true)
    (ch5 : PySem.W.hasDictIn K C5 = true)
    (co5 : PySem.W.plainOver K C5 = true)
    (cs5 : PySem.W.findIn K (.ref C5) "__setattr__" = some (some (.builtin "object.__setattr__")))
    (cg6 : PySem.W.plainGet K C6 Str.empty = true)
    (ch6 : PySem.W.hasDictIn K C6 = true)
    (co6 : PySem.W.plainOver K C6 = true)
    (cs6 : PySem.W.findIn K (.ref C6) "__setattr__" = some (some (.builtin "object.__setattr__")))
    (su10_3 : PySem.W.ks_superIn K C3 C3 "lets" = some (some (.ref f8)))
    (sm10_3 : PySem.W.mroIn K C3 (.ref C3) = some true)
    (sI10_3 : PySem.W.isClsIn K C3 = true)
    (so10_3 : PySem.W.nsIn K cStatics "thirdparty.any" = some none)
    (sy10_3 : PySem.W.typeIn K (.ref f8) = some (.type "function"))
    (sf10_3 : PySem.W.fnIn K f8 = true)
    (su10_5 : PySem.W.ks_superIn K C5 C3 "lets" = some (some (.ref f11)))
    (sm10_5 : PySem.W.mroIn K C5 (.ref C3) = some true)
    (sI10_5 : PySem.W.isClsIn K C3 = true)
    (so10_5 : PySem.W.nsIn K cStatics "thirdparty.any" = some none)
    (sy10_5 : PySem.W.typeIn K (.ref f11) = some (.type "function"))
    (sf10_5 : PySem.W.fnIn K f11 = true)
    (su11_4 : PySem.W.ks_superIn K C4 C4 "lets" = some (some (.ref f8)))
    (sm11_4 : PySem.W.mroIn K C4 (.ref C4) = some true)
    (sI11_4 : PySem.W.isClsIn K C4 = true)
    (so11_4 : PySem.W.nsIn K cStatics "thirdparty.any" = some none)
    (sy11_4 : PySem.W.typeIn K (.ref f8) = some (.type "function"))
    (sf11_4 : PySem.W.fnIn K f8 = true)
    (su11_5 : PySem.W.ks_superIn K C5 C4 "lets" = some (some (.ref f8)))
    (sm11_5 : PySem.W.mroIn K C5 (.ref C4) = some true)
    (sI11_5 : PySem.W.isClsIn K C4 = true)
    (so11_5 : PySem.W.nsIn K cStatics "thirdparty.any" = some none)
    (sy11_5 : PySem.W.typeIn K (.ref f8) = some (.type "function"))
    (sf11_5 : PySem.W.fnIn K f8 = true)
    (su12_5 : PySem.W.ks_superIn K C5 C5 "lets" = some (some (.ref f10)))
    (sm12_5 : PySem.W.mroIn K C5 (.ref C5) = some true)
    (sI12_5 : PySem.W.isClsIn K C5 = true)
    (so12_5 : PySem.W.nsIn K cStatics "thirdparty.any" = some none)
    (sy12_5 : PySem.W.typeIn K (.ref f10) = some (.type "function"))
    (sf12_5 : PySem.W.fnIn K f10 = true)
    (nm2 : PySem.W.makesIn K C2 = true)
    (nt2 : PySem.W.findIn K (.ref C2) "__init__" = some (some (.builtin "object.__init__")))
    (nk2 : PySem.W.keepIn K (.ref C2) = true)
    (nm3 : PySem.W.makesIn K C3 = true)
    (nt3 : PySem.W.findIn K (.ref C3) "__init__" = some (some (.builtin "object.__init__")))
    (nk3 : PySem.W.keepIn K (.ref C3) = true)
    (ih3_le : PySem.W.findIn K (.ref C3) "__le__" = some (some (.ref f9)))
    (nm4 : PySem.W.makesIn K C4 = true)
    (nt4 : PySem.W.findIn K (.ref C4) "__init__" = some (some (.builtin "object.__init__")))
    (nk4 : PySem.W.keepIn K (.ref C4) = true)
    (ih4_le : PySem.W.findIn K (.ref C4) "__le__" = some (some (.ref f9)))
    (nm5 : PySem.W.makesIn K C5 = true)
    (nt5 : PySem.W.findIn K (.ref C5) "__init__" = some (some (.builtin "object.__init__")))
    (nk5 : PySem.W.keepIn K (.ref C5) = true)
    (ih5_le : PySem.W.findIn K (.ref C5) "__le__" = some (some (.ref f9)))
    (nm6 : PySem.W.makesIn K C6 = true)
    (nt6 : PySem.W.findIn K (.ref C6) "__init__" = some (some (.builtin "object.__init__")))
    (nk6 : PySem.W.keepIn K (.ref C6) = true)
    (ih6_le : PySem.W.findIn K (.ref C6) "__le__" = some (some (.ref f9)))
    (lg2 : PySem.W.findIn K (.ref C2) "__ge__" = some (some (.builtin "object.__ge__")))
    (lm2 : PySem.W.mroIn K C2 (.type "object") = some true)
    (lg3 : PySem.W.findIn K (.ref C3) "__ge__" = some (some (.builtin "object.__ge__")))
    (lm3 : PySem.W.mroIn K C3 (.type "object") = some true)
    (lg4 : PySem.W.findIn K (.ref C4) "__ge__" = some (some (.builtin "object.__ge__")))
    (lm4 : PySem.W.mroIn K C4 (.type "object") = some true)
    (lg5 : PySem.W.findIn K (.ref C5) "__ge__" = some (some (.builtin "object.__ge__")))
    (lm5 : PySem.W.mroIn K C5 (.type "object") = some true)
    (lg6 : PySem.W.findIn K (.ref C6) "__ge__" = some (some (.builtin "object.__ge__")))
    (lm6 : PySem.W.mroIn K C6 (.type "object") = some true)
    (ls2_3 : PySem.W.subIn K (.ref C2) (.ref C3) = some false)
    (ln2_3 : (Value.ref C2 == Value.ref C3) = false)
    (ls2_4 : PySem.W.subIn K (.ref C2) (.ref C4) = some false)
    (ln2_4 : (Value.ref C2 == Value.ref C4) = false)
    (ls2_5 : PySem.W.subIn K (.ref C2) (.ref C5) = some false)
    (ln2_5 : (Value.ref C2 == Value.ref C5) = false)
    (ls2_6 : PySem.W.subIn K (.ref C2) (.ref C6) = some false)
    (ln2_6 : (Value.ref C2 == Value.ref C6) = false)
    (ls3_2 : PySem.W.subIn K (.ref C3) (.ref C2) = some true)
    (ln3_2 : (Value.ref C3 == Value.ref C2) = false)
    (ls3_4 : PySem.W.subIn K (.ref C3) (.ref C4) = some false)
    (ln3_4 : (Value.ref C3 == Value.ref C4) = false)
    (ls3_5 : PySem.W.subIn K (.ref C3) (.ref C5) = some false)
    (ln3_5 : (Value.ref C3 == Value.ref C5) = false)
    (ls3_6 : PySem.W.subIn K (.ref C3) (.ref C6) = some false)
    (ln3_6 : (Value.ref C3 == Value.ref C6) = false)
    (ls4_2 : PySem.W.subIn K (.ref C4) (.ref C2) = some true)
    (ln4_2 : (Value.ref C4 == Value.ref C2) = false)
    (ls4_3 : PySem.W.subIn K (.ref C4) (.ref C3) = some false)
    (ln4_3 : (Value.ref C4 == Value.ref C3) = false)
    (ls4_5 : PySem.W.subIn K (.ref C4) (.ref C5) = some false)
    (ln4_5 : (Value.ref C4 == Value.ref C5) = false)
    (ls4_6 : PySem.W.subIn K (.ref C4) (.ref C6) = some false)
    (ln4_6 : (Value.ref C4 == Value.ref C6) = false)
    (ls5_2 : PySem.W.subIn K (.ref C5) (.ref C2) = some true)
    (ln5_2 : (Value.ref C5 == Value.ref C2) = false)
    (ls5_3 : PySem.W.subIn K (.ref C5) (.ref C3) = some true)
    (ln5_3 : (Value.ref C5 == Value.ref C3) = false)
    (ls5_4 : PySem.W.subIn K (.ref C5) (.ref C4) = some true)
    (ln5_4 : (Value.ref C5 == Value.ref C4) = false)
    (ls5_6 : PySem.W.subIn K (.ref C5) (.ref C6) = some false)
    (ln5_6 : (Value.ref C5 == Value.ref C6) = false)
    (ls6_2 : PySem.W.subIn K (.ref C6) (.ref C2) = some true)
    (ln6_2 : (Value.ref C6 == Value.ref C2) = false)
    (ls6_3 : PySem.W.subIn K (.ref C6) (.ref C3) = some false)
    (ln6_3 : (Value.ref C6 == Value.ref C3) = false)
    (ls6_4 : PySem.W.subIn K (.ref C6) (.ref C4) = some false)
    (ln6_4 : (Value.ref C6 == Value.ref C4) = false)
    (ls6_5 : PySem.W.subIn K (.ref C6) (.ref C5) = some false)
    (ln6_5 : (Value.ref C6 == Value.ref C5) = false)
    : ∃ T : Top K mg W, T.a_law = f43 ∧ T.x_file = file ∧ ∀ (s : Shared) (v : Value), BindsTo s T.d_law ⟨[v], []⟩ [("_law_script", v)] := by
  have F0 := fun_mk (st := s_is_number) l0 c0 k0
  have F1 := fun_mk (st := s_Entry_init) l1 c1 k1
  have F2 := fun_mk (st := s_Line_init) l2 c2 k2
  have F3 := fun_mk (st := s_Line_edition) l3 c3 k3
  have F4 := fun_mk (st := s_Line_send) l4 c4 k4
  have F5 := fun_mk (st := s_Line_take) l5 c5 k5
  have F6 := fun_mk (st := s_Line_entries) l6 c6 k6
  have F7 := fun_mk (st := s_Line_turn) l7 c7 k7
  have F8 := fun_mk (st := s_Fence_lets) l8 c8 k8
  have F9 := fun_mk (st := s_Fence_le) l9 c9 k9
  have F13 := fun_mk (st := s_Last_lets) l13 c13 k13
  have F14 := fun_mk (st := s_fence_of) l14 c14 k14
  have F15 := fun_mk (st := s_sending) l15 c15 k15
  have F16 := fun_mk (st := s_landing) l16 c16 k16
  have F17 := fun_mk (st := s_steps_of) l17 c17 k17
  have F18 := fun_mk (st := s_stand_behind) l18 c18 k18
  have F19 := fun_mk (st := s_late_row) l19 c19 k19
  have F20 := fun_mk (st := s_weakest) l20 c20 k20
  have F21 := fun_mk (st := s_mixed) l21 c21 k21
  have F22 := fun_mk (st := s_bag) l22 c22 k22
  have F23 := fun_mk (st := s_pick) l23 c23 k23
  have F24 := fun_mk (st := s_choice) l24 c24 k24
  have F25 := fun_mk (st := s_mingled) l25 c25 k25
  have F26 := fun_mk (st := s_edition) l26 c26 k26
  have F27 := fun_mk (st := s_sizes) l27 c27 k27
  have F28 := fun_mk (st := s_world) l28 c28 k28
  have F29 := fun_mk (st := s_lets) l29 c29 k29
  have F30 := fun_mk (st := s_start) l30 c30 k30
  have F31 := fun_mk (st := s_steps) l31 c31 k31
  have F32 := fun_mk (st := s_sent) l32 c32 k32
  have F33 := fun_mk (st := s_after) l33 c33 k33
  have F34 := fun_mk (st := s_is_late) l34 c34 k34
  have F35 := fun_mk (st := s_words) l35 c35 k35
  have F36 := fun_mk (st := s_at_most) l36 c36 k36
  have F37 := fun_mk (st := s_open) l37 c37 k37
  have F38 := fun_mk (st := s_letting) l38 c38 k38
  have F39 := fun_mk (st := s_late_words) l39 c39 k39
  have F40 := fun_mk (st := s_due) l40 c40 k40
  have F41 := fun_mk (st := s_drawn_steps) l41 c41 k41
  have F42 := fun_mk (st := s_played) l42 c42 k42
  have F43 := fun_mk (st := s_law) l43 c43 k43
  exact ⟨⟨file,
    PySem.W.mg_none_of X G z0,
    PySem.W.mg_none_of X G z1,
    PySem.W.mg_none_of X G z2,
    PySem.W.mg_none_of X G z3,
    PySem.W.mg_none_of X G z4,
    PySem.W.mg_none_of X G z5,
    PySem.W.mg_none_of X G z6,
    PySem.W.mg_none_of X G z7,
    PySem.W.mg_none_of X G z8,
    PySem.W.mg_none_of X G z9,
    f0,
    _,
    F0,
    F0.binds (ps := ["thing", "low", "high"]) (fun _ _ _ _ _ _ us hl => match us, hl with | [_, _, _], _ => rfl),
    PySem.W.mg_of X G a0,
    f1,
    _,
    F1,
    F1.binds (ps := ["self", "owner", "word", "who", "ticket", "question", "answer"]) (fun _ _ _ _ _ _ us hl => match us, hl with | [_, _, _, _, _, _, _], _ => rfl),
    f2,
    _,
    F2,
    F2.binds (ps := ["self", "far", "room"]) (fun _ _ _ _ _ _ us hl => match us, hl with | [_, _, _], _ => rfl),
    f3,
    _,
    F3,
    F3.binds (ps := ["self"]) (fun _ _ _ _ _ _ us hl => match us, hl with | [_], _ => rfl),
    f4,
    _,
    F4,
    F4.binds (ps := ["self", "owner", "word", "who", "question"]) (fun _ _ _ _ _ _ us hl => match us, hl with | [_, _, _, _, _], _ => rfl),
    f5,
    _,
    F5,
    F5.binds (ps := ["self", "number"]) (fun _ _ _ _ _ _ us hl => match us, hl with | [_, _], _ => rfl),
    f6,
    _,
    F6,
    F6.binds (ps := ["self"]) (fun _ _ _ _ _ _ us hl => match us, hl with | [_], _ => rfl),
    f7,
    _,
    F7,
    F7.binds (ps := ["self"]) (fun _ _ _ _ _ _ us hl => match us, hl with | [_], _ => rfl),
    f8,
    _,
    F8,
    F8.binds (ps := ["self", "entry", "who", "question", "ticket"]) (fun _ _ _ _ _ _ us hl => match us, hl with | [_, _, _, _, _], _ => rfl),
    f9,
    _,
    F9,
    F9.binds (ps := ["self", "other"]) (fun _ _ _ _ _ _ us hl => match us, hl with | [_, _], _ => rfl),
    f10,
    PySem.W.ksFn "lets" "Own.lets" (defArgs s_Own_lets) (defBody s_Own_lets) (defScope s_Own_lets) .none kV10 dc10 pm10 an10 (.ref cda10_) ct10 ccl10_,
    sup_binds (ps := ["self", "entry", "who", "question", "ticket"]) (fun us hl => match us, hl with | [_, _, _, _, _], _ => rfl),
    f11,
    PySem.W.ksFn "lets" "Same.lets" (defArgs s_Same_lets) (defBody s_Same_lets) (defScope s_Same_lets) .none kV11 dc11 pm11 an11 (.ref cda11_) ct11 ccl11_,
    sup_binds (ps := ["self", "entry", "who", "question", "ticket"]) (fun us hl => match us, hl with | [_, _, _, _, _], _ => rfl),
    f12,
    PySem.W.ksFn "lets" "Both.lets" (defArgs s_Both_lets) (defBody s_Both_lets) (defScope s_Both_lets) .none kV12 dc12 pm12 an12 (.ref cda12_) ct12 ccl12_,
    sup_binds (ps := ["self", "entry", "who", "question", "ticket"]) (fun us hl => match us, hl with | [_, _, _, _, _], _ => rfl),
    f13,
    _,
    F13,
    F13.binds (ps := ["self", "entry", "who", "question", "ticket"]) (fun _ _ _ _ _ _ us hl => match us, hl with | [_, _, _, _, _], _ => rfl),
    f14,
    _,
    F14,
    F14.binds (ps := ["word"]) (fun _ _ _ _ _ _ us hl => match us, hl with | [_], _ => rfl),
    PySem.W.mg_of X G a14,
    f15,
    _,
    F15,
    F15.binds (ps := ["stand", "far", "room", "question", "renewed"]) (fun _ _ _ _ _ _ us hl => match us, hl with | [_, _, _, _, _], _ => rfl),
    PySem.W.mg_of X G a15,
    f16,
    _,
    F16,
    F16.binds (ps := ["stand", "number", "fence"]) (fun _ _ _ _ _ _ us hl => match us, hl with | [_, _, _], _ => rfl),
    PySem.W.mg_of X G a16,
    f17,
    _,
    F17,
    F17.binds (ps := ["stand", "far", "questions"]) (fun _ _ _ _ _ _ us hl => match us, hl with | [_, _, _], _ => rfl),
    PySem.W.mg_of X G a17,
    f18,
    _,
    F18,
    F18.binds (ps := ["stand", "step", "far", "room", "fence"]) (fun _ _ _ _ _ _ us hl => match us, hl with | [_, _, _, _, _], _ => rfl),
    PySem.W.mg_of X G a18,
    f19,
    _,
    F19,
    F19.binds (ps := ["word", "far", "room", "questions"]) (fun _ _ _ _ _ _ us hl => match us, hl with | [_, _, _, _], _ => rfl),
    PySem.W.mg_of X G a19,
    f20,
    _,
    F20,
    F20.binds (ps := ["far", "room", "questions"]) (fun _ _ _ _ _ _ us hl => match us, hl with | [_, _, _], _ => rfl),
    PySem.W.mg_of X G a20,
    f21,
    _,
    F21,
    F21.binds (ps := ["_law_number", "_law_turn"]) (fun _ _ _ _ _ _ us hl => match us, hl with | [_, _], _ => rfl),
    PySem.W.mg_of X G a21,
    f22,
    _,
    F22,
    F22.binds (ps := ["_law_script"]) (fun _ _ _ _ _ _ us hl => match us, hl with | [_], _ => rfl),
    PySem.W.mg_of X G a22,
    f23,
    _,
    F23,
    F23.binds (ps := ["_law_bag_here", "_law_many"]) (fun _ _ _ _ _ _ us hl => match us, hl with | [_, _], _ => rfl),
    PySem.W.mg_of X G a23,
    f24,
    _,
    F24,
    F24.binds (ps := ["_law_bag_here", "_law_things"]) (fun _ _ _ _ _ _ us hl => match us, hl with | [_, _], _ => rfl),
    PySem.W.mg_of X G a24,
    f25,
    _,
    F25,
    F25.binds (ps := ["_law_bag_here", "_law_things"]) (fun _ _ _ _ _ _ us hl => match us, hl with | [_, _], _ => rfl),
    PySem.W.mg_of X G a25,
    f26,
    _,
    F26,
    F26.binds (ps := ["_law_bag_here", "_law_before"]) (fun _ _ _ _ _ _ us hl => match us, hl with | [_, _], _ => rfl),
    PySem.W.mg_of X G a26,
    f27,
    _,
    F27,
    F27.binds (ps := ["_law_bag_here"]) (fun _ _ _ _ _ _ us hl => match us, hl with | [_], _ => rfl),
    PySem.W.mg_of X G a27,
    f28,
    _,
    F28,
    F28.binds (ps := ["_law_bag_here", "_law_most"]) (fun _ _ _ _ _ _ us hl => match us, hl with | [_, _], _ => rfl),
    PySem.W.mg_of X G a28,
    f29,
    _,
    F29,
    F29.binds (ps := ["_law_word", "_law_own", "_law_same", "_law_last"]) (fun _ _ _ _ _ _ us hl => match us, hl with | [_, _, _, _], _ => rfl),
    PySem.W.mg_of X G a29,
    f30,
    _,
    F30,
    F30.binds (ps := ["_law_store", "_law_asked"]) (fun _ _ _ _ _ _ us hl => match us, hl with | [_, _], _ => rfl),
    PySem.W.mg_of X G a30,
    f31,
    _,
    F31,
    F31.binds (ps := ["_law_now", "_law_asked", "_law_store"]) (fun _ _ _ _ _ _ us hl => match us, hl with | [_, _, _], _ => rfl),
    PySem.W.mg_of X G a31,
    f32,
    _,
    F32,
    F32.binds (ps := ["_law_now", "_law_question", "_law_who", "_law_store", "_law_width"]) (fun _ _ _ _ _ _ us hl => match us, hl with | [_, _, _, _, _], _ => rfl),
    PySem.W.mg_of X G a32,
    f33,
    _,
    F33,
    F33.binds (ps := ["_law_now", "_law_step", "_law_word", "_law_store", "_law_width"]) (fun _ _ _ _ _ _ us hl => match us, hl with | [_, _, _, _, _], _ => rfl),
    PySem.W.mg_of X G a33,
    f34,
    _,
    F34,
    F34.binds (ps := ["_law_now"]) (fun _ _ _ _ _ _ us hl => match us, hl with | [_], _ => rfl),
    PySem.W.mg_of X G a34,
    f35,
    _,
    F35,
    F35.binds (ps := []) (fun _ _ _ _ _ _ us hl => match us, hl with | [], _ => rfl),
    PySem.W.mg_of X G a35,
    f36,
    _,
    F36,
    F36.binds (ps := ["_law_first", "_law_second"]) (fun _ _ _ _ _ _ us hl => match us, hl with | [_, _], _ => rfl),
    PySem.W.mg_of X G a36,
    f37,
    _,
    F37,
    F37.binds (ps := ["_law_now"]) (fun _ _ _ _ _ _ us hl => match us, hl with | [_], _ => rfl),
    PySem.W.mg_of X G a37,
    f38,
    _,
    F38,
    F38.binds (ps := ["_law_now", "_law_entry", "_law_found"]) (fun _ _ _ _ _ _ us hl => match us, hl with | [_, _, _], _ => rfl),
    PySem.W.mg_of X G a38,
    f39,
    _,
    F39,
    F39.binds (ps := ["_law_store", "_law_width", "_law_asked"]) (fun _ _ _ _ _ _ us hl => match us, hl with | [_, _, _], _ => rfl),
    PySem.W.mg_of X G a39,
    f40,
    _,
    F40,
    F40.binds (ps := ["_law_late"]) (fun _ _ _ _ _ _ us hl => match us, hl with | [_], _ => rfl),
    PySem.W.mg_of X G a40,
    f41,
    _,
    F41,
    F41.binds (ps := ["_law_bag_here", "_law_store", "_law_width", "_law_asked"]) (fun _ _ _ _ _ _ us hl => match us, hl with | [_, _, _, _], _ => rfl),
    PySem.W.mg_of X G a41,
    f42,
    _,
    F42,
    F42.binds (ps := ["_law_word", "_law_store", "_law_width", "_law_asked", "_law_steps_here", "_law_due_here"]) (fun _ _ _ _ _ _ us hl => match us, hl with | [_, _, _, _, _, _], _ => rfl),
    PySem.W.mg_of X G a42,
    f43,
    _,
    F43,
    F43.binds (ps := ["_law_script"]) (fun _ _ _ _ _ _ us hl => match us, hl with | [_], _ => rfl),
    PySem.W.mg_of X G a43,
    U0,
    PySem.W.mg_of X G ua0,
    fun H => .inr ⟨_, _, _, ul0, rfl, rfl, XL.sz, .cons ⟨_, rfl⟩ (.cons ⟨_, rfl⟩ (.cons ⟨_, rfl⟩ (.cons ⟨_, rfl⟩ (.cons ⟨_, rfl⟩ (.nil)))))⟩,
    ⟨_, ul0, rfl, rfl⟩,
    C0,
    PySem.W.mg_of X G ca0,
    ⟨cg0, ch0, co0, cs0⟩,
    cf0_0,
    cf0_1,
    cf0_2,
    cf0_3,
    cf0_4,
    cf0_5,
    ⟨cm0, a1, i1, ck0⟩,
    C1,
    PySem.W.mg_of X G ca1,
    ⟨cg1, ch1, co1, cs1⟩,
    cf1_0,
    cf1_1,
    cf1_2,
    cf1_3,
    cf1_4,
    ⟨cm1, a2, i2, ck1⟩,
    ⟨a4, i4, k4⟩,
    ⟨a5, i5, k5⟩,
    ⟨a6, i6, k6⟩,
    ⟨a7, i7, k7⟩,
    p3,
    ⟨a3, pg3, pt3, ⟨_, pc3⟩⟩,
    C2,
    PySem.W.mg_of X G ca2,
    ⟨cg2, ch2, co2, cs2⟩,
    ⟨a8, i8, k8⟩,
    ⟨a9, i9⟩,
    C3,
    PySem.W.mg_of X G ca3,
    ⟨cg3, ch3, co3, cs3⟩,
    ⟨a10, i10, k10⟩,
    C4,
    PySem.W.mg_of X G ca4,
    ⟨cg4, ch4, co4, cs4⟩,
    ⟨a11, i11, k11⟩,
    C5,
    PySem.W.mg_of X G ca5,
    ⟨cg5, ch5, co5, cs5⟩,
    ⟨a12, i12, k12⟩,
    C6,
    PySem.W.mg_of X G ca6,
    ⟨cg6, ch6, co6, cs6⟩,
    ⟨a13, i13, k13⟩,
    ⟨_, _, _, _, _, _, _, _, _, _, _, _, _, _, _, _, _, _, rfl, l10, c10, se10, sv10, sq10⟩,
    ⟨su10_3, sm10_3, sI10_3, so10_3, sy10_3, sf10_3⟩,
    ⟨su10_5, sm10_5, sI10_5, so10_5, sy10_5, sf10_5⟩,
    ⟨_, _, _, _, _, _, _, _, _, _, _, _, _, _, _, _, _, _, rfl, l11, c11, se11, sv11, sq11⟩,
    ⟨su11_4, sm11_4, sI11_4, so11_4, sy11_4, sf11_4⟩,
    ⟨su11_5, sm11_5, sI11_5, so11_5, sy11_5, sf11_5⟩,
    ⟨_, _, _, _, _, _, _, _, _, _, _, _, _, _, _, _, _, _, rfl, l12, c12, se12, sv12, sq12⟩,
    ⟨su12_5, sm12_5, sI12_5, so12_5, sy12_5, sf12_5⟩,
    ⟨nm2, nt2, nk2⟩,
    ⟨nm3, nt3, nk3⟩,
    ih3_le,
    ⟨nm4, nt4, nk4⟩,
    ih4_le,
    ⟨nm5, nt5, nk5⟩,
    ih5_le,
    ⟨nm6, nt6, nk6⟩,
    ih6_le,
    le_self,
    le_below ln2_3 ls3_2 lg3 lm3,
    le_below ln2_4 ls4_2 lg4 lm4,
    le_below ln2_5 ls5_2 lg5 lm5,
    le_below ln2_6 ls6_2 lg6 lm6,
    le_no ls2_3,
    le_self,
    le_no ls4_3,
    le_below ln3_5 ls5_3 lg5 lm5,
    le_no ls6_3,
    le_no ls2_4,
    le_no ls3_4,
    le_self,
    le_below ln4_5 ls5_4 lg5 lm5,
    le_no ls6_4,
    le_no ls2_5,
    le_no ls3_5,
    le_no ls4_5,
    le_self,
    le_no ls6_5,
    le_no ls2_6,
    le_no ls3_6,
    le_no ls4_6,
    le_no ls5_6,
    le_self⟩, rfl, rfl, fun s v => .of_eq rfl⟩
end K48
set_option Elab.async false
set_option linter.all false
set_option maxRecDepth 100000
set_option maxHeartbeats 4000000
namespace K48
open PySem PySem.Spec PyProof.Rows L2 XL
end K48
open PySem PySem.W PyProof.Rows
set_option maxHeartbeats 0 in
theorem PySem.Challenge.cw_drawnanew_k48_whole_weakest_holds : PySem.Challenge.rw_drawnanew_k48_whole_weakest.Holds := by
  w_on; o_law; k_head; (case hw => w_witness2)
  k_fill
  refine L2.walk_of (l := PySem.Challenge.rw_drawnanew_k48_whole_weakest) (n := 63) (k := 22) (x := "_law_script") (CX := fun _ => L2.CX0) (sp := fun w => K48.spLaw _) rfl (by decide) rfl ⟨rfl, by decide, by decide⟩ (fun w h Y => PySem.W.kIn_of Y) ?F (fun _ _ a ns hl _ hS => ⟨a, ns, rfl, hS, hl, fun _ => rfl⟩) (fun _ _ _ _ _ h => h)
  case F =>
    intro w mg fa h KX G hmg
    refine' K48.law_end KX G hmg (K48.top_mk (W := w) KX G ?ca0 ?ca1 ?ca2 ?ca3 ?ca4 ?ca5 ?ca6 ?a0 ?l0 ?c0 ?k0 ?a1 ?i1 ?l1 ?c1 ?k1 ?a2 ?i2 ?l2 ?c2 ?k2 ?a3 ?pg3 ?pt3 ?pc3 ?l3 ?c3 ?k3 ?a4 ?i4 ?l4 ?c4 ?k4 ?a5 ?i5 ?l5 ?c5 ?k5 ?a6 ?i6 ?l6 ?c6 ?k6 ?a7 ?i7 ?l7 ?c7 ?k7 ?a8 ?i8 ?l8 ?c8 ?k8 ?a9 ?i9 ?l9 ?c9 ?k9 ?a10 ?i10 ?l10 ?c10 ?k10 ?se10 ?sv10 ?sq10 ?a11 ?i11 ?l11 ?c11 ?k11 ?se11 ?sv11 ?sq11 ?a12 ?i12 ?l12 ?c12 ?k12 ?se12 ?sv12 ?sq12 ?a13 ?i13 ?l13 ?c13 ?k13 ?a14 ?l14 ?c14 ?k14 ?a15 ?l15 ?c15 ?k15 ?a16 ?l16 ?c16 ?k16 ?a17 ?l17 ?c17 ?k17 ?a18 ?l18 ?c18 ?k18 ?a19 ?l19 ?c19 ?k19 ?a20 ?l20 ?c20 ?k20 ?a21 ?l21 ?c21 ?k21 ?a22 ?l22 ?c22 ?k22 ?a23 ?l23 ?c23 ?k23 ?a24 ?l24 ?c24 ?k24 ?a25 ?l25 ?c25 ?k25 ?a26 ?l26 ?c26 ?k26 ?a27 ?l27 ?c27 ?k27 ?a28 ?l28 ?c28 ?k28 ?a29 ?l29 ?c29 ?k29 ?a30 ?l30 ?c30 ?k30 ?a31 ?l31 ?c31 ?k31 ?a32 ?l32 ?c32 ?k32 ?a33 ?l33 ?c33 ?k33 ?a34 ?l34 ?c34 ?k34 ?a35 ?l35 ?c35 ?k35 ?a36 ?l36 ?c36 ?k36 ?a37 ?l37 ?c37 ?k37 ?a38 ?l38 ?c38 ?k38 ?a39 ?l39 ?c39 ?k39 ?a40 ?l40 ?c40 ?k40 ?a41 ?l41 ?c41 ?k41 ?a42 ?l42 ?c42 ?k42 ?a43 ?l43 ?c43 ?k43 ?z0 ?z1 ?z2 ?z3 ?z4 ?z5 ?z6 ?z7 ?z8 ?z9 ?ua0 ?ul0 ?cg0 ?ch0 ?co0 ?cs0 ?cf0_0 ?cf0_1 ?cf0_2 ?cf0_3 ?cf0_4 ?cf0_5 ?cm0 ?ck0 ?cg1 ?ch1 ?co1 ?cs1 ?cf1_0 ?cf1_1 ?cf1_2 ?cf1_3 ?cf1_4 ?cm1 ?ck1 ?cg2 ?ch2 ?co2 ?cs2 ?cg3 ?ch3 ?co3 ?cs3 ?cg4 ?ch4 ?co4 ?cs4 ?cg5 ?ch5 ?co5 ?cs5 ?cg6 ?ch6 ?co6 ?cs6 ?su10_3 ?sm10_3 ?sI10_3 ?so10_3 ?sy10_3 ?sf10_3 ?su10_5 ?sm10_5 ?sI10_5 ?so10_5 ?sy10_5 ?sf10_5 ?su11_4 ?sm11_4 ?sI11_4 ?so11_4 ?sy11_4 ?sf11_4 ?su11_5 ?sm11_5 ?sI11_5 ?so11_5 ?sy11_5 ?sf11_5 ?su12_5 ?sm12_5 ?sI12_5 ?so12_5 ?sy12_5 ?sf12_5 ?nm2 ?nt2 ?nk2 ?nm3 ?nt3 ?nk3 ?ih3_le ?nm4 ?nt4 ?nk4 ?ih4_le ?nm5 ?nt5 ?nk5 ?ih5_le ?nm6 ?nt6 ?nk6 ?ih6_le ?lg2 ?lm2 ?lg3 ?lm3 ?lg4 ?lm4 ?lg5 ?lm5 ?lg6 ?lm6 ?ls2_3 ?ln2_3 ?ls2_4 ?ln2_4 ?ls2_5 ?ln2_5 ?ls2_6 ?ln2_6 ?ls3_2 ?ln3_2 ?ls3_4 ?ln3_4 ?ls3_5 ?ln3_5 ?ls3_6 ?ln3_6 ?ls4_2 ?ln4_2 ?ls4_3 ?ln4_3 ?ls4_5 ?ln4_5 ?ls4_6 ?ln4_6 ?ls5_2 ?ln5_2 ?ls5_3 ?ln5_3 ?ls5_4 ?ln5_4 ?ls5_6 ?ln5_6 ?ls6_2 ?ln6_2 ?ls6_3 ?ln6_3 ?ls6_4 ?ln6_4 ?ls6_5 ?ln6_5) ?pf
    (case ca0 => k_is)
    (case ca1 => k_is)
    (case ca2 => k_is)
    (case ca3 => k_is)
    (case ca4 => k_is)
    (case ca5 => k_is)
    (case ca6 => k_is)
    (case a0 => k_is)
    (case l0 => k_is)
    (case c0 => k_is)
    (case k0 => k_is)
    (case a1 => k_is)
    (case i1 => k_is)
    (case l1 => k_is)
    (case c1 => k_is)
    (case k1 => k_is)
    (case a2 => k_is)
    (case i2 => k_is)
    (case l2 => k_is)
    (case c2 => k_is)
    (case k2 => k_is)
    (case a3 => k_is)
    (case pg3 => k_is)
    (case pt3 => k_is)
    (case pc3 => k_is)
    (case l3 => k_is)
    (case c3 => k_is)
    (case k3 => k_is)
    (case a4 => k_is)
    (case i4 => k_is)
    (case l4 => k_is)
    (case c4 => k_is)
    (case k4 => k_is)
    (case a5 => k_is)
    (case i5 => k_is)
    (case l5 => k_is)
    (case c5 => k_is)
    (case k5 => k_is)
    (case a6 => k_is)
    (case i6 => k_is)
    (case l6 => k_is)
    (case c6 => k_is)
    (case k6 => k_is)
    (case a7 => k_is)
    (case i7 => k_is)
    (case l7 => k_is)
    (case c7 => k_is)
    (case k7 => k_is)
    (case a8 => k_is)
    (case i8 => k_is)
    (case l8 => k_is)
    (case c8 => k_is)
    (case k8 => k_is)
    (case a9 => k_is)
    (case i9 => k_is)
    (case l9 => k_is)
    (case c9 => k_is)
    (case k9 => k_is)
    (case a10 => k_is)
    (case i10 => k_is)
    (case l10 => k_is)
    (case c10 => k_is)
    (case k10 => k_is)
    (case se10 => k_is)
    (case sv10 => rfl)
    (case sq10 => k_is)
    (case a11 => k_is)
    (case i11 => k_is)
    (case l11 => k_is)
    (case c11 => k_is)
    (case k11 => k_is)
    (case se11 => k_is)
    (case sv11 => rfl)
    (case sq11 => k_is)
    (case a12 => k_is)
    (case i12 => k_is)
    (case l12 => k_is)
    (case c12 => k_is)
    (case k12 => k_is)
    (case se12 => k_is)
    (case sv12 => rfl)
    (case sq12 => k_is)
    (case a13 => k_is)
    (case i13 => k_is)
    (case l13 => k_is)
    (case c13 => k_is)
    (case k13 => k_is)
    (case a14 => k_is)
    (case l14 => k_is)
    (case c14 => k_is)
    (case k14 => k_is)
    (case a15 => k_is)
    (case l15 => k_is)
    (case c15 => k_is)
    (case k15 => k_is)
    (case a16 => k_is)
    (case l16 => k_is)
    (case c16 => k_is)
    (case k16 => k_is)
    (case a17 => k_is)
    (case l17 => k_is)
    (case c17 => k_is)
    (case k17 => k_is)
    (case a18 => k_is)
    (case l18 => k_is)
    (case c18 => k_is)
    (case k18 => k_is)
    (case a19 => k_is)
    (case l19 => k_is)
    (case c19 => k_is)
    (case k19 => k_is)
    (case a20 => k_is)
    (case l20 => k_is)
    (case c20 => k_is)
    (case k20 => k_is)
    (case a21 => k_is)
    (case l21 => k_is)
    (case c21 => k_is)
    (case k21 => k_is)
    (case a22 => k_is)
    (case l22 => k_is)
    (case c22 => k_is)
    (case k22 => k_is)
    (case a23 => k_is)
    (case l23 => k_is)
    (case c23 => k_is)
    (case k23 => k_is)
    (case a24 => k_is)
    (case l24 => k_is)
    (case c24 => k_is)
    (case k24 => k_is)
    (case a25 => k_is)
    (case l25 => k_is)
    (case c25 => k_is)
    (case k25 => k_is)
    (case a26 => k_is)
    (case l26 => k_is)
    (case c26 => k_is)
    (case k26 => k_is)
    (case a27 => k_is)
    (case l27 => k_is)
    (case c27 => k_is)
    (case k27 => k_is)
    (case a28 => k_is)
    (case l28 => k_is)
    (case c28 => k_is)
    (case k28 => k_is)
    (case a29 => k_is)
    (case l29 => k_is)
    (case c29 => k_is)
    (case k29 => k_is)
    (case a30 => k_is)
    (case l30 => k_is)
    (case c30 => k_is)
    (case k30 => k_is)
    (case a31 => k_is)
    (case l31 => k_is)
    (case c31 => k_is)
    (case k31 => k_is)
    (case a32 => k_is)
    (case l32 => k_is)
    (case c32 => k_is)
    (case k32 => k_is)
    (case a33 => k_is)
    (case l33 => k_is)
    (case c33 => k_is)
    (case k33 => k_is)
    (case a34 => k_is)
    (case l34 => k_is)
    (case c34 => k_is)
    (case k34 => k_is)
    (case a35 => k_is)
    (case l35 => k_is)
    (case c35 => k_is)
    (case k35 => k_is)
    (case a36 => k_is)
    (case l36 => k_is)
    (case c36 => k_is)
    (case k36 => k_is)
    (case a37 => k_is)
    (case l37 => k_is)
    (case c37 => k_is)
    (case k37 => k_is)
    (case a38 => k_is)
    (case l38 => k_is)
    (case c38 => k_is)
    (case k38 => k_is)
    (case a39 => k_is)
    (case l39 => k_is)
    (case c39 => k_is)
    (case k39 => k_is)
    (case a40 => k_is)
    (case l40 => k_is)
    (case c40 => k_is)
    (case k40 => k_is)
    (case a41 => k_is)
    (case l41 => k_is)
    (case c41 => k_is)
    (case k41 => k_is)
    (case a42 => k_is)
    (case l42 => k_is)
    (case c42 => k_is)
    (case k42 => k_is)
    (case a43 => k_is)
    (case l43 => k_is)
    (case c43 => k_is)
    (case k43 => k_is)
    (case z0 => k_is)
    (case z1 => k_is)
    (case z2 => k_is)
    (case z3 => k_is)
    (case z4 => k_is)
    (case z5 => k_is)
    (case z6 => k_is)
    (case z7 => k_is)
    (case z8 => k_is)
    (case z9 => k_is)
    (case ua0 => k_is)
    (case ul0 => k_is)
    (case cg0 => k_is)
    (case ch0 => k_is)
    (case co0 => k_is)
    (case cs0 => k_is)
    (case cf0_0 => k_is)
    (case cf0_1 => k_is)
    (case cf0_2 => k_is)
    (case cf0_3 => k_is)
    (case cf0_4 => k_is)
    (case cf0_5 => k_is)
    (case cm0 => k_is)
    (case ck0 => k_is)
    (case cg1 => k_is)
    (case ch1 => k_is)
    (case co1 => k_is)
    (case cs1 => k_is)
    (case cf1_0 => k_is)
    (case cf1_1 => k_is)
    (case cf1_2 => k_is)
    (case cf1_3 => k_is)
    (case cf1_4 => k_is)
    (case cm1 => k_is)
    (case ck1 => k_is)
    (case cg2 => k_is)
    (case ch2 => k_is)
    (case co2 => k_is)
    (case cs2 => k_is)
    (case cg3 => k_is)
    (case ch3 => k_is)
    (case co3 => k_is)
    (case cs3 => k_is)
    (case cg4 => k_is)
    (case ch4 => k_is)
    (case co4 => k_is)
    (case cs4 => k_is)
    (case cg5 => k_is)
    (case ch5 => k_is)
    (case co5 => k_is)
    (case cs5 => k_is)
    (case cg6 => k_is)
    (case ch6 => k_is)
    (case co6 => k_is)
    (case cs6 => k_is)
    (case su10_3 => ks_is)
    (case sm10_3 => k_is)
    (case sI10_3 => k_is)
    (case so10_3 => k_is)
    (case sy10_3 => k_is)
    (case sf10_3 => k_is)
    (case su10_5 => ks_is)
    (case sm10_5 => k_is)
    (case sI10_5 => k_is)
    (case so10_5 => k_is)
    (case sy10_5 => k_is)
    (case sf10_5 => k_is)
    (case su11_4 => ks_is)
    (case sm11_4 => k_is)
    (case sI11_4 => k_is)
    (case so11_4 => k_is)
    (case sy11_4 => k_is)
    (case sf11_4 => k_is)
    (case su11_5 => ks_is)
    (case sm11_5 => k_is)
    (case sI11_5 => k_is)
    (case so11_5 => k_is)
    (case sy11_5 => k_is)
    (case sf11_5 => k_is)
    (case su12_5 => ks_is)
    (case sm12_5 => k_is)
    (case sI12_5 => k_is)
    (case so12_5 => k_is)
    (case sy12_5 => k_is)
    (case sf12_5 => k_is)
    (case nm2 => k_is)
    (case nt2 => k_is)
    (case nk2 => k_is)
    (case nm3 => k_is)
    (case nt3 => k_is)
    (case nk3 => k_is)
    (case ih3_le => k_is)
    (case nm4 => k_is)
    (case nt4 => k_is)
    (case nk4 => k_is)
    (case ih4_le => k_is)
    (case nm5 => k_is)
    (case nt5 => k_is)
    (case nk5 => k_is)
    (case ih5_le => k_is)
    (case nm6 => k_is)
    (case nt6 => k_is)
    (case nk6 => k_is)
    (case ih6_le => k_is)
    (case lg2 => k_is)
    (case lm2 => k_is)
    (case lg3 => k_is)
    (case lm3 => k_is)
    (case lg4 => k_is)
    (case lm4 => k_is)
    (case lg5 => k_is)
    (case lm5 => k_is)
    (case lg6 => k_is)
    (case lm6 => k_is)
    (case ls2_3 => k_is)
    (case ln2_3 => rfl)
    (case ls2_4 => k_is)
    (case ln2_4 => rfl)
    (case ls2_5 => k_is)
    (case ln2_5 => rfl)
    (case ls2_6 => k_is)
    (case ln2_6 => rfl)
    (case ls3_2 => k_is)
    (case ln3_2 => rfl)
    (case ls3_4 => k_is)
    (case ln3_4 => rfl)
    (case ls3_5 => k_is)
    (case ln3_5 => rfl)
    (case ls3_6 => k_is)
    (case ln3_6 => rfl)
    (case ls4_2 => k_is)
    (case ln4_2 => rfl)
    (case ls4_3 => k_is)
    (case ln4_3 => rfl)
    (case ls4_5 => k_is)
    (case ln4_5 => rfl)
    (case ls4_6 => k_is)
    (case ln4_6 => rfl)
    (case ls5_2 => k_is)
    (case ln5_2 => rfl)
    (case ls5_3 => k_is)
    (case ln5_3 => rfl)
    (case ls5_4 => k_is)
    (case ln5_4 => rfl)
    (case ls5_6 => k_is)
    (case ln5_6 => rfl)
    (case ls6_2 => k_is)
    (case ln6_2 => rfl)
    (case ls6_3 => k_is)
    (case ln6_3 => rfl)
    (case ls6_4 => k_is)
    (case ln6_4 => rfl)
    (case ls6_5 => k_is)
    (case ln6_5 => rfl)
    (case pf => exact ⟨by first | rfl | decide +kernel, by first | rfl | decide +kernel⟩)
