import PyProof.Rows.All
import Wide.All
import OpenK.AllK
import Wide.FinOn
import HandS.ForMost
import HandS.Flow
import HandS.IsInst
import HandS.Wide
import HandS.Walk
import PyProof.Rows.IntBool
import HandS.Property
import HandS.Star
import HandS.OwnEq
import HandS.SetFor
import KE.GoesEnum
import KE.GoesMore
import HandS.Strs
import HandS.Deep
import HandS.TupAny
import KE.KRevSl
import KE.KOpsOwn
import HandS.ForExc
import HandS.FStr
import HandS.ExcField
import HandS.ExcIs
import HandS.ExcSuper
import KE.KExcSuper
import KE.KExcIs
import HandS.OwnIter
import HandS.IterNext
import HandS.Text
import HandS.Zip
import HandS.HotCalls
import PyProof.ReprRoads
import HandS.Ends
import PyProof.AutoSeq1
import HandS.IterVal
import OpenK.KMake
import HandS.Defaults
import HandS.NoneIn
import HandS.Style
import HandS.ClsMeth
import HandS.DictComp
import HandS.WideBits
import HandS.Finally
import PySem.Challenge.RW_drawnanew_k39_whole_schedules
set_option Elab.async false
set_option linter.all false
set_option maxRecDepth 100000
set_option maxHeartbeats 4000000
/-! XBase: readings that compute, over the hand layer; the heap cut into a part that only grows and cells that change. -/
namespace XL
open PySem PySem.Spec PyProof.Rows L2
abbrev St := L2.St

/-! ### a reading may be exchanged for a stronger one -/
theorem pe_str {X : Cx} {e : Expr} {t t' : TE} (h : PE X e t) (k : ∀ σ H Q, t' σ H Q → t σ H Q) : PE X e t' := ⟨fun pins s σ H Q I q => h.run pins s σ H Q I (k σ H Q q)⟩
theorem pt_str {X : Cx} {e : Expr} {t t' : TT} (h : PT X e t) (k : ∀ σ H Q, t' σ H Q → t σ H Q) : PT X e t' := ⟨fun pins s σ H Q I q => h.run pins s σ H Q I (k σ H Q q)⟩
theorem ps_str {X : Cx} {e : Stmt} {t t' : TS} (h : PS X e t) (k : ∀ D σ H, t' D σ H → t D σ H) : PS X e t' := ⟨fun pins s σ H D I q => h.run pins s σ H D I (k D σ H q)⟩
theorem or_str {X : Cx} {f : Value → Value → Sem Value} {r r' : R2} (h : OpR X f r) (k : ∀ x y H Q, r' x y H Q → r x y H Q) : OpR X f r' := fun pins s σ H x y v u Q I rx ry q => h pins s σ H x y v u Q I rx ry (k x y H Q q)
theorem cr_str {X : Cx} {f : Value} {r r' : List V → Hp → VK → Prop} (h : CallR X f r) (k : ∀ xs H Q, r' xs H Q → r xs H Q) : CallR X f r' := fun pins s σ H xs us Q I rx q => h pins s σ H xs us Q I rx (k xs H Q q)
theorem OpR.or {X : Cx} {f : Value → Value → Sem Value} {r r' : R2} (h : OpR X f r) (h' : OpR X f r') : OpR X f (fun x y H Q => r x y H Q ∨ r' x y H Q) := by
  intro pins s σ H x y v u Q I rx ry q
  rcases q with q | q
  · exact h pins s σ H x y v u Q I rx ry q
  · exact h' pins s σ H x y v u Q I rx ry q

/-! ### names -/
def nth : St → Nat → Option V
  | [], _ => none
  | x :: _, 0 => x
  | _ :: r, n + 1 => nth r n
theorem nth_get : ∀ {σ : St} {i : Nat} {v : V}, nth σ i = some v → σ[i]? = some (some v)
  | [], _, _, h => nomatch h
  | _ :: _, 0, _, h => congrArg some h
  | _ :: r, n + 1, _, h => by
    rw [List.getElem?_cons_succ]
    exact nth_get (σ := r) h
def xVar (i : Nat) : TE := fun σ H Q => match nth σ i with
  | some v => Q v H
  | none => False
section
variable {X : Cx} {a b c : Expr} {ta tb tc : TE} {pos : Pos} {tA tB' : TT} {rest : List Expr}
theorem xv (i : Nat) {x : Str} {pos : Pos} (hN : X.N[i]? = some x := by rfl) (hv : Vis X.env.scope x := by first | exact Or.inl rfl | exact Or.inr (Or.inl rfl) | exact Or.inr (Or.inr rfl)) (hd : (x == ("__debug__" : Str)) = false := by decide)
    (hcd : (x == ("__classdict__" : Str)) = false := by decide) : PE X (.Name x pos) (xVar i) := pe_str (pe_var hN hv hd hcd) fun σ H Q h => by
  unfold xVar at h
  cases e : nth σ i with
  | none => rw [e] at h; exact h.elim
  | some v => rw [e] at h; exact ⟨v, nth_get e, h⟩

/-! ### arithmetic -/
theorem op_mul_ib : OpR X (binaryOp .Mult) (fun x y H Q => ∃ i k, x = .int i ∧ y = .bl k ∧ Q (.int (i * b2i k)) H) := by
  intro pins s σ H x y v u Q I rx ry h
  obtain ⟨i, k, rfl, rfl, q⟩ := h
  obtain ⟨t, rfl⟩ := rx
  cases ry
  refine PySem.IntBool.mul_int_bool ?_
  have e : (if k = true then (1 : Int) else 0) = b2i k := by cases k <;> rfl
  rw [e]
  exact ⟨.int (i * b2i k), H, I.tok _, ⟨_, rfl⟩, q⟩
def yAdd : R2 := fun x y H Q => match x, y with
  | .int i, .int j => Q (.int (i + j)) H
  | .int i, .bl k => Q (.int (i + b2i k)) H
  | .str a, .str b => a.length + b.length ≤ sizeLine ∧ ∀ r : Str, r = a ++ b → Q (.str r) H
  | .ref l, .ref b => rCat (.ref l) (.ref b) H Q
  | _, _ => False
theorem op_addY : OpR X (binaryOp .Add) yAdd := by
  refine or_str (OpR.or (op_add (X := X)) (OpR.or (op_add_ib (X := X)) (OpR.or (op_add_str (X := X)) (op_cat (X := X))))) fun x y H Q h => ?_
  unfold yAdd at h
  split at h
  · exact .inl ⟨_, _, rfl, rfl, h⟩
  · exact .inr (.inl ⟨_, _, rfl, rfl, h⟩)
  · exact .inr (.inr (.inl ⟨_, _, rfl, rfl, h.1, h.2 _ rfl⟩))
  · exact .inr (.inr (.inr h))
  · exact h.elim
def ySub : R2 := fun x y H Q => match x, y with
  | .int i, .int j => Q (.int (i - j)) H
  | _, _ => False
theorem op_subY : OpR X (binaryOp .Sub) ySub := by
  refine or_str (op_sub (X := X)) fun x y H Q h => ?_
  unfold ySub at h
  split at h
  · exact ⟨_, _, rfl, rfl, h⟩
  · exact h.elim
def yMul : R2 := fun x y H Q => match x, y with
  | .int i, .int j => CMul i j ∧ Q (.int (i * j)) H
  | .int i, .bl k => Q (.int (i * b2i k)) H
  | .ref l, .int k => rRep (.ref l) (.int k) H Q
  | _, _ => False
theorem op_mulY : OpR X (binaryOp .Mult) yMul := by
  refine or_str (OpR.or (op_mul (X := X)) (OpR.or (op_mul_ib (X := X)) (op_rep (X := X)))) fun x y H Q h => ?_
  unfold yMul at h
  split at h
  · exact .inl ⟨_, _, rfl, rfl, h.1, h.2⟩
  · exact .inr (.inl ⟨_, _, rfl, rfl, h⟩)
  · exact .inr (.inr h)
  · exact h.elim
def yMod : R2 := fun x y H Q => match x, y with
  | .int i, .int j => 0 < j ∧ ∀ r : Int, r = i % j → 0 ≤ r → r < j → Q (.int r) H
  | _, _ => False
theorem op_modY : OpR X (binaryOp .Mod) yMod := by
  refine or_str (op_mod (X := X)) fun x y H Q h => ?_
  unfold yMod at h
  split at h
  · exact ⟨_, _, rfl, rfl, h.1, h.2 _ rfl (Int.emod_nonneg _ (by have := h.1; omega)) (Int.emod_lt_of_pos _ h.1)⟩
  · exact h.elim
def yDiv : R2 := fun x y H Q => match x, y with
  | .int i, .int j => (0 < j ∧ j < 1073741824) ∧ ∀ r : Int, r = i / j → (0 ≤ i → 0 ≤ r) → Q (.int r) H
  | _, _ => False
theorem op_divY : OpR X (binaryOp .FloorDiv) yDiv := by
  refine or_str (op_fdiv (X := X)) fun x y H Q h => ?_
  unfold yDiv at h
  split at h
  · exact ⟨_, _, rfl, rfl, h.1, h.2 _ rfl (fun h0 => Int.ediv_nonneg h0 (by have := h.1.1; omega))⟩
  · exact h.elim
def yPow : R2 := fun x y H Q => match x, y with
  | .int i, .int j => CPow i j ∧ ∀ r : Int, r = i ^ j.toNat → Q (.int r) H
  | _, _ => False
theorem op_powY : OpR X (binaryOp .Pow) yPow := by
  refine or_str (op_pow (X := X)) fun x y H Q h => ?_
  unfold yPow at h
  split at h
  · exact ⟨_, _, rfl, rfl, h.1, h.2 _ rfl⟩
  · exact h.elim

/-! ### comparisons -/
def yCmp (p : Int → Int → Bool) : R2 := fun x y H Q => match x, y with
  | .int i, .int j => Q (.bl (p i j)) H
  | _, _ => False
theorem yCmp_rI {p : Int → Int → Bool} {x y : V} {H : Hp} {Q : VK} (h : yCmp p x y H Q) : rI0 (fun i j => .bl (p i j)) x y H Q := by
  unfold yCmp at h
  split at h
  · exact ⟨_, _, rfl, rfl, h⟩
  · exact h.elim
theorem op_ltY : OpR X (compareOp .Lt) (yCmp fun i j => decide (i < j)) := or_str (op_lt (X := X)) fun _ _ _ _ h => yCmp_rI h
theorem op_leY : OpR X (compareOp .LtE) (yCmp fun i j => decide (i ≤ j)) := or_str (op_le (X := X)) fun _ _ _ _ h => yCmp_rI h
theorem op_gtY : OpR X (compareOp .Gt) (yCmp fun i j => decide (j < i)) := or_str (op_gt (X := X)) fun _ _ _ _ h => yCmp_rI h
theorem op_geY : OpR X (compareOp .GtE) (yCmp fun i j => decide (j ≤ i)) := or_str (op_ge (X := X)) fun _ _ _ _ h => yCmp_rI h
def yEq (K : PySem.W.Frag) : R2 := fun x y H Q => match x, y with
  | .int i, .int j => Q (.bl (decide (i = j))) H
  | .str i, .str j => Q (.bl (decide (i = j))) H
  | .bl i, .bl j => Q (.bl (decide (i = j))) H
  | .ref a, .ref b => rEqD K (.ref a) (.ref b) H Q
  | x, y => scal x y = true ∧ Q (.bl (decide (x = y))) H
def yNe (K : PySem.W.Frag) : R2 := fun x y H Q => match x, y with
  | .int i, .int j => Q (.bl (!decide (i = j))) H
  | .str i, .str j => Q (.bl (!decide (i = j))) H
  | .bl i, .bl j => Q (.bl (!decide (i = j))) H
  | .ref a, .ref b => rNeD K (.ref a) (.ref b) H Q
  | x, y => scal x y = true ∧ Q (.bl (!decide (x = y))) H
theorem deci {i j : Int} : decide (V.int i = V.int j) = decide (i = j) := by by_cases h : i = j <;> simp [h]
theorem decs {i j : Str} : decide (V.str i = V.str j) = decide (i = j) := by by_cases h : i = j <;> simp [h]
theorem decb {i j : Bool} : decide (V.bl i = V.bl j) = decide (i = j) := by by_cases h : i = j <;> simp [h]
theorem op_eqY (hu : X.A.units + 64 < cLine) : OpR X (compareOp .Eq) (yEq X.K) := by
  refine or_str (OpR.or (op_eq (X := X)) (op_eqD hu)) fun x y H Q h => ?_
  unfold yEq at h
  split at h
  · exact .inl ⟨rfl, by rw [deci]; exact h⟩
  · exact .inl ⟨rfl, by rw [decs]; exact h⟩
  · exact .inl ⟨rfl, by rw [decb]; exact h⟩
  · exact .inr h
  · exact .inl h
theorem op_neY (hu : X.A.units + 64 < cLine) : OpR X (compareOp .NotEq) (yNe X.K) := by
  refine or_str (OpR.or (op_ne (X := X)) (op_neD hu)) fun x y H Q h => ?_
  unfold yNe at h
  split at h
  · exact .inl ⟨rfl, by rw [deci]; exact h⟩
  · exact .inl ⟨rfl, by rw [decs]; exact h⟩
  · exact .inl ⟨rfl, by rw [decb]; exact h⟩
  · exact .inr h
  · exact .inl h

/-! ### tests -/
/-- a bool as a test -/
def xB (t : TE) : TT := fun σ H Q => t σ H fun x H1 => match x with
  | .bl c => Q c H1
  | _ => False
theorem pe_mono {X : Cx} {e : Expr} {t : TE} (_h : PE X e t) : True := trivial
theorem xt_cmp {op : CmpOp} {r : R2} (ho : OpR X (compareOp op) r) (ha : PE X a ta) (hb : PE X b tb) (hm : behindInMarks op b = false) : PT X (.Compare a [op] [b] pos) (xB (tOp r ta tb)) := by
  refine ⟨fun pins s σ H Q I h => ?_⟩
  refine wpAny_isTrue_Compare1 (thn (ha.run pins s σ H _ I h) fun v s1 ⟨x, H1, I1, r1, q1⟩ => thn (hb.run pins s1 σ H1 _ I1 q1) fun u s2 ⟨y, H2, I2, r2, q2⟩ =>
    thn (ho pins s2 σ H2 x y v u _ I2 r1 r2 q2) fun c s3 ⟨z, H3, I3, r3, q3⟩ => ?_) hm
  cases z with
  | bl k =>
    cases r3
    exact wpAny_truthy_bool ⟨H3, I3, q3⟩
  | _ => exact False.elim q3
theorem xt_val {e : Expr} {t : TE} (h : PE X e t) (he : ∀ whole, isTrue e X.env whole = (do let v ← whole; standAt e.pos; holding [v] (truthy v)) := by intro _; rfl) : PT X e (xB t) := by
  refine ⟨fun pins s σ H Q I hw => ?_⟩
  refine isTrue_plain (thn (h.run pins s σ H _ I hw) fun v s1 ⟨x, H1, I1, r1, q1⟩ => ?_) (he _)
  cases x with
  | bl k =>
    cases r1
    exact wpAny_truthy_bool ⟨H1, I1, q1⟩
  | _ => exact False.elim q1
/-- the truth of a value -/
def yTru (K : PySem.W.Frag) (x : V) (H : Hp) (Q : Bool → Hp → Prop) : Prop := match x with
  | .bl c => Q c H
  | .int i => Q (i != 0) H
  | .non => Q false H
  | x => ∃ k, TruV K x H k ∧ Q k H
def xTru (K : PySem.W.Frag) (t : TE) : TT := fun σ H Q => t σ H fun x H1 => yTru K x H1 Q
theorem xt_tru (ha : PE X a ta) (he : ∀ whole, isTrue a X.env whole = (do let v ← whole; standAt a.pos; holding [v] (truthy v)) := by intro _; rfl) : PT X a (xTru X.K ta) := by
  have hq : PE X a (fun σ H Q => ta σ H Q) := ha
  refine ⟨fun pins s σ H Q I hw => ?_⟩
  refine isTrue_plain (thn (ha.run pins s σ H _ I hw) fun v s1 ⟨x, H1, I1, r1, q1⟩ => ?_) (he _)
  have q2 : ∃ k, TruV X.K x H1 k ∧ Q k H1 := by
    change yTru X.K x H1 Q at q1
    unfold yTru at q1
    split at q1
    · exact ⟨_, rfl, q1⟩
    · exact ⟨_, rfl, q1⟩
    · exact ⟨_, rfl, q1⟩
    · exact q1
  exact tru_ok pins s1 σ H1 x v Q I1 r1 q2
def xAnd (t u : TT) : TT := fun σ H Q => t σ H fun c H1 => (c = true → u σ H1 Q) ∧ (c = false → Q false H1)
def xOr (t u : TT) : TT := fun σ H Q => t σ H fun c H1 => (c = true → Q true H1) ∧ (c = false → u σ H1 Q)
theorem xw_and (ha : PT X a tA) (hb : PW X (.BoolOp .And (b :: rest) pos) tB') : PW X (.BoolOp .And (a :: b :: rest) pos) (xAnd tA tB') := by
  refine ⟨fun wh pins s0 σ H Q J h => ?_⟩
  refine isTrue_and (thn (ha.run pins s0 σ H _ J h) fun k s2 ⟨H2, J2, q2⟩ => ?_)
  cases k with
  | true => exact hb.run wh pins s2 σ H2 Q J2 (q2.1 rfl)
  | false => exact ⟨H2, J2, q2.2 rfl⟩
theorem xw_or (ha : PT X a tA) (hb : PW X (.BoolOp .Or (b :: rest) pos) tB') : PW X (.BoolOp .Or (a :: b :: rest) pos) (xOr tA tB') := by
  refine ⟨fun wh pins s0 σ H Q J h => ?_⟩
  refine isTrue_or (thn (ha.run pins s0 σ H _ J h) fun k s2 ⟨H2, J2, q2⟩ => ?_)
  cases k with
  | true => exact ⟨H2, J2, q2.1 rfl⟩
  | false => exact hb.run wh pins s2 σ H2 Q J2 (q2.2 rfl)
/-- and, or, not as values: of bools -/
def xAndV (ta tb : TE) : TE := fun σ H Q => ta σ H fun x H1 => match x with
  | .bl c => (c = true → tb σ H1 Q) ∧ (c = false → Q (.bl false) H1)
  | _ => False
def xOrV (ta tb : TE) : TE := fun σ H Q => ta σ H fun x H1 => match x with
  | .bl c => (c = true → Q (.bl true) H1) ∧ (c = false → tb σ H1 Q)
  | _ => False
def xNotV (ta : TE) : TE := fun σ H Q => ta σ H fun x H1 => match x with
  | .bl c => Q (.bl (!c)) H1
  | _ => False
theorem xe_and (ha : PE X a ta) (hb : PE X (.BoolOp .And (b :: rest) pos) tb) : PE X (.BoolOp .And (a :: b :: rest) pos) (xAndV ta tb) := by
  refine ⟨fun pins s0 σ H Q J h => ?_⟩
  refine BoolOp_and (thn (ha.run pins s0 σ H _ J h) fun v s2 ⟨x, H2, J2, r2, q2⟩ => ?_)
  cases x with
  | bl k =>
    cases r2
    refine wpAny_truthy_bool ?_
    cases k with
    | true => exact hb.run pins s2 σ H2 Q J2 (q2.1 rfl)
    | false => exact ⟨.bl false, H2, J2, rfl, q2.2 rfl⟩
  | _ => exact False.elim q2
theorem xe_or (ha : PE X a ta) (hb : PE X (.BoolOp .Or (b :: rest) pos) tb) : PE X (.BoolOp .Or (a :: b :: rest) pos) (xOrV ta tb) := by
  refine ⟨fun pins s0 σ H Q J h => ?_⟩
  refine BoolOp_or (thn (ha.run pins s0 σ H _ J h) fun v s2 ⟨x, H2, J2, r2, q2⟩ => ?_)
  cases x with
  | bl k =>
    cases r2
    refine wpAny_truthy_bool ?_
    cases k with
    | true => exact ⟨.bl true, H2, J2, rfl, q2.1 rfl⟩
    | false => exact hb.run pins s2 σ H2 Q J2 (q2.2 rfl)
  | _ => exact False.elim q2
theorem xe_not (ha : PE X a ta) : PE X (.UnaryOp .Not a pos) (xNotV ta) := by
  refine ⟨fun pins s0 σ H Q J h => ?_⟩
  refine UnaryOp_ (thn (ha.run pins s0 σ H _ J h) fun v s2 ⟨x, H2, J2, r2, q2⟩ => ?_)
  cases x with
  | bl k =>
    cases r2
    exact not_of (wpAny_truthy_bool ⟨.bl (!k), H2, J2, rfl, q2⟩)
  | _ => exact False.elim q2
/-- a if t else b -/
def xIf (t : TT) (ta tb : TE) : TE := fun σ H Q => t σ H fun c H1 => (c = true → ta σ H1 Q) ∧ (c = false → tb σ H1 Q)
theorem xe_if {c : Expr} (hc : PT X c tA) (ha : PE X a ta) (hb : PE X b tb) : PE X (.IfExp c a b pos) (xIf tA ta tb) := by
  refine ⟨fun pins s0 σ H Q J h => ?_⟩
  refine wpAny_IfExp (thn (hc.run pins s0 σ H _ J h) fun k s2 ⟨H2, J2, q2⟩ => ?_)
  cases k with
  | true => exact ha.run pins s2 σ H2 Q J2 (q2.1 rfl)
  | false => exact hb.run pins s2 σ H2 Q J2 (q2.2 rfl)
/-- if t: .. else: .. -/
def xIfS (c : TT) (t u : TS) : TS := fun D σ H => c σ H fun b H1 => (b = true → t D σ H1) ∧ (b = false → u D σ H1)
theorem xs_if {c : Expr} {as bs : List Stmt} {tc : TT} {t u : TS} (hc : PT X c tc) (ha : PSs X as t) (hb : PSs X bs u) : PS X (.If c as bs pos) (xIfS tc t u) := by
  refine ⟨fun pins s0 σ H D J h => ?_⟩
  refine wpAny_If (thn (hc.run pins s0 σ H _ J h) fun k s2 ⟨H2, J2, q2⟩ => ?_)
  cases k with
  | true => exact ha.run pins s2 σ H2 D J2 (q2.1 rfl)
  | false => exact hb.run pins s2 σ H2 D J2 (q2.2 rfl)

/-! ### calls of built-ins -/
def yLen (K : PySem.W.Frag) : List V → Hp → VK → Prop := fun xs H Q => match xs with
  | [.str y] => y.length ≤ sizeLine ∧ Q (.int y.length) H
  | [.ref p] => ∃ ys, (SqL K H p ys ∨ SqT K H p ys) ∧ Q (.int ys.length) H
  | _ => False
theorem cr_len : CallR X (.builtin "len") (yLen X.K) := by
  refine cr_str (call_len (X := X)) fun xs H Q h => ?_
  unfold yLen at h
  split at h
  · exact ⟨_, _, rfl, ⟨h.1, rfl⟩, h.2⟩
  · obtain ⟨ys, hy, q⟩ := h
    rcases hy with hy | hy
    · exact ⟨_, _, rfl, .inl ⟨ys, hy, rfl⟩, q⟩
    · exact ⟨_, _, rfl, .inr ⟨ys, hy, rfl⟩, q⟩
  · exact h.elim
def yInt : List V → Hp → VK → Prop := fun xs H Q => match xs with
  | [.int i] => Q (.int i) H
  | [.bl k] => Q (.int (if k then 1 else 0)) H
  | [.str z] => ∃ n, PySem.intText? z = some n ∧ z.length ≤ 640 ∧ Q (.int n) H
  | _ => False
theorem cr_int : CallR X (.type "int") yInt := by
  refine cr_str (CallR.or (call_int1 (X := X)) (call_int_str (X := X))) fun xs H Q h => ?_
  unfold yInt at h
  split at h
  · exact .inl (.inl ⟨_, rfl, h⟩)
  · exact .inl (.inr ⟨_, rfl, h⟩)
  · obtain ⟨n, h1, h2, q⟩ := h
    exact .inr ⟨_, n, rfl, h1, h2, q⟩
  · exact h.elim
def yAbs : List V → Hp → VK → Prop := fun xs H Q => match xs with
  | [.int i] => Q (.int i.natAbs) H
  | _ => False
theorem cr_abs : CallR X (.builtin "abs") yAbs := by
  refine cr_str (call_abs (X := X)) fun xs H Q h => ?_
  unfold yAbs at h
  split at h
  · rename_i i
    refine ⟨i, rfl, ?_⟩
    have e : (if i < 0 then -i else i) = (i.natAbs : Int) := by split <;> omega
    rw [e]
    exact h
  · exact h.elim
def yStr : List V → Hp → VK → Prop := fun xs H Q => match xs with
  | [.int i] => i.natAbs.log2 < 1920 ∧ Q (.str (toString i)) H
  | _ => False
theorem cr_strI : CallR X (.type "str") yStr := by
  refine cr_str (call_str_int (X := X)) fun xs H Q h => ?_
  unfold yStr at h
  split at h
  · exact ⟨_, rfl, h.1, h.2⟩
  · exact h.elim
def yIx (K : PySem.W.Frag) : R2 := fun x y H Q => match x, y with
  | .ref p, .int i => ∃ xs v, (SqL K H p xs ∨ SqT K H p xs) ∧ atI xs i = some v ∧ Q v H
  | .str z, .int i => ∃ c, z.length ≤ sizeLine ∧ atI z.cps.toList i = some c ∧ Q (.str ⟨#[c]⟩) H
  | _, _ => False
theorem ix_y : IxR X (yIx X.K) := by
  intro value slice pins s σ H x y v u Q I rx ry h hs
  refine ix_seq (X := X) value slice pins s σ H x y v u Q I rx ry ?_ hs
  unfold yIx at h
  split at h
  · obtain ⟨xs, z, h1, h2, q⟩ := h
    rcases h1 with h1 | h1
    · exact .inl ⟨_, xs, _, z, rfl, rfl, h1, h2, q⟩
    · exact .inr (.inl ⟨_, xs, _, z, rfl, rfl, h1, h2, q⟩)
  · obtain ⟨k, h1, h2, q⟩ := h
    exact .inr (.inr ⟨_, _, k, rfl, rfl, h1, h2, q⟩)
  · exact h.elim
end

/-! ### the heap: what only grows, and the cells that change -/
def Sep (G : Hp) (M : List (Addr × HO)) (H : Hp) : Prop := Same G H ∧ (∀ p ∈ M, H p.1 = some p.2 ∧ G p.1 = none) ∧ (M.map (·.1)).Nodup
section
variable {G G' H H' : Hp} {M : List (Addr × HO)} {p a b : Addr} {o o' u : HO}
theorem same_upd (h : H p = none) : Same H (upd H p o) := fun b x e => by
  rw [upd_ne (ne_of_none e h)]
  exact e
theorem sep0 : Sep H [] H := ⟨Same.refl H, (fun _ h => nomatch h), List.nodup_nil⟩
theorem Sep.st (S : Sep G M H) (h : G a = some o) : H a = some o := S.1 a o h
theorem Sep.hd (S : Sep G ((a, o) :: M) H) : H a = some o := (S.2.1 _ List.mem_cons_self).1
theorem Sep.at (S : Sep G M H) (h : (a, o) ∈ M) : H a = some o := (S.2.1 _ h).1
theorem Sep.fresh (S : Sep G M H) (h : H p = none) : G p = none := S.1.free h
theorem Sep.new (S : Sep G M H) (h : H p = none) : Sep G ((p, o) :: M) (upd H p o) := by
  refine ⟨S.1.trans (same_upd h), fun q hq => ?_, ?_⟩
  · rcases List.mem_cons.mp hq with rfl | hq
    · exact ⟨upd_same, S.fresh h⟩
    · exact ⟨same_upd h _ _ (S.2.1 q hq).1, (S.2.1 q hq).2⟩
  · rw [List.map_cons, List.nodup_cons]
    refine ⟨fun hm => ?_, S.2.2⟩
    obtain ⟨q, hq, e⟩ := List.mem_map.mp hm
    have z := (S.2.1 q hq).1
    rw [e, h] at z
    cases z
theorem Sep.newG (S : Sep G M H) (h : H p = none) : Sep (upd G p o) M (upd H p o) := by
  refine ⟨fun b x e => ?_, fun q hq => ?_, S.2.2⟩
  · by_cases hb : b = p
    · subst hb
      rw [upd_same] at e ⊢
      exact e
    · rw [upd_ne hb] at e ⊢
      exact S.1 b x e
  · have z := S.2.1 q hq
    refine ⟨same_upd h _ _ z.1, ?_⟩
    rw [upd_ne (ne_of_none z.1 h)]
    exact z.2
theorem Sep.grow (S : Sep G M H) (h : H p = none) : Same G (upd G p o) := same_upd (S.fresh h)
theorem Sep.set (S : Sep G ((a, o) :: M) H) : Sep G ((a, o') :: M) (upd H a o') := by
  have hn := S.2.2
  rw [List.map_cons, List.nodup_cons] at hn
  have ha := S.2.1 _ List.mem_cons_self
  refine ⟨fun b x e => ?_, fun q hq => ?_, S.2.2⟩
  · rw [upd_ne (ne_of_none e ha.2)]
    exact S.1 b x e
  · rcases List.mem_cons.mp hq with rfl | hq
    · exact ⟨upd_same, ha.2⟩
    · refine ⟨?_, (S.2.1 q (List.mem_cons_of_mem _ hq)).2⟩
      rw [upd_ne (show q.1 ≠ a from fun e => hn.1 (by have z : q.1 ∈ M.map (·.1) := List.mem_map_of_mem hq
                                                      rw [e] at z; exact z))]
      exact (S.2.1 q (List.mem_cons_of_mem _ hq)).1
theorem Sep.frz (S : Sep G ((a, o) :: M) H) : Sep (upd G a o) M H := by
  have hn := S.2.2
  rw [List.map_cons, List.nodup_cons] at hn
  have ha := S.2.1 _ List.mem_cons_self
  refine ⟨fun b x e => ?_, fun q hq => ?_, hn.2⟩
  · by_cases hb : b = a
    · subst hb
      rw [upd_same] at e
      cases e
      exact ha.1
    · rw [upd_ne hb] at e
      exact S.1 b x e
  · have z := S.2.1 q (List.mem_cons_of_mem _ hq)
    refine ⟨z.1, ?_⟩
    rw [upd_ne (show q.1 ≠ a from fun e => hn.1 (by have z : q.1 ∈ M.map (·.1) := List.mem_map_of_mem hq
                                                    rw [e] at z; exact z))]
    exact z.2
theorem Sep.none (S : Sep G ((a, o) :: M) H) : G a = none := (S.2.1 _ List.mem_cons_self).2
theorem Sep.frzS (S : Sep G ((a, o) :: M) H) : Same G (upd G a o) := same_upd S.none
theorem Sep.drop {q : Addr × HO} (S : Sep G (q :: M) H) : Sep G M H := by
  have hn := S.2.2
  rw [List.map_cons, List.nodup_cons] at hn
  exact ⟨S.1, fun p hp => S.2.1 p (List.mem_cons_of_mem _ hp), hn.2⟩
theorem Sep.perm {M' : List (Addr × HO)} (S : Sep G M H) (h : M.Perm M') : Sep G M' H :=
  ⟨S.1, fun q hq => S.2.1 q (h.mem_iff.mpr hq), (h.map _).nodup_iff.mp S.2.2⟩
theorem Sep.sw {q r : Addr × HO} (S : Sep G (q :: r :: M) H) : Sep G (r :: q :: M) H := S.perm (List.Perm.swap _ _ _)
theorem same_l {K : PySem.W.Frag} {xs : List V} (e : Same H H') (h : SqL K H a xs) : SqL K H' a xs := e.seq h
theorem same_t {K : PySem.W.Frag} {xs : List V} (e : Same H H') (h : SqT K H a xs) : SqT K H' a xs := by
  rcases h with (h | ⟨o, h⟩) | h
  · exact .inl (.inl (e _ _ h))
  · exact .inl (.inr ⟨o, e _ _ h⟩)
  · exact .inr h
theorem Sep.l {K : PySem.W.Frag} {xs : List V} (S : Sep G M H) (h : SqL K G a xs) : SqL K H a xs := same_l S.1 h
theorem Sep.t {K : PySem.W.Frag} {xs : List V} (S : Sep G M H) (h : SqT K G a xs) : SqT K H a xs := same_t S.1 h
end
mutual
theorem dp_same {K : PySem.W.Frag} {H H' : Hp} (e : Same H H') : ∀ {d : PyData} {v : V}, Dp K H v d → Dp K H' v d
  | _, _, .non => .non
  | _, _, .bl b => .bl b
  | _, _, .int i => .int i
  | _, _, .str x => .str x
  | _, _, .lst h hs => .lst (same_l e h) (dpa_same e hs)
  | _, _, .tup h hs => .tup (same_t e h) (dpa_same e hs)
theorem dpa_same {K : PySem.W.Frag} {H H' : Hp} (e : Same H H') : ∀ {ds : List PyData} {vs : List V}, DpAll K H vs ds → DpAll K H' vs ds
  | _, _, .nil => .nil
  | _, _, .cons h hs => .cons (dp_same e h) (dpa_same e hs)
end

/-! ### loops by what has been gone through -/
theorem take_pre {α : Type} {xs : List α} {i : Nat} {x : α} (h : xs[i]? = some x) : xs = xs.take i ++ x :: xs.drop (i + 1) ∧ xs.take (i + 1) = xs.take i ++ [x] := by
  have hi : i < xs.length := (List.getElem?_eq_some_iff.mp h).1
  have e : xs[i] = x := (List.getElem?_eq_some_iff.mp h).2
  refine ⟨?_, ?_⟩
  · rw [← e, List.getElem_cons_drop, List.take_append_drop]
  · rw [List.take_add_one, h]
    rfl
section
variable {K : PySem.W.Frag} {a : Addr} {xs : List V} {g : TG} {tb : TS} {D : Ends} {σ : L2.St} {H : Hp}
theorem for_pre (Pv : List V → L2.St → Hp → Prop) (h0 : Pv [] σ H) (hl : ∀ pre σ H, Pv pre σ H → SqL K H a xs)
    (hs : ∀ pre x post σ H, xs = pre ++ x :: post → Pv pre σ H → g x σ H fun σ2 H2 => tb { D with nx := Pv (pre ++ [x]), ct := Pv (pre ++ [x]), bk := D.nx } σ2 H2) (hd : ∀ σ H, Pv xs σ H → D.nx σ H) :
    ∃ W : Nat → Nat → L2.St → Hp → Prop, (∃ m, W 0 m σ H) ∧ ∀ i m σ H, W i m σ H →
      ((Itl K a).stop i H ∧ D.nx σ H) ∨ ((Itl K a).go i H ∧ ∃ N : L2.St → Hp → Prop, (∀ σ' H', N σ' H' → ∃ m', m' < m ∧ W (i + 1) m' σ' H') ∧ ∀ x H', (Itl K a).yld i H x H' → g x σ H' fun σ2 H2 => tb { D with nx := N, ct := N, bk := D.nx } σ2 H2) :=
  for_list (fun i => Pv (xs.take i)) h0 (fun i σ H _ p => hl _ σ H p) (fun i x σ H hx p => by
    rw [(take_pre hx).2]
    exact hs _ x _ σ H (take_pre hx).1 p) (fun σ H p => hd σ H (by rw [List.take_length] at p; exact p))
theorem for_preT (Pv : List V → L2.St → Hp → Prop) (h0 : Pv [] σ H) (hl : ∀ pre σ H, Pv pre σ H → SqT K H a xs)
    (hs : ∀ pre x post σ H, xs = pre ++ x :: post → Pv pre σ H → g x σ H fun σ2 H2 => tb { D with nx := Pv (pre ++ [x]), ct := Pv (pre ++ [x]), bk := D.nx } σ2 H2) (hd : ∀ σ H, Pv xs σ H → D.nx σ H) :
    ∃ W : Nat → Nat → L2.St → Hp → Prop, (∃ m, W 0 m σ H) ∧ ∀ i m σ H, W i m σ H →
      ((Itt K a).stop i H ∧ D.nx σ H) ∨ ((Itt K a).go i H ∧ ∃ N : L2.St → Hp → Prop, (∀ σ' H', N σ' H' → ∃ m', m' < m ∧ W (i + 1) m' σ' H') ∧ ∀ x H', (Itt K a).yld i H x H' → g x σ H' fun σ2 H2 => tb { D with nx := N, ct := N, bk := D.nx } σ2 H2) :=
  for_tup (fun i => Pv (xs.take i)) h0 (fun i σ H _ p => hl _ σ H p) (fun i x σ H hx p => by
    rw [(take_pre hx).2]
    exact hs _ x _ σ H (take_pre hx).1 p) (fun σ H p => hd σ H (by rw [List.take_length] at p; exact p))
/-- for i, x in enumerate(xs) -/
theorem for_enum {i j : Nat} (Pv : List V → L2.St → Hp → Prop) (h0 : Pv [] σ H) (hl : ∀ pre σ H, Pv pre σ H → SqL K H a xs)
    (hs : ∀ pre x post σ H T, xs = pre ++ x :: post → Pv pre σ H → H T = none →
      tb { D with nx := Pv (pre ++ [x]), ct := Pv (pre ++ [x]), bk := D.nx } ((σ.set i (some (.int (pre.length : Nat)))).set j (some x)) (upd H T (.tup [.int (pre.length : Nat), x]))) (hd : ∀ σ H, Pv xs σ H → D.nx σ H) :
    ∃ W : Nat → Nat → L2.St → Hp → Prop, (∃ m, W 0 m σ H) ∧ ∀ k m σ H, W k m σ H →
      ((Ite K a).stop k H ∧ D.nx σ H) ∨ ((Ite K a).go k H ∧ ∃ N : L2.St → Hp → Prop, (∀ σ' H', N σ' H' → ∃ m', m' < m ∧ W (k + 1) m' σ' H') ∧ ∀ x H', (Ite K a).yld k H x H' →
        (gTup K 2 (gCons (gName i) (gCons (gName j) gNil))) x σ H' fun σ2 H2 => tb { D with nx := N, ct := N, bk := D.nx } σ2 H2) := by
  refine ⟨fun k m σ H => m = xs.length - k ∧ k ≤ xs.length ∧ Pv (xs.take k) σ H, ⟨xs.length, by simp, Nat.zero_le _, h0⟩, ?_⟩
  rintro k m σ H ⟨rfl, hk, p⟩
  have q := hl _ σ H p
  by_cases hlt : k < xs.length
  · refine .inr ⟨⟨xs, xs[k], q, by simp [hlt]⟩, Pv (xs.take (k + 1)), fun σ' H' p' => ⟨xs.length - (k + 1), by omega, rfl, hlt, p'⟩, fun v H' y => ?_⟩
    obtain ⟨T, x, rfl, nT, rfl, hx⟩ := y
    have hx := hx xs q
    refine ⟨T, _, rfl, SqT.of upd_same, rfl, _, _, rfl, _, _, rfl, rfl, ?_⟩
    have z := hs _ x _ σ H T (take_pre hx).1 p nT
    rw [(take_pre hx).2]
    rw [show (xs.take k).length = k by rw [List.length_take]; omega] at z
    exact z
  · have e : k = xs.length := by omega
    subst e
    rw [List.take_length] at p
    exact .inl ⟨⟨xs, q, Nat.le_refl _⟩, hd σ H p⟩
/-- [e for x in xs] -/
theorem lc_pre {te : TE} {vs : List Nat} {i : Nat} {H1 : Hp} {L : Addr} {Qd : Hp → Prop} (Pv : List V → Hp → Prop) (h0 : Pv [] (upd H1 L (.lst []))) (hl : ∀ pre H, Pv pre H → SqL K H a xs)
    (hw : ∀ x, wipe ((wipe σ vs).set i (some x)) vs = wipe σ vs)
    (hs : ∀ pre x post H, xs = pre ++ x :: post → Pv pre H → te ((wipe σ vs).set i (some x)) H fun y H4 => ∃ acc, H4 L = some (.lst acc) ∧ acc.length < sizeLine ∧ Pv (pre ++ [x]) (upd H4 L (.lst (acc ++ [y])))) (hd : ∀ H, Pv xs H → Qd H) :
    ∃ W : Nat → Nat → Hp → Prop, (∃ m, W 0 m (upd H1 L (.lst []))) ∧ ∀ k m H, W k m H →
      ((Itl K a).stop k H ∧ Qd H) ∨ ((Itl K a).go k H ∧ ∃ Nx : Hp → Prop, (∀ H', Nx H' → ∃ m', m' < m ∧ W (k + 1) m' H') ∧ ∀ x H', (Itl K a).yld k H x H' → gName i x (wipe σ vs) H' fun σ2 H2 => wipe σ2 vs = wipe σ vs ∧ tYes σ2 H2 fun b H3 =>
        if b = true then te σ2 H3 fun y H4 => ∃ acc, H4 L = some (.lst acc) ∧ acc.length < sizeLine ∧ Nx (upd H4 L (.lst (acc ++ [y]))) else Nx H3) :=
  lc_list (fun k => Pv (xs.take k)) h0 (fun k H _ p => hl _ H p) (fun k x H hx p => ⟨hw x, by
    rw [(take_pre hx).2]
    exact hs _ x _ H (take_pre hx).1 p⟩) (fun H p => hd H (by rw [List.take_length] at p; exact p))
/-- [e for x in range(n)] -/
theorem lc_rng {te : TE} {vs : List Nat} {i : Nat} {n : Nat} {lo : Int} {H1 : Hp} {L : Addr} {Qd : Hp → Prop} (Pv : Nat → Hp → Prop) (h0 : Pv 0 (upd H1 L (.lst [])))
    (hw : ∀ x, wipe ((wipe σ vs).set i (some x)) vs = wipe σ vs)
    (hs : ∀ k H, k < n → Pv k H → te ((wipe σ vs).set i (some (.int (lo + k)))) H fun y H4 => ∃ acc, H4 L = some (.lst acc) ∧ acc.length < sizeLine ∧ Pv (k + 1) (upd H4 L (.lst (acc ++ [y])))) (hd : ∀ H, Pv n H → Qd H) :
    ∃ W : Nat → Nat → Hp → Prop, (∃ m, W 0 m (upd H1 L (.lst []))) ∧ ∀ k m H, W k m H →
      ((Itr lo n).stop k H ∧ Qd H) ∨ ((Itr lo n).go k H ∧ ∃ Nx : Hp → Prop, (∀ H', Nx H' → ∃ m', m' < m ∧ W (k + 1) m' H') ∧ ∀ x H', (Itr lo n).yld k H x H' → gName i x (wipe σ vs) H' fun σ2 H2 => wipe σ2 vs = wipe σ vs ∧ tYes σ2 H2 fun b H3 =>
        if b = true then te σ2 H3 fun y H4 => ∃ acc, H4 L = some (.lst acc) ∧ acc.length < sizeLine ∧ Nx (upd H4 L (.lst (acc ++ [y]))) else Nx H3) :=
  lc_range (lo := lo) (n := n) Pv h0 (fun k H hk p => ⟨hw _, hs k H hk p⟩) hd
end
/-! ### places of lists -/
theorem atI_in {α : Type} {xs : List α} {i : Int} (h0 : 0 ≤ i) (h1 : i < xs.length) : ∃ v, atI xs i = some v ∧ v ∈ xs := by
  obtain ⟨j, rfl⟩ : ∃ j : Nat, i = (j : Int) := ⟨i.toNat, by omega⟩
  have hj : j < xs.length := by omega
  exact ⟨xs[j], atI_nat (List.getElem?_eq_getElem hj), List.getElem_mem hj⟩
theorem small {n : Nat} (h : n ≤ 100000) : n ≤ sizeLine := Nat.le_trans h (by decide)
theorem smallL {n : Nat} (h : n < 100000) : n < sizeLine := Nat.lt_of_lt_of_le h (by decide)
theorem sz {n : Nat} (h : Nat.ble n 100000 = true := by rfl) : n ≤ sizeLine := small (Nat.le_of_ble_eq_true h)
theorem seqIdx {i : Int} {n : Nat} (h0 : 0 ≤ i) (h1 : i < n) : seqIndex? i n = some i.toNat := by
  unfold seqIndex?
  have e : (if i < 0 then i + n else i) = i := by rw [if_neg (by omega)]
  simp only [e]
  rw [if_pos (by simp; omega)]
theorem atN {α : Type} {xs : List α} {i : Int} {v : α} (h0 : 0 ≤ i) (h : atI xs i = some v) : xs[i.toNat]? = some v := by
  obtain ⟨j, rfl⟩ : ∃ j : Nat, i = (j : Int) := ⟨i.toNat, by omega⟩
  unfold atI ixN at h
  rw [if_pos (by omega)] at h
  split at h
  · simpa using h
  · cases h
theorem mem_erase {α : Type} {xs : List α} {k : Nat} {y : α} (h : y ∈ xs.eraseIdx k) : y ∈ xs := List.mem_of_mem_eraseIdx h
/-- the i-th of a paired list -/
theorem prd_get {α β : Type} {F : α → β → Prop} : ∀ {xs : List α} {ys : List β} {i : Nat} {x : α}, Paired F xs ys → xs[i]? = some x → ∃ y, ys[i]? = some y ∧ F x y
  | _, _, _, _, .nil, h => by simp at h
  | _, _, 0, _, .cons r _, h => by
    simp at h
    subst h
    exact ⟨_, rfl, r⟩
  | _, _, i + 1, _, .cons _ t, h => by
    rw [List.getElem?_cons_succ] at h
    obtain ⟨y, h1, h2⟩ := prd_get t h
    exact ⟨y, by rw [List.getElem?_cons_succ]; exact h1, h2⟩
theorem prd_len {α β : Type} {F : α → β → Prop} : ∀ {xs : List α} {ys : List β}, Paired F xs ys → xs.length = ys.length
  | _, _, .nil => rfl
  | _, _, .cons _ t => congrArg (· + 1) (prd_len t)
theorem prd_imp {α β : Type} {F F' : α → β → Prop} (k : ∀ x y, F x y → F' x y) : ∀ {xs : List α} {ys : List β}, Paired F xs ys → Paired F' xs ys
  | _, _, .nil => .nil
  | _, _, .cons r t => .cons (k _ _ r) (prd_imp k t)
theorem prd_app {α β : Type} {F : α → β → Prop} : ∀ {xs xs' : List α} {ys ys' : List β}, Paired F xs ys → Paired F xs' ys' → Paired F (xs ++ xs') (ys ++ ys')
  | _, _, _, _, .nil, s => s
  | _, _, _, _, .cons r t, s => .cons r (prd_app t s)
theorem prd_take {α β : Type} {F : α → β → Prop} : ∀ {xs : List α} {ys : List β} (n : Nat), Paired F xs ys → Paired F (xs.take n) (ys.take n)
  | _, _, 0, _ => .nil
  | _, _, _ + 1, .nil => .nil
  | _, _, n + 1, .cons r t => .cons r (prd_take n t)
/-- each has a partner -/
theorem prd_ex {α β : Type} {F : α → β → Prop} : ∀ {xs : List α}, (∀ x ∈ xs, ∃ y, F x y) → ∃ ys, Paired F xs ys
  | [], _ => ⟨[], .nil⟩
  | x :: r, h => by
    obtain ⟨y, hy⟩ := h x List.mem_cons_self
    obtain ⟨ys, hs⟩ := prd_ex fun x hx => h x (List.mem_cons_of_mem _ hx)
    exact ⟨y :: ys, .cons hy hs⟩
theorem prd_mem {α β : Type} {F : α → β → Prop} {x : α} : ∀ {xs : List α} {ys : List β}, Paired F xs ys → x ∈ xs → ∃ y ∈ ys, F x y
  | _, _, .nil, h => nomatch h
  | _, _, .cons (b := b) r t, h => by
    rcases List.mem_cons.mp h with rfl | h
    · exact ⟨b, List.mem_cons_self, r⟩
    · obtain ⟨y, h1, h2⟩ := prd_mem t h
      exact ⟨y, List.mem_cons_of_mem _ h1, h2⟩
/-- a statement and what follows it, with a word J between them -/
def xCut (t u : TS) : TS := fun D σ H => ∃ J : L2.St → Hp → Prop, t { D with nx := J } σ H ∧ ∀ σ' H', J σ' H' → u D σ' H'
theorem xss_cut {X : Cx} {st : Stmt} {sts : List Stmt} {t u : TS} (h1 : PS X st t) (h2 : PSs X sts u) : PSs X (st :: sts) (xCut t u) := by
  refine ⟨fun pins s0 σ H D I h => ?_⟩
  obtain ⟨J, hj, hu⟩ := h
  refine wpAny_execs_cons (thn (h1.run pins s0 σ H { D with nx := J } I hj) fun fl s2 q => ?_)
  cases fl with
  | next =>
    obtain ⟨σ2, H2, I2, q2⟩ := q
    exact h2.run pins s2 σ2 H2 D I2 (hu σ2 H2 q2)
  | _ => exact q
section
variable {K : PySem.W.Frag} {a : Addr} {xs : List V} {σ : L2.St}
/-- [e for x in xs], by the turn -/
theorem lc_at {te : TE} {vs : List Nat} {i : Nat} {H1 : Hp} {L : Addr} {Qd : Hp → Prop} (Pv : Nat → Hp → Prop) (h0 : Pv 0 (upd H1 L (.lst []))) (hl : ∀ k H, Pv k H → SqL K H a xs)
    (hw : ∀ x, wipe ((wipe σ vs).set i (some x)) vs = wipe σ vs)
    (hs : ∀ k x H, xs[k]? = some x → Pv k H → te ((wipe σ vs).set i (some x)) H fun y H4 => ∃ acc, H4 L = some (.lst acc) ∧ acc.length < sizeLine ∧ Pv (k + 1) (upd H4 L (.lst (acc ++ [y])))) (hd : ∀ H, Pv xs.length H → Qd H) :
    ∃ W : Nat → Nat → Hp → Prop, (∃ m, W 0 m (upd H1 L (.lst []))) ∧ ∀ k m H, W k m H →
      ((Itl K a).stop k H ∧ Qd H) ∨ ((Itl K a).go k H ∧ ∃ Nx : Hp → Prop, (∀ H', Nx H' → ∃ m', m' < m ∧ W (k + 1) m' H') ∧ ∀ x H', (Itl K a).yld k H x H' → gName i x (wipe σ vs) H' fun σ2 H2 => wipe σ2 vs = wipe σ vs ∧ tYes σ2 H2 fun b H3 =>
        if b = true then te σ2 H3 fun y H4 => ∃ acc, H4 L = some (.lst acc) ∧ acc.length < sizeLine ∧ Nx (upd H4 L (.lst (acc ++ [y]))) else Nx H3) :=
  lc_list Pv h0 (fun k H _ p => hl _ H p) (fun k x H hx p => ⟨hw x, hs _ x H hx p⟩) hd
end
theorem take_snoc {α : Type} {xs : List α} {i : Nat} {x : α} (h : xs[i]? = some x) : xs.take (i + 1) = xs.take i ++ [x] := (take_pre h).2
theorem ff {A : Prop} (h : false = true) : A := nomatch h
theorem tt {A : Prop} (h : true = false) : A := nomatch h
/-! ### the same with the written part K said (within a comprehension the reading must not name its context) -/
section
variable {X : Cx} (K : PySem.W.Frag) {a b e o : Expr} {es : List Expr} {ta tb te to : TE} {t : TA} {pos : Pos} {tg : Expr}
theorem ix_k (h : X.K = K := by rfl) : IxR X (yIx K) := h ▸ ix_y
theorem cr_lenK (h : X.K = K := by rfl) : CallR X (.builtin "len") (yLen K) := h ▸ cr_len
theorem op_eqK (hu : X.A.units + 64 < cLine) (h : X.K = K := by rfl) : OpR X (compareOp .Eq) (yEq K) := h ▸ op_eqY hu
theorem op_neK (hu : X.A.units + 64 < cLine) (h : X.K = K := by rfl) : OpR X (compareOp .NotEq) (yNe K) := h ▸ op_neY hu
theorem xt_truK (ha : PE X a ta) (h : X.K = K := by rfl) (he : ∀ whole, isTrue a X.env whole = (do let v ← whole; standAt a.pos; holding [v] (truthy v)) := by intro _; rfl) : PT X a (xTru K ta) := h ▸ xt_tru ha he
theorem call_isK (h : X.K = K := by rfl) : CallR X (.builtin "isinstance") (rIsi K) := h ▸ call_isi
def yList (K : PySem.W.Frag) : List V → Hp → VK → Prop := fun xs H Q => ∃ p ys, xs = [.ref p] ∧ (SqL K H p ys ∨ SqT K H p ys) ∧ ∀ l, H l = none → Q (.ref l) (upd H l (.lst ys))
theorem call_listK (h : X.K = K := by rfl) : CallR X (.type "list") (yList K) := h ▸ call_list_of
def yTup (K : PySem.W.Frag) : List V → Hp → VK → Prop := fun xs H Q => ∃ p ys, xs = [.ref p] ∧ ((SqL K H p ys ∧ ∀ l, H l = none → Q (.ref l) (upd H l (.tup ys))) ∨ (SqT K H p ys ∧ Q (.ref p) H))
theorem call_tupleK (h : X.K = K := by rfl) : CallR X (.type "tuple") (yTup K) := h ▸ call_tuple_of
theorem cr_sumK (hc : X.calm = true) (h : X.K = K := by rfl) : CallR X (.builtin "sum") (rSum K) := h ▸ cr_sum hc
theorem sl_listK (h : X.K = K := by rfl) : SlR X (rSlL K) := h ▸ sl_list
theorem pi_listK (ha : PE X a ta) (h : X.K = K := by rfl) : PI X tg a (iList K ta) := h ▸ pi_list ha
theorem pi_tupK (ha : PE X a ta) (h : X.K = K := by rfl) : PI X tg a (iTup K ta) := h ▸ pi_tup ha
theorem pe_bmK {T id : String} {name : Str} {apos cpos : Pos} {r : V → List V → Hp → VK → Prop} (pa : PlainAttrs T) (slot : Slot T name id) (hty : typeOf (.builtin id) = pure (.type "method_descriptor")) (hm : MtR X id r) (ho : PE X o to) (ha : PA X (e :: es) t) (hK : X.K = K := by rfl)
    (hbase : attributeBase o name X.env (eval o X.env) = eval o X.env := by rfl)
    (hfew : ((backTo cpos (starEach (e :: es) X.env)).all (fun x => !x.1) && (backToKw cpos (keywordEach [] X.env)).all (fun x => x.1.isSome)
      && decide ((e :: es).length + ([] : List Keyword).length + (if ([] : List Keyword).isEmpty then 0 else 1) < 30)) = true := by rfl)
    (hline : (apos.endLine == cpos.line) = true := by rfl) (hs : starEach (e :: es) X.env = (false, eval e X.env) :: starEach es X.env := by rfl) (hplain : (backTo cpos (starEach es X.env)).any (·.1) = false := by rfl) :
    PE X (.Call (.Attribute o name apos) (e :: es) [] cpos) (tBM K T r to t) := hK ▸ pe_bm pa slot hty hm ho ha hbase hfew hline hs hplain
end
section
variable {X : Cx} {a b c o : Expr} {ta tb tc : TE} {pos : Pos}
/-- a op1 b op2 c, b asked once -/
def xChain (r r' : R2) (ta tb tc : TE) : TE := fun σ H Q => ta σ H fun x H1 => tb σ H1 fun y H2 => r x y H2 fun z H3 => match z with
  | .bl k => (k = true → tc σ H3 fun w' H4 => r' y w' H4 Q) ∧ (k = false → Q (.bl false) H3)
  | _ => False
theorem xe_chain {op op' : CmpOp} {r r' : R2} (ho : OpR X (compareOp op) r) (ho' : OpR X (compareOp op') r') (ha : PE X a ta) (hb : PE X b tb) (hc : PE X c tc)
    (hm : lastMarks [op, op'] [b, c] = false := by with_unfolding_all rfl) : PE X (.Compare a [op, op'] [b, c] pos) (xChain r r' ta tb tc) := by
  refine ⟨fun pins s0 σ H Q J h => ?_⟩
  refine Compare_chain (thn (ha.run pins s0 σ H _ J h) fun v s1 ⟨x, H1, J1, r1, q1⟩ => chain_link (thn (hb.run pins s1 σ H1 _ J1 q1) fun u s2 ⟨y, H2, J2, r2, q2⟩ =>
    thn (ho pins s2 σ H2 x y v u _ J2 r1 r2 q2) fun d s3 ⟨z, H3, J3, r3, q3⟩ => ?_)) hm
  cases z with
  | bl k =>
    cases r3
    refine wpAny_truthy_bool ?_
    cases k with
    | false => exact ite_ff ⟨.bl false, H3, J3, rfl, q3.2 rfl⟩
    | true => exact ite_tt (chain_last (thn (hc.run pins s3 σ H3 _ J3 (q3.1 rfl)) fun w' s4 ⟨z', H4, J4, r4, q4⟩ => ho' pins s4 σ H4 y z' u w' Q J4 r2 r4 q4))
  | _ => exact False.elim q3
theorem xt_chain {op op' : CmpOp} {r r' : R2} (ho : OpR X (compareOp op) r) (ho' : OpR X (compareOp op') r') (ha : PE X a ta) (hb : PE X b tb) (hc : PE X c tc)
    (hm : lastMarks [op, op'] [b, c] = false := by with_unfolding_all rfl) : PT X (.Compare a [op, op'] [b, c] pos) (xB (xChain r r' ta tb tc)) := by
  refine ⟨fun pins s0 σ H Q J h => ?_⟩
  refine isTrue_chain (thn (ha.run pins s0 σ H _ J h) fun v s1 ⟨x, H1, J1, r1, q1⟩ => test_link (thn (hb.run pins s1 σ H1 _ J1 q1) fun u s2 ⟨y, H2, J2, r2, q2⟩ =>
    thn (ho pins s2 σ H2 x y v u _ J2 r1 r2 q2) fun d s3 ⟨z, H3, J3, r3, q3⟩ => ?_)) hm
  cases z with
  | bl k =>
    cases r3
    refine wpAny_truthy_bool ?_
    cases k with
    | false => exact ite_ff ⟨H3, J3, q3.2 rfl⟩
    | true =>
      refine ite_tt (test_last (thn (hc.run pins s3 σ H3 _ J3 (q3.1 rfl)) fun w' s4 ⟨z', H4, J4, r4, q4⟩ => thn (ho' pins s4 σ H4 y z' u w' _ J4 r2 r4 q4) fun d' s5 ⟨z2, H5, J5, r5, q5⟩ => ?_))
      cases z2 with
      | bl k2 =>
        cases r5
        exact wpAny_truthy_bool ⟨H5, J5, q5⟩
      | _ => exact False.elim q5
  | _ => exact False.elim q3
/-- while: a word with its measure -/
def xWhile (c : TT) (tb : TS) : TS := fun D σ H => ∃ W : Nat → L2.St → Hp → Prop, (∃ m, W m σ H) ∧ ∀ m σ H, W m σ H → c σ H fun b H1 =>
  (b = true → tb { D with nx := fun σ' H' => ∃ m', m' < m ∧ W m' σ' H', ct := fun σ' H' => ∃ m', m' < m ∧ W m' σ' H', bk := D.nx } σ H1) ∧ (b = false → D.nx σ H1)
theorem xs_while {c : Expr} {body : List Stmt} {tc : TT} {tb : TS} (hp : PassesOwn (model X.prog X.w) X.A X.env X.xe) (hc : PT X c tc) (hb : PSs X body tb) : PS X (.While c body [] pos) (xWhile tc tb) := by
  refine ⟨fun pins s0 σ H D J h => ?_⟩
  obtain ⟨W, ⟨m0, w0⟩, turn⟩ := h
  refine wpAny_While (codeAny_whileLoop (fun n s' => ∃ σ' H', L2.Inv X pins σ' H' s' ∧ W n σ' H') ?_ m0 ⟨σ, H, J, w0⟩)
  rintro n s1 ⟨σ1, H1, J1, w1⟩
  refine wpAny_passesOwn hp (thn (hc.run pins s1 σ1 H1 _ J1 (turn n σ1 H1 w1)) fun k s2 ⟨H2, J2, q2⟩ => ?_)
  cases k with
  | true =>
    rw [if_pos rfl]
    refine wpAny_passesOwn hp (thn (hb.run pins s2 σ1 H2 _ J2 (q2.1 rfl)) fun f s3 q3 => ?_)
    cases f with
    | next =>
      obtain ⟨σ3, H3, J3, m', hm, w3⟩ := q3
      exact ⟨m', hm, σ3, H3, J3, w3⟩
    | cont =>
      obtain ⟨σ3, H3, J3, m', hm, w3⟩ := q3
      exact ⟨m', hm, σ3, H3, J3, w3⟩
    | brk => exact q3
    | ret v => exact q3
  | false =>
    rw [if_neg Bool.false_ne_true]
    exact wpAny_execs_nil ⟨σ1, H2, J2, q2.2 rfl⟩
/-- a comparison by an own method (__le__ ..) of two instances of C -/
def yOwn (C : Addr) (sp : Sp) (E : XK) : R2 := fun x y H Q => ∃ a b dx dy fs gs, x = .ref a ∧ y = .ref b ∧ H a = some (.ins C dx fs) ∧ H b = some (.ins C dy gs) ∧ sp [.ref a, .ref b] H Q E
theorem op_own {CX : CXT} {C f : Addr} {fd : FuncData} {ps : List Str} {sp : Sp} {E : XK} {op : CmpOp} {n : Nat} (hop : compareOp op = richCompare op) (F : FnOk X.prog X.w X.K X.mg X.base CX n f fd ps sp)
    (hs : PySem.W.findIn X.K (.ref C) (cmpInfo op).2.1 = some (some (.ref f))) (hf : PySem.W.isFn X.K (.ref f) = true) (hb : Binds X.K fd ps []) (hx : Passes CX X E) (hr : Room n X.A) : OpR X (compareOp op) (yOwn C sp E) := by
  intro pins s σ H x y u v Q I rx ry h
  obtain ⟨a, b, dx, dy, fs, gs, rfl, rfl, ha, hb', hsp⟩ := h
  cases rx
  cases ry
  rw [hop]
  obtain ⟨mA, J1, _⟩ := ins_get I.hok ha
  obtain ⟨mB, J2, _⟩ := ins_get I.hok hb'
  obtain ⟨od, J1, _⟩ := J1.look
  obtain ⟨od', J2, _⟩ := J2.look
  obtain ⟨m, hF⟩ := I.fr
  refine PySem.W.cmp_K (op := op) (tb := .ref C) hr.units0 hF I.ok.mod.kin J1 J2.type (by simp [PySem.W.notFirst]) hs hf ?_
  have hl := F.len _ _ _ _ hsp
  refine wpAny_mono (run_fn (us := [.ref a, .ref b]) (vs := [.ref a, .ref b]) (dvs := []) F hr hb .nil hx I (.cons rfl (.cons rfl .nil)) hsp) (fun v s' q => ?_) fun _ _ e => e
  obtain ⟨z, H', I', rz, q⟩ := q
  have fin : EP X pins σ Q v s' := ⟨z, H', I', rz, q⟩
  cases v <;> first | exact fin | (cases z <;> first | exact absurd (show _ = _ from rz) (by intro e; cases e) | (obtain ⟨_, e⟩ := rz; cases e))
variable (K : PySem.W.Frag)
theorem pe_fldK {f : Str} (ha : PE X a ta) (hb : attributeBase a f X.env (eval a X.env) = eval a X.env := by rfl) (h : X.K = K := by rfl) : PE X (.Attribute a f pos) (tFld K ta f) := h ▸ pe_fld ha hb
theorem in_seqK (h : X.K = K := by rfl) : OpR X (compareOp .In) (rIn K false) := h ▸ op_in_seq
theorem notin_seqK (h : X.K = K := by rfl) : OpR X (compareOp .NotIn) (rIn K true) := h ▸ op_notIn_seq
theorem mt_countK (h : X.K = K := by rfl) : MtR X "list.count" (rCntI K) := h ▸ mt_lcount
theorem cr_allK (hc : X.calm = true) (h : X.K = K := by rfl) : CallR X (.builtin "all") (rAll K) := h ▸ cr_all hc
theorem cr_anyK (hc : X.calm = true) (h : X.K = K := by rfl) : CallR X (.builtin "any") (rAny K) := h ▸ cr_any hc
end
theorem xe_glob {X : Cx} {x z : Str} {pos : Pos} (hg : Gl X x) (hm : ∃ t, X.mg x = some (.str z t)) (hd : (x == ("__debug__" : Str)) = false := by decide) : PE X (.Name x pos) (tC (.str z)) := by
  obtain ⟨t, hm⟩ := hm
  exact pe_glob hg hm ⟨_, rfl⟩ hd
theorem xe_globI {X : Cx} {x : Str} {z : Int} {pos : Pos} (hg : Gl X x) (hm : ∃ t, X.mg x = some (.int z t)) (hd : (x == ("__debug__" : Str)) = false := by decide) : PE X (.Name x pos) (tC (.int z)) := by
  obtain ⟨t, hm⟩ := hm
  exact pe_glob hg hm ⟨_, rfl⟩ hd
theorem prd_unsnoc {α β : Type} {F : α → β → Prop} {x : α} : ∀ {xs : List α} {ys : List β}, Paired F (xs ++ [x]) ys → ∃ ys' y, ys = ys' ++ [y] ∧ Paired F xs ys' ∧ F x y
  | [], _, .cons r .nil => ⟨[], _, rfl, .nil, r⟩
  | _ :: xs, _, .cons (b := b) r t => by
    obtain ⟨ys', y, rfl, h1, h2⟩ := prd_unsnoc (xs := xs) t
    exact ⟨b :: ys', y, rfl, .cons r h1, h2⟩
theorem nil_or_snoc {α : Type} (xs : List α) : xs = [] ∨ ∃ ys y, xs = ys ++ [y] := by
  rcases List.eq_nil_or_concat xs with h | ⟨ys, y, h⟩
  · exact .inl h
  · exact .inr ⟨ys, y, by simpa using h⟩
theorem pg_tupK {X : Cx} (K : PySem.W.Frag) (n : Nat) {es : List Expr} {k : Nat} {pos : Pos} {t : TGs} (h : PGs X es t) (hc : X.calm = true := by rfl) (hK : X.K = K := by rfl)
    (hn : (assignEach es X.env).length = n := by rfl) (hst : (assignEach es X.env).findIdx? (·.1) = none := by rfl) : PG X (.Tuple es k pos) (gTup K n t) := hK ▸ pg_tup hc h hn hst
theorem perm_erase {α : Type} : ∀ {xs : List α} {i : Nat} {x : α}, xs[i]? = some x → (x :: xs.eraseIdx i).Perm xs
  | [], _, _, h => by simp at h
  | y :: r, 0, x, h => by
    simp at h
    subst h
    exact List.Perm.refl _
  | y :: r, i + 1, x, h => by
    rw [List.getElem?_cons_succ] at h
    exact (List.Perm.swap _ _ _).trans (List.Perm.cons _ (perm_erase h))
theorem Sep.new2 {G H : Hp} {M : List (Addr × HO)} {x dx : Addr} {o u : HO} (S : Sep G M H) (h1 : H x = Option.none) (h2 : H dx = Option.none) (ne : dx ≠ x) : Sep G ((x, o) :: (dx, u) :: M) (upd (upd H dx u) x o) :=
  (S.new h2).new (by rw [upd_ne (Ne.symm ne)]; exact h1)
end XL
set_option Elab.async false
set_option linter.all false
set_option maxRecDepth 100000
set_option maxHeartbeats 4000000
/-! XIter: enumerate of a tuple. -/
namespace XL
open PySem PySem.Spec PyProof.Rows L2
theorem meets_enum1 {v : Value} {o : Obj} {Hq : Heap → Prop} (B : Begins v o Hq) :
    Meets (Builtin.«enumerate.__new__» ⟨[.type "enumerate", v], []⟩) (fun _ R s => Hq s.heap ∧
      R (.ok (.ret (.ref (s.heap.push o).objs.size))) { s with heap := (s.heap.push o).push { cls := .type "enumerate", data := .fields #[.none, .bool false, .ref s.heap.objs.size, rawInt 0, .none, .none] } }) :=
  .of_wp fun prog w A R s z => by
    obtain ⟨hp, g, d, tk, os⟩ := s
    obtain ⟨z1, z2⟩ := z
    have hsub := sub_enumerate
    have begin1 : ∀ {A' : Around} {E : Value → Shared → Prop} {Q : Value → Shared → Prop}, Q (.ref hp.objs.size) ⟨hp.push o, g, d, tk, os⟩ → wpAny (model prog w) A' (pyIter v) Q E ⟨hp, g, d, tk, os⟩ := fun q => B.iter prog w _ _ ⟨hp, g, d, tk, os⟩ _ z1 q
    wp_walk using begin1
    refine wpAny_stack_any fun st => wpAny_pure ?_
    split
    · rename_i c _ _ _ _ _
      cases (c == Value.type "enumerate") <;> (wp_walk using begin1; exact ⟨_, rfl, z2⟩)
    · wp_walk using begin1
      exact ⟨_, rfl, z2⟩
theorem call_enum1 {prog : Program} {w : World} {A : Around} {E : Value → Shared → Prop} {s : Shared} {v : Value} {o : Obj} {Hq : Heap → Prop} {Q : Value → Shared → Prop} (B : Begins v o Hq) (h1 : Hq s.heap)
    (k : ∀ h', IsEnum h' (s.heap.objs.size + 1) s.heap.objs.size 0 .none → h'.get? s.heap.objs.size = some o → (∀ b o, s.heap.get? b = some o → h'.get? b = some o) → Q (.ref (s.heap.objs.size + 1)) { s with heap := h' }) :
    wpAny (model prog w) A (call (.type "enumerate") [v]) Q E s := by
  refine callType_new F.called_enumerate (by decide) (F.typeCall_enumerate_1 _) (F.newCall_enumerate_1 _) (fun ob => F.args_object_init_2 ob _) F.entry_enumerate_new (meets_enum1 B) ⟨h1, ?_⟩
  have hz : (s.heap.push o).objs.size = s.heap.objs.size + 1 := Heap.size_push ..
  show _ ∧ _
  rw [hz]
  have he : IsEnum ((s.heap.push o).push { cls := .type "enumerate", data := .fields #[.none, .bool false, .ref s.heap.objs.size, rawInt 0, .none, .none] }) (s.heap.objs.size + 1) s.heap.objs.size 0 .none := by
    have z := Heap.get?_push_size (s.heap.push o) (o := { cls := .type "enumerate", data := .fields #[.none, .bool false, .ref s.heap.objs.size, rawInt 0, .none, .none] }) rfl
    rw [hz] at z
    exact z
  exact ⟨⟨_, he, rfl⟩, k _ he (Heap.get?_push_of_some _ (Heap.get?_push_size _ B.free)) fun b o x => Heap.get?_push_of_some _ (Heap.get?_push_of_some _ x)⟩
/-- the tuple at a, each item in a new pair -/
def IteT (K : PySem.W.Frag) (a : Addr) : It :=
  ⟨fun i H => ∃ (xs : List V) (x : V), SqT K H a xs ∧ xs[i]? = some x, fun i H v H' => ∃ T x, v = .ref T ∧ H T = none ∧ H' = upd H T (.tup [.int (i : Nat), x]) ∧ ∀ xs, SqT K H a xs → xs[i]? = some x, fun i H => ∃ xs : List V, SqT K H a xs ∧ xs.length ≤ i⟩
theorem turn_enumT {P : Program} {w : World} {K : PySem.W.Frag} {elts : List Expr} {kk : Nat} {tpos : Pos} (a e it : Addr) (hai : a ≠ it) (hae : a ≠ e) :
    Turn P w K (.Tuple elts kk tpos) (IteT K a) [e, it] e (fun i h => (∃ old, IsEnum h e it ((i : Nat) : Int) old) ∧ h.IsTupleIter it a i ∧ e ≠ it) where
  mem := by simp
  obj := fun i h st b hb => by
    obtain ⟨⟨old, he⟩, ⟨o, ho, hc, hd⟩, _⟩ := st
    have q : b = e ∨ b = it := by simpa using hb
    rcases q with z | z
    · rw [z]; exact ⟨_, he, fun v q => nomatch q⟩
    · rw [z]; exact ⟨o, ho, fun v q => by rw [hd] at q; cases q⟩
  keep := fun i h h' st k => let ⟨⟨old, he⟩, hi, hne⟩ := st; ⟨⟨old, k e (by simp) _ he⟩, hi.at fun o q => k it (by simp) o q, hne⟩
  item := by
    intro X hP hw hK hc i pins s σ H E I hf st hg
    subst hP hw hK
    obtain ⟨⟨old, he⟩, hit, hne⟩ := st
    obtain ⟨xs, x, hq, hx⟩ := hg
    obtain ⟨its, rv, p, hz⟩ := I.tuple hq
    obtain ⟨u, hu, ru⟩ := rv.get hx
    have hel : e < s.heap.objs.size := Heap.lt_size he
    have hil : it < s.heap.objs.size := by obtain ⟨_, q, _⟩ := hit; exact Heap.lt_size q
    have hlen : i < its.toArray.size := by
      have z := (List.getElem?_eq_some_iff.mp hu).1
      simpa using z
    refine wpAny_pyNext_enum_itemC (c := ((i : Nat) : Int)) (Draws.tuple (A := X.A.in1) (I.ok.hd hc) it a hai its.toArray) he ⟨hit, p⟩ hlen hne (by simp; exact ⟨hne, fun z => hae z.symm⟩) fun y h' tk hy ho st' hT hsz hk => ?_
    have ey : y = u := by
      have z : its[i]? = some y := by simpa using hy
      rw [hu] at z
      exact (Option.some.inj z).symm
    subst ey
    refine ⟨_, rfl, wpAny_letOwnedTupleGo_enum (s := { s with heap := h', toks := tk + 1 }) ho fun h'' he' sb => ?_⟩
    have hT2 : h''.get? s.heap.objs.size = some { cls := .type "tuple", data := .seq #[.int i tk, y] } := (sb.2 _ (Nat.ne_of_gt hel)).trans hT
    have new : ObjOk X.prog X.w (upd H s.heap.objs.size (.tup [.int (i : Nat), x])) h'' s.heap.objs.size (.tup [.int (i : Nat), x]) :=
      ⟨by show 2 ≤ sizeLine; decide, [.int i tk, y], .cons ⟨_, rfl⟩ (.cons ru .nil), ⟨_, hT2, rfl, _, rfl⟩⟩
    have I1 : L2.Inv X pins σ (upd H s.heap.objs.size (.tup [.int (i : Nat), x])) { s with heap := h'', toks := tk + 1 } :=
      I.turnedNew (ch := [e, it]) (fun b ob hb q => (sb.2 b (fun z => hb (by simp [z]))).trans (hk b ob (fun z => hb (by simp [z])) (fun z => hb (by simp [z])) q)) hf (Nat.le_refl _) new
    refine ⟨.ref s.heap.objs.size, _, I1, rfl, ⟨_, x, rfl, I.hok.fresh (Nat.le_refl _), rfl, fun ys hy => by rw [I.tuple_inj hy hq]; exact hx⟩, ⟨⟨y, ?_⟩, st'.1.at fun o q => (sb.2 it (Ne.symm hne)).trans q, hne⟩, fun b hb => ?_⟩
    · have e1 : ((i + 1 : Nat) : Int) = (i : Int) + 1 := by omega
      rw [e1]; exact he'
    · have hb2 : b < s.heap.objs.size := by
        have q : b = e ∨ b = it := by simpa using hb
        rcases q with z | z
        · rw [z]; exact hel
        · rw [z]; exact hil
      rw [upd_ne (Nat.ne_of_lt hb2)]
      exact (hf b hb).1
  done := by
    intro X hP hw hK hc i pins s σ H E I hf st hg
    subst hP hw hK
    obtain ⟨⟨old, he⟩, hit, hne⟩ := st
    obtain ⟨xs, hq, hx⟩ := hg
    obtain ⟨its, rv, p, hz⟩ := I.tuple hq
    obtain ⟨f0, f1, f2, f3, f4, f5⟩ := hf it (by simp)
    have hl := rv.length
    have D := Draws.tuple (prog := X.prog) (w := X.w) (A := X.A.in1) (I.ok.hd hc) it a hai its.toArray
    by_cases hi : i = its.toArray.size
    · subst hi
      exact wpAny_pyNext_enum_endD D he ⟨hit, p⟩ fun h' eb => ⟨rfl, I.turned (t' := s.toks) (fun b o hb q => eb b o hb q) f0 f1 f3 f4 f5⟩
    · have D2 : Draws X.prog X.w X.A.in1 it [it, a] i (fun _ _ => False) (fun j h => (j = i ∨ False) ∧ h.IsTupleIter it a i ∧ h.IsTuple a its.toArray) := {
        live := fun _ _ st => let ⟨o, ho, _⟩ := st.2.1; ⟨o, ho⟩
        frame := fun _ _ _ st hk => ⟨st.1, st.2.1.at fun o e => hk it (by simp) o e, st.2.2.at fun o e => hk a (by simp) o e⟩
        item := fun j s Q E hj st hQ => by
          rcases st.1 with z | z
          · omega
          · exact z.elim
        done := fun s Q E st hE => wpAny_nextOf_tuple_end (I.ok.hd hc) st.2.1 st.2.2 (by
          simp only [List.getElem?_toArray]
          exact List.getElem?_eq_none_iff.mpr (by omega)) hE }
      exact wpAny_pyNext_enum_endD D2 he ⟨.inl rfl, hit, p⟩ fun h' eb => ⟨rfl, I.turned (t' := s.toks) (fun b o hb q => eb b o hb q) f0 f1 f3 f4 f5⟩
  self := fun A i s Q E st h => let ⟨⟨_, he⟩, _⟩ := st; wpAny_pyIter_enum he h
def iEnumT (K : PySem.W.Frag) (ta : TA) : TI := fun σ H R => ta σ H fun vs H1 => ∃ a xs, vs = [.ref a] ∧ SqT K H1 a xs ∧ R (IteT K a) H1
theorem pi_enumT {X : Cx} {e : Expr} {ta : TA} {p pos tpos : Pos} {elts : List Expr} {kk : Nat} (hg : Gl X "enumerate") (hm : X.mg "enumerate" = none) (ha : PA X [e] ta) (hs : starEach [e] X.env = [(false, eval e X.env)] := by rfl) :
    PI X (.Tuple elts kk tpos) (.Call (.Name "enumerate" p) [e] [] pos) (iEnumT X.K ta) := by
  refine ⟨fun pins s σ H R I h => ?_⟩
  refine Call_ (ld_blt I hg hm boot_enumerate (PyProof.Rows.callWith_type1 (thn (ha.run pos pins s σ H _ I h) fun us s1 ⟨vs, H1, I1, r1, q1⟩ => ?_) hs rfl))
  obtain ⟨a, xs, ex, hq, q⟩ := q1
  subst ex
  cases r1 with
  | cons r rr =>
    cases rr
    cases r
    obtain ⟨its, rv, p', hz⟩ := I1.tuple hq
    have hal : a < s1.heap.objs.size := by obtain ⟨o, ho, _⟩ := p'; exact Heap.lt_size ho
    refine call_enum1 (begins_tuple a its.toArray) p' fun h' he hit hk => wpAny_pyIter_enum he ?_
    have I2 : L2.Inv X pins σ H1 { s1 with heap := h' } := I1.kept (t' := s1.toks) hk
    refine ⟨s1.heap.objs.size + 1, [s1.heap.objs.size + 1, s1.heap.objs.size], _, _, H1, rfl, I2, turn_enumT a (s1.heap.objs.size + 1) s1.heap.objs.size (Nat.ne_of_lt hal) (Nat.ne_of_lt (Nat.lt_succ_of_lt hal)), ⟨⟨.none, he⟩, ⟨_, hit, rfl, rfl⟩, Nat.succ_ne_self _⟩, fun b hb => ?_, q⟩
    have q' : b = s1.heap.objs.size + 1 ∨ b = s1.heap.objs.size := by simpa using hb
    have hle : s1.heap.objs.size ≤ b := by
      rcases q' with z | z
      · rw [z]; exact Nat.le_add_right _ _
      · rw [z]; exact Nat.le_refl _
    exact I1.fpOk hle (I1.hok.fresh hle)
theorem for_enumT {K : PySem.W.Frag} {a : Addr} {xs : List V} {tb : TS} {D : Ends} {σ : L2.St} {H : Hp} {i j : Nat} (Pv : Nat → L2.St → Hp → Prop) (h0 : Pv 0 σ H) (hl : ∀ k σ H, Pv k σ H → SqT K H a xs)
    (hs : ∀ k x σ H T, xs[k]? = some x → Pv k σ H → H T = none →
      tb { D with nx := Pv (k + 1), ct := Pv (k + 1), bk := D.nx } ((σ.set i (some (.int (k : Nat)))).set j (some x)) (upd H T (.tup [.int (k : Nat), x]))) (hd : ∀ σ H, Pv xs.length σ H → D.nx σ H) :
    ∃ W : Nat → Nat → L2.St → Hp → Prop, (∃ m, W 0 m σ H) ∧ ∀ k m σ H, W k m σ H →
      ((IteT K a).stop k H ∧ D.nx σ H) ∨ ((IteT K a).go k H ∧ ∃ N : L2.St → Hp → Prop, (∀ σ' H', N σ' H' → ∃ m', m' < m ∧ W (k + 1) m' σ' H') ∧ ∀ x H', (IteT K a).yld k H x H' →
        (gTup K 2 (gCons (gName i) (gCons (gName j) gNil))) x σ H' fun σ2 H2 => tb { D with nx := N, ct := N, bk := D.nx } σ2 H2) := by
  refine ⟨fun k m σ H => m = xs.length - k ∧ k ≤ xs.length ∧ Pv k σ H, ⟨xs.length, by simp, Nat.zero_le _, h0⟩, ?_⟩
  rintro k m σ H ⟨rfl, hk, p⟩
  have q := hl _ σ H p
  by_cases hlt : k < xs.length
  · refine .inr ⟨⟨xs, xs[k], q, by simp [hlt]⟩, Pv (k + 1), fun σ' H' p' => ⟨xs.length - (k + 1), by omega, rfl, hlt, p'⟩, fun v H' y => ?_⟩
    obtain ⟨T, x, rfl, nT, rfl, hx⟩ := y
    refine ⟨T, _, rfl, SqT.of upd_same, rfl, _, _, rfl, _, _, rfl, rfl, ?_⟩
    exact hs k x σ H T (hx xs q) p nT
  · have e : k = xs.length := by omega
    subst e
    exact .inl ⟨⟨xs, q, Nat.le_refl _⟩, hd σ H p⟩
end XL
set_option Elab.async false
set_option linter.all false
set_option maxRecDepth 100000
set_option maxHeartbeats 4000000
/-! XDeep: x in t, t.index(x), items data of any depth, t a list or a tuple. -/
namespace XL
open PySem PySem.Spec PyProof.Rows L2
section
variable {X : Cx} (K : PySem.W.Frag)
def rInX (K : PySem.W.Frag) (neg : Bool) : R2 := fun x y H Q => ∃ d ds, Dp K H x d ∧ (Dp K H y (.list ds) ∨ Dp K H y (.tuple ds)) ∧ SeqAt.shaped d = true ∧ PyData.canLayAll0 ds = true ∧ Q (.bl (if neg then !(ds.any fun z => PyData.eqv z d) else ds.any fun z => PyData.eqv z d)) H
theorem in_deepK (hu : X.A.units + 65 < cLine) (h : X.K = K := by rfl) : OpR X (compareOp .In) (rInX K false) := by
  subst h
  intro pins s σ H x y v u Q I rx ry h
  obtain ⟨d, ds, hd, he, sd, se, q⟩ := h
  obtain ⟨as, r1⟩ := Dp.reads I d x v hd rx
  rcases he with he | he
  · obtain ⟨bs, r2⟩ := Dp.reads I (.list ds) y u he ry
    exact SeqAt.in_list_reads r2 r1 se (SeqAt.canLay_of_shaped sd) (room_in_shaped sd hu) ⟨.bl _, H, I, rfl, q⟩
  · obtain ⟨bs, r2⟩ := Dp.reads I (.tuple ds) y u he ry
    exact SeqAt.in_tuple_reads r2 r1 se (SeqAt.canLay_of_shaped sd) (room_in_shaped sd hu) ⟨.bl _, H, I, rfl, q⟩
theorem notin_deepK (hu : X.A.units + 65 < cLine) (h : X.K = K := by rfl) : OpR X (compareOp .NotIn) (rInX K true) := by
  subst h
  intro pins s σ H x y v u Q I rx ry h
  obtain ⟨d, ds, hd, he, sd, se, q⟩ := h
  obtain ⟨as, r1⟩ := Dp.reads I d x v hd rx
  rcases he with he | he
  · obtain ⟨bs, r2⟩ := Dp.reads I (.list ds) y u he ry
    exact SeqAt.notIn_list_reads r2 r1 se (SeqAt.canLay_of_shaped sd) (room_in_shaped sd hu) ⟨.bl _, H, I, rfl, q⟩
  · obtain ⟨bs, r2⟩ := Dp.reads I (.tuple ds) y u he ry
    exact SeqAt.notIn_tuple_reads r2 r1 se (SeqAt.canLay_of_shaped sd) (room_in_shaped sd hu) ⟨.bl _, H, I, rfl, q⟩
/-- t.index(x), t a tuple: the first place of an equal one -/
def rIndexT (K : PySem.W.Frag) : V → List V → Hp → VK → Prop := fun x xs H Q => ∃ (a : Addr) (y : V) (d : PyData) (ds : List PyData) (j : Nat) (z : PyData), x = V.ref a ∧ xs = [y] ∧ Dp K H (V.ref a) (.tuple ds) ∧ Dp K H y d ∧
  PyData.canLayAll0 ds = true ∧ SeqAt.shaped d = true ∧ ds[j]? = some z ∧ PyData.eqv z d = true ∧ (∀ (m : Nat) (z' : PyData), m < j → ds[m]? = some z' → PyData.eqv z' d = false) ∧ Q (.int (j : Nat)) H
theorem mt_tindexK (hu : X.A.units + 65 < cLine) (h : X.K = K := by rfl) : MtR X "tuple.index" (rIndexT K) := by
  subst h
  intro pins s σ H x xs v us Q I rx rxs h
  obtain ⟨a, y, d, ds, j, z, rfl, rfl, hl, hy, hxs, sd, hz, hzj, hno, q⟩ := h
  cases rx
  cases rxs with
  | cons ry rt =>
    rename_i uy ut
    cases rt
    obtain ⟨bs, r1⟩ := Dp.reads I d y uy hy ry
    have hroom : X.A.units + 1 + min (PyData.depthAll ds) d.depth < cLine := room_in_shaped sd hu
    cases hl with
    | tup hs ha =>
      obtain ⟨its, rv, ⟨⟨cls, dd, data, sls⟩, ho, hc, n, hdt⟩, hlen⟩ := I.tuple hs
      simp only at hc hdt
      subst hc hdt
      obtain ⟨as, h4⟩ := Dp.readsAll I ds _ its ha rv
      have hn : its.length = ds.length := SeqAt.ReadsAll.length ds its as h4
      have hmap : its.map (SeqAt.readOf s.heap) = ds := SeqAt.readsAll_map ds its as hxs h4
      have hvl := rv.length
      obtain ⟨hjd, _⟩ := List.getElem?_eq_some_iff.mp hz
      have hjl : j < its.length := by omega
      have hj : j < its.toArray.size := by simpa using hjl
      have at_ : ∀ (m : Nat) (hm : m < its.toArray.size) (z' : PyData), ds[m]? = some z' → SeqAt.readOf s.heap its.toArray[m] = z' := by
        intro m hm z' hz'
        have hml : m < its.length := by simpa using hm
        rw [← hmap, List.getElem?_map, List.getElem?_eq_getElem hml] at hz'
        have e1 : SeqAt.readOf s.heap its[m] = z' := Option.some.inj (show some (SeqAt.readOf s.heap its[m]) = some z' from hz')
        simpa using e1
      refine call_meets PySem.F.slot_tuple_index ⟨_, ho, rfl⟩ PySem.F.entry_tuple_index (PySem.F.args_tuple_index_2 _ _)
        (TI.tuple_indexAt a its.toArray n dd sls uy (fun u => PyData.eqv (SeqAt.readOf s.heap u) d) j hj ?_ ?_) ⟨ho, SeqAt.items_eqAt (vs := its.toArray) (show ReadsAll s.heap its.toArray.toList ds as from h4) r1 hxs (SeqAt.canLay_of_shaped sd) hroom, ?_⟩
      · show PyData.eqv (SeqAt.readOf s.heap its.toArray[j]) d = true
        rw [at_ j hj z hz]
        exact hzj
      · intro m hm hmj
        have hmd : m < ds.length := by omega
        have hz' : ds[m]? = some ds[m] := List.getElem?_eq_getElem hmd
        show PyData.eqv (SeqAt.readOf s.heap its.toArray[m]) d = false
        rw [at_ m hm _ hz']
        exact hno m _ hmj hz'
      · exact ⟨.int (j : Nat), H, I.tok _, ⟨_, rfl⟩, q⟩
end
theorem u65 {k : Nat} {A : Around} (r : Room k A) : A.units + 65 < cLine := by have := r.un; omega
/-- xs[::-1] of a list -/
def tRev (K : PySem.W.Frag) (te : TE) : TE := fun σ H Q => te σ H fun x H1 => ∃ a xs, x = .ref a ∧ SqL K H1 a xs ∧ ∀ p, H1 p = none → Q (.ref p) (upd H1 p (.lst xs.reverse))
theorem pe_rev {X : Cx} {e m : Expr} {te : TE} {p2 pos : Pos} (he : PE X e te) (hm : PE X m (tC (.int (-1)))) : PE X (.Subscript e (.Slice none none (some m) p2) pos) (tRev X.K te) := by
  refine ⟨fun pins s σ H Q I h => ?_⟩
  refine Subscript_ (thn (he.run pins s σ H _ I h) fun v s1 ⟨x, H1, I1, r1, q1⟩ => ?_)
  refine wpAny_Slice (wpAny_evalPart_none (wpAny_evalPart_none (wpAny_evalPart_some (thn (hm.run pins s1 σ H1 (fun y H2 => y = .int (-1) ∧ H2 = H1) I1 ⟨rfl, rfl⟩) fun vm s3 ⟨y, H3, I3, r3, ey, eH⟩ => ?_))))
  subst ey eH
  obtain ⟨t, rfl⟩ := r3
  obtain ⟨a, xs, rfl, hx, q⟩ := q1
  cases r1
  have I4 : L2.Inv X pins σ H3 { s3 with heap := s3.heap.push { cls := .type "slice", data := .fields #[.none, .none, .int (-1) t] } } := I3.kept (t' := s3.toks) fun b ob q => Heap.get?_push_of_some _ q
  obtain ⟨its, r, ht, hz⟩ := I4.list hx
  have hlen := r.length
  show wpAny (model X.prog X.w) X.A (subscriptTail e (.Slice none none (some m) p2) (.ref a) (.ref s3.heap.objs.size)) (EP X pins σ Q) X.xe { s3 with heap := s3.heap.push { cls := .type "slice", data := .fields #[.none, .none, .int (-1) t] } }
  refine tail_any (ops := [.ref a, .ref s3.heap.objs.size]) ht.isList.typeIs slot_list_getitem.lookup ?_ (by with_unfolding_all rfl)
  refine wpAny_getItem_list_slice ht.isList (Heap.IsSliceOf.new ..) .none .none (.int (-1) t) (by decide) ?_ (by rw [List.size_toArray] <;> omega)
  rw [PySem.W.krv_pick]
  refine ⟨.ref _, _, I4.laid (t' := s3.toks) (o := .lst xs.reverse) (fun b ob q => Heap.get?_push_of_some _ q) (Nat.le_refl _) ?_, rfl, q _ (I4.hok.fresh (Nat.le_refl _))⟩
  exact ⟨by rw [List.length_reverse]; exact hz, _, 0, r.reverse, Heap.get?_push_size _ rfl⟩
theorem pe_revK {X : Cx} {e m : Expr} {te : TE} {p2 pos : Pos} (K : PySem.W.Frag) (he : PE X e te) (hm : PE X m (tC (.int (-1)))) (h : X.K = K := by rfl) : PE X (.Subscript e (.Slice none none (some m) p2) pos) (tRev K te) := h ▸ pe_rev he hm
theorem tst {b : Bool} {A B : Prop} (h1 : b = true → A) (h0 : b = false → B) : if b = true then A else B := by
  cases b
  · exact h0 rfl
  · exact h1 rfl
theorem sl_tupAK {X : Cx} (K : PySem.W.Frag) (h : X.K = K := by rfl) : SlR X (rSlA K) := h ▸ sl_tupA
/-! ### tuples whose object has no dict (so that their methods are reached) -/
def TupF (G : Hp) (a : Addr) (xs : List V) : Prop := ∃ o : Obj, o.dict = none ∧ G a = some (.frz o (.tup xs))
def Tu (G : Hp) (a : Addr) (xs : List V) : Prop := G a = some (.tup xs) ∨ TupF G a xs
theorem TupF.same {G G' : Hp} {a : Addr} {xs : List V} (e : Same G G') (h : TupF G a xs) : TupF G' a xs := let ⟨o, h1, h2⟩ := h; ⟨o, h1, e _ _ h2⟩
theorem Tu.same {G G' : Hp} {a : Addr} {xs : List V} (e : Same G G') (h : Tu G a xs) : Tu G' a xs := by
  rcases h with h | h
  · exact .inl (e _ _ h)
  · exact .inr (h.same e)
theorem Tu.sq {K : PySem.W.Frag} {H : Hp} {a : Addr} {xs : List V} (h : Tu H a xs) : SqT K H a xs := by
  rcases h with h | ⟨o, _, h⟩
  · exact .inl (.inl h)
  · exact .inl (.inr ⟨o, h⟩)
theorem Tu.ty {K : PySem.W.Frag} {H : Hp} {a : Addr} {xs : List V} (h : Tu H a xs) : TyX K H (.ref a) (.type "tuple") := by
  rcases h with h | ⟨o, _, h⟩
  · exact .base (.tup h)
  · exact .fTuple h
theorem TupF.tu {G : Hp} {a : Addr} {xs : List V} (h : TupF G a xs) : Tu G a xs := .inr h
section
variable {X : Cx} (K : PySem.W.Frag)
/-- tuple(xs) -/
def yTupF (K : PySem.W.Frag) : List V → Hp → VK → Prop := fun xs H Q => ∃ p ys, xs = [.ref p] ∧ ((SqL K H p ys ∧ ∀ l o, H l = none → o.dict = none → Q (.ref l) (upd H l (.frz o (.tup ys)))) ∨ (SqT K H p ys ∧ Q (.ref p) H))
theorem call_tupleFK (h : X.K = K := by rfl) : CallR X (.type "tuple") (yTupF K) := by
  subst h
  intro pins s σ H xs us Q I r h
  obtain ⟨p, ys, rfl, h⟩ := h
  obtain ⟨u, rfl, rx⟩ := vals1 r
  cases rx
  rcases h with ⟨hq, q⟩ | ⟨hq, q⟩
  · obtain ⟨its, r', pl, hz⟩ := I.list hq
    have hlen := r'.length
    refine call_tuple_list pl.isList (fun h' kp => ?_) (by simp only [List.size_toArray] <;> omega)
    have I1 : L2.Inv X pins σ H { s with heap := h' } := I.kept (t' := s.toks) kp
    have I2 : L2.Inv X pins σ (upd H h'.objs.size (.frz { cls := .type "tuple", data := .seq its.toArray } (.tup ys))) { s with heap := h'.push { cls := .type "tuple", data := .seq its.toArray } } :=
      I1.laid (t' := s.toks) (fun b o e => Heap.get?_push_of_some _ e) (Nat.le_refl _) (show ObjOk X.prog X.w _ _ _ (.frz { cls := .type "tuple", data := .seq its.toArray } (.tup ys)) from ⟨Heap.get?_push_size _ rfl, hz, its, r', IsTup.new _ _⟩)
    exact ⟨.ref h'.objs.size, _, I2, rfl, q _ _ (I1.hok.fresh (Nat.le_refl _)) rfl⟩
  · obtain ⟨its, r', pl, hz⟩ := I.tuple hq
    exact call_tuple_same pl ⟨.ref p, H, I, rfl, q⟩
/-- t.m(e, ..), t a tuple -/
def tTM (r : V → List V → Hp → VK → Prop) (to : TE) (t : TA) : TE := fun σ H Q => to σ H fun x H1 => (∃ a xs, x = .ref a ∧ TupF H1 a xs) ∧ t σ H1 fun vs H2 => r x vs H2 Q
theorem pe_tm {o e : Expr} {es : List Expr} {to : TE} {t : TA} {id : String} {name : Str} {apos cpos : Pos} {r : V → List V → Hp → VK → Prop} (slot : Slot "tuple" name id) (hty : typeOf (.builtin id) = pure (.type "method_descriptor")) (hm : MtR X id r) (ho : PE X o to) (ha : PA X (e :: es) t)
    (hbase : attributeBase o name X.env (eval o X.env) = eval o X.env := by rfl)
    (hfew : ((backTo cpos (starEach (e :: es) X.env)).all (fun x => !x.1) && (backToKw cpos (keywordEach [] X.env)).all (fun x => x.1.isSome)
      && decide ((e :: es).length + ([] : List Keyword).length + (if ([] : List Keyword).isEmpty then 0 else 1) < 30)) = true := by rfl)
    (hline : (apos.endLine == cpos.line) = true := by rfl) (hs : starEach (e :: es) X.env = (false, eval e X.env) :: starEach es X.env := by rfl) (hplain : (backTo cpos (starEach es X.env)).any (·.1) = false := by rfl) :
    PE X (.Call (.Attribute o name apos) (e :: es) [] cpos) (tTM r to t) := by
  refine ⟨fun pins s σ H Q I h => ?_⟩
  refine wpAny_Call_method_late hbase hfew hline rfl (thn (ho.run pins s σ H _ I h) fun v s1 ⟨x, H1, I1, r1, ty, q1⟩ => ?_)
  obtain ⟨a, xs, rfl, ob, hd, ha'⟩ := ty
  cases r1
  obtain ⟨h1, _, _, _, h2⟩ := I1.hok _ _ ha'
  refine ⟨"tuple", id, PySem.F.plainAttrs_tuple, slot, hty, ⟨ob, h1, ?_⟩, fun b e => ?_, ?_⟩
  · obtain ⟨ob', e1, e2, _⟩ := h2
    rw [h1] at e1
    rw [Option.some.inj e1]
    exact e2
  · cases e
    exact ⟨ob, h1, hd⟩
  have hA := ha.run cpos pins s1 σ H1 _ I1 q1
  rw [hs] at hA ⊢
  refine Calls.callWith_builtin (by show (false || (backTo cpos (starEach es X.env)).any (·.1)) = false; rw [hplain] <;> rfl) (Calls.evalArgs_plain ?_)
  exact thn hA fun us s2 ⟨vs, H2, I2, r2, q2⟩ => hm pins s2 σ H2 (V.ref a) vs (.ref a) us Q I2 rfl r2 q2
end
/-- t[lo:hi]: the whole of it is t itself -/
def rSlF (K : PySem.W.Frag) : V → Option Int → Option Int → Hp → VK → Prop := fun x lo hi H Q => ∃ a xs, x = .ref a ∧ SqT K H a xs ∧
  (HT.sIx xs.length 0 lo = 0 ∧ HT.sIx xs.length xs.length hi = xs.length → Q (.ref a) H) ∧ (¬ (HT.sIx xs.length 0 lo = 0 ∧ HT.sIx xs.length xs.length hi = xs.length) → ∀ p ob, H p = none → ob.dict = none → Q (.ref p) (upd H p (.frz ob (.tup (cutV xs lo hi)))))
theorem sl_tupFK {X : Cx} (K : PySem.W.Frag) (h : X.K = K := by rfl) : SlR X (rSlF K) := by
  subst h
  intro pins s σ H x v vl vu lo hi sl Q I rx hs pl pu h
  obtain ⟨a, xs, rfl, hx, q1, q2⟩ := h
  by_cases hw : HT.sIx xs.length 0 lo = 0 ∧ HT.sIx xs.length xs.length hi = xs.length
  · exact sl_tupA pins s σ H _ v vl vu lo hi sl Q I rx hs pl pu ⟨a, xs, rfl, hx, q1, fun z => absurd hw z⟩
  · cases rx
    obtain ⟨its, r, ht, hz⟩ := I.tuple hx
    have hlen : its.toArray.size = xs.length := by rw [List.size_toArray]; exact r.length.symm
    refine ⟨"tuple", _, PyProof.Rows.slot_tuple_getitem.lookup, ht.typeIs, ?_⟩
    refine HT.getItem_tuple_cut ht hs pl pu (by rw [hlen]; exact hw) ?_ (by rw [hlen]; exact hz)
    rw [hlen]
    refine ⟨.ref s.heap.objs.size, _, I.laid (t' := s.toks) (o := .frz { cls := .type "tuple", data := .seq (List.take (HT.sIx xs.length xs.length hi - HT.sIx xs.length 0 lo) (List.drop (HT.sIx xs.length 0 lo) its.toArray.toList)).toArray } (.tup (cutV xs lo hi))) (fun b ob q => Heap.get?_push_of_some _ q) (Nat.le_refl _) ?_, rfl, q2 hw _ _ (I.hok.fresh (Nat.le_refl _)) ?_⟩
    · exact ⟨Heap.get?_push_size _ rfl, Nat.le_trans (cutV_length xs lo hi) hz, _, (r.drop (HT.sIx xs.length 0 lo)).take (HT.sIx xs.length xs.length hi - HT.sIx xs.length 0 lo), IsTup.new _ _⟩
    · rfl
theorem Sep.sub {G H : Hp} {M M' : List (Addr × HO)} (S : Sep G M H) (h : M'.Sublist M) : Sep G M' H := ⟨S.1, fun p hp => S.2.1 p (h.subset hp), List.Nodup.sublist (h.map _) S.2.2⟩
theorem Sep.rot2 {G H : Hp} {a b c d : Addr × HO} {M : List (Addr × HO)} (S : Sep G (a :: b :: c :: d :: M) H) : Sep G (c :: d :: a :: b :: M) H := S.perm (List.perm_append_comm_assoc [a, b] [c, d] M)
theorem Sep.no3 {G H : Hp} {a b c : Addr × HO} {M : List (Addr × HO)} (S : Sep G (a :: b :: c :: M) H) : Sep G (a :: b :: M) H := S.sub ((List.sublist_cons_self c M).cons₂ b |>.cons₂ a)
/-! ### lists of ints, of pairs of ints, as data -/
def prd (p : Int × Int) : PyData := .tuple [.int p.1, .int p.2]
theorem prd_can (p : Int × Int) : (prd p).canLay0 = true := by simp [prd, PyData.canLay0, PyData.canLayAll0]
theorem prd_shaped (p : Int × Int) : SeqAt.shaped (prd p) = true := by
  unfold SeqAt.shaped
  rw [prd_can]
  simp [prd, PyData.depth, PyData.depthAll]
theorem prds_can : ∀ ps : List (Int × Int), PyData.canLayAll0 (ps.map prd) = true
  | [] => by simp [PyData.canLayAll0]
  | p :: r => by simp [PyData.canLayAll0, prd_can p, prds_can r]
theorem ints_can : ∀ ns : List Int, PyData.canLayAll0 (ns.map PyData.int) = true
  | [] => by simp [PyData.canLayAll0]
  | n :: r => by simp [PyData.canLayAll0, PyData.canLay0, ints_can r]
theorem prd_eqv (p q : Int × Int) : PyData.eqv (prd p) (prd q) = decide (p = q) := by
  obtain ⟨a, b⟩ := p
  obtain ⟨c, d⟩ := q
  simp only [prd, PyData.eqv, PyData.eqvAll, Bool.and_true]
  by_cases h1 : a = c <;> by_cases h2 : b = d <;> simp [h1, h2]
theorem int_shaped (n : Int) : SeqAt.shaped (.int n) = true := by simp [SeqAt.shaped, PyData.canLay0, PyData.depth]
theorem ints_dp {K : PySem.W.Frag} {H : Hp} : ∀ ns : List Int, DpAll K H (ns.map V.int) (ns.map PyData.int)
  | [] => .nil
  | n :: r => .cons (.int n) (ints_dp r)
theorem any_ints (n : Int) (ns : List Int) : ((ns.map PyData.int).any fun z => PyData.eqv z (.int n)) = decide (n ∈ ns) := by
  induction ns with
  | nil => rfl
  | cons m r ih =>
    rw [List.map_cons, List.any_cons, ih]
    show ((m == n) || decide (n ∈ r)) = decide (n ∈ m :: r)
    by_cases e : n = m
    · subst e; simp
    · have e2 : ¬ m = n := fun q => e q.symm
      simp [e, e2]
theorem any_prds (p : Int × Int) (ps : List (Int × Int)) : ((ps.map prd).any fun z => PyData.eqv z (prd p)) = decide (p ∈ ps) := by
  induction ps with
  | nil => rfl
  | cons q r ih =>
    rw [List.map_cons, List.any_cons, ih, prd_eqv]
    by_cases e : p = q
    · subst e; simp
    · have e2 : ¬ q = p := fun h => e h.symm
      simp [e, e2]
end XL
set_option Elab.async false
set_option linter.all false
set_option maxRecDepth 100000
set_option maxHeartbeats 4000000
/-! XOwn: o[i], o[i] = v by own methods. -/
namespace XL
open PySem PySem.Spec PyProof.Rows L2
section
variable {X : Cx} {CX : CXT} {C f : Addr} {fd : FuncData} {ps : List Str} {sp : Sp} {E : XK} {n : Nat} {o i : Expr} {to ti : TE} {pos : Pos}
def yIxO (C : Addr) (sp : Sp) (E : XK) : R2 := fun x y H Q => ∃ a dx fs, x = .ref a ∧ H a = some (.ins C dx fs) ∧ sp [.ref a, y] H Q E
theorem pe_ixO (ho : PE X o to) (hi : PE X i ti) (F : FnOk X.prog X.w X.K X.mg X.base CX n f fd ps sp) (hs : PySem.W.findIn X.K (.ref C) "__getitem__" = some (some (.ref f))) (hf : PySem.W.fnIn X.K f = true) (hfn : PySem.W.isFn X.K (.ref f) = true)
    (hb : Binds X.K fd ps []) (hx : Passes CX X E) (hr : Room (n + 1) X.A) (hsl : ∀ x v, subscripted i true (.ref x) v = runValue (.builtin "lifetime.subscript" ⟨[.ref x, v], []⟩) := by intro _ _; with_unfolding_all rfl) :
    PE X (.Subscript o i pos) (tOp (yIxO C sp E) to ti) := by
  refine ⟨fun pins s σ H Q I h => ?_⟩
  refine Subscript_ (thn (ho.run pins s σ H _ I h) fun v s1 ⟨x, H1, I1, r1, q1⟩ => thn (hi.run pins s1 σ H1 _ I1 q1) fun u s2 ⟨y, H2, I2, r2, q2⟩ => ?_)
  obtain ⟨a, dx, fs, rfl, ha, hsp⟩ := q2
  cases r1
  obtain ⟨mA, J, _⟩ := ins_get I2.hok ha
  obtain ⟨od, J, _⟩ := J.look
  obtain ⟨m, hF⟩ := I2.fr
  refine PySem.W.sub_K hF I2.ok.mod.kin J hs hf hfn ?_ (hsl _ _)
  have hl : ([Value.ref a, u] ++ []).length = ps.length := F.len _ _ _ _ hsp
  refine wpAny_call (codeAny_mono (F.run X.A.in1 X.stack s2 H2 ⟨[.ref a, u], []⟩ [.ref a, u] [.ref a, y] Q E hr.in1 I2.env0.in1 (hb s2 [.ref a, u] I2.kIn hl) (.cons rfl (.cons r2 .nil)) hsp) fun r s' hq => ?_)
  cases r with
  | error e => exact hx pins σ H2 s2 e s' I2 hq
  | ok fl =>
    cases fl with
    | ret u => exact I2.after hq
    | next => exact False.elim hq
    | brk => exact False.elim hq
    | cont => exact False.elim hq
def yStO (C : Addr) (sp : Sp) (E : XK) : TSet := fun x y v H Q => ∃ a dx fs, x = .ref a ∧ H a = some (.ins C dx fs) ∧ sp [.ref a, y, v] H (fun _ H' => Q H') E
theorem set_own (F : FnOk X.prog X.w X.K X.mg X.base CX n f fd ps sp) (hq : PySem.W.noSeq X.K C = true) (hs : PySem.W.findIn X.K (.ref C) "__setitem__" = some (some (.ref f))) (hfn : PySem.W.isFn X.K (.ref f) = true)
    (hb : Binds X.K fd ps []) (hx : Passes CX X E) (hr : Room n X.A) : PSet X (yStO C sp E) := by
  intro pins s σ H x y v xv yv vv Q I rx ry rv h
  obtain ⟨a, dx, fs, rfl, ha, hsp⟩ := h
  cases rx
  obtain ⟨mA, J, _⟩ := ins_get I.hok ha
  obtain ⟨od, J, _⟩ := J.look
  obtain ⟨m, hF⟩ := I.fr
  refine PySem.W.ksp_setItem hF I.ok.mod.kin J hq hs hfn ?_
  refine wpAny_mono (run_fn (us := [.ref a, yv, vv]) (vs := [.ref a, y, v]) (dvs := []) F hr hb .nil hx I (.cons rfl (.cons ry (.cons rv .nil))) hsp) (fun r s' q => ?_) fun _ _ e => e
  obtain ⟨z, H', I', rz, q⟩ := q
  exact ⟨H', I', q⟩
end
end XL
set_option Elab.async false
set_option linter.all false
set_option maxRecDepth 100000
set_option maxHeartbeats 4000000
/-! XTup: tuples made by a display or by +, as objects without a dict. -/
namespace XL
open PySem PySem.Spec PyProof.Rows L2
section
variable {X : Cx} {es : List Expr} {t : TA} {pos : Pos}
def tTupF (t : TA) : TE := fun σ H Q => t σ H fun xs H1 => xs.length ≤ sizeLine ∧ ∀ p ob, H1 p = none → ob.dict = none → Q (.ref p) (upd H1 p (.frz ob (.tup xs)))
theorem pe_tupF {x1} (h : PA X es t) : PE X (.Tuple es x1 pos) (tTupF t) := by
  refine ⟨fun pins s σ H Q I hq => ?_⟩
  refine wpAny_Tuple_spliced (thn (h.run pos pins s σ H _ I hq) fun us s1 ⟨xs, H1, I1, r, z, q⟩ => ⟨by rw [← r.length]; exact z, ?_⟩)
  have hf : H1 s1.heap.objs.size = none := I1.hok.fresh (Nat.le_refl _)
  refine ⟨.ref s1.heap.objs.size, _, I1.laid (t' := s1.toks) (o := .frz { cls := .type "tuple", data := .seq us.toArray } (.tup xs)) (fun b u e => Heap.get?_push_of_some _ e) (Nat.le_refl _) ?_, rfl, q _ _ hf rfl⟩
  exact ⟨Heap.get?_push_size _ rfl, z, us, r, ⟨_, Heap.get?_push_size _ rfl, rfl, _, rfl⟩⟩
def rCatF (K : PySem.W.Frag) : R2 := fun x y H Q => ∃ a b xs ys, x = .ref a ∧ y = .ref b ∧ SqT K H a xs ∧ SqT K H b ys ∧ xs.length + ys.length ≤ sizeLine ∧
  (xs = [] → Q (.ref b) H) ∧ (xs ≠ [] → ys = [] → Q (.ref a) H) ∧ (xs ≠ [] → ys ≠ [] → ∀ p ob, H p = none → ob.dict = none → Q (.ref p) (upd H p (.frz ob (.tup (xs ++ ys)))))
theorem op_catFK (K : PySem.W.Frag) (h : X.K = K := by rfl) : OpR X (binaryOp .Add) (rCatF K) := by
  subst h
  intro pins s σ H x y v u Q I rx ry h
  obtain ⟨a, b, xs, ys, rfl, rfl, ha, hb, hz, q0, q1, q2⟩ := h
  by_cases hx : xs = []
  · exact op_catA pins s σ H _ _ v u Q I rx ry ⟨a, b, xs, ys, rfl, rfl, ha, hb, hz, q0, fun z => absurd hx z, fun z => absurd hx z⟩
  · cases rx
    cases ry
    obtain ⟨its, r1, p1, _⟩ := I.tuple ha
    obtain ⟨its2, r2, p2, _⟩ := I.tuple hb
    refine HT.cat_tup p1 p2 (fun z => hx (r1.nil_iff.mp z)) (fun z => ⟨.ref a, H, I, rfl, q1 hx (r2.nil_iff.mp z)⟩) (fun z => ?_) (by rw [← r1.length, ← r2.length]; exact hz)
    refine ⟨.ref s.heap.objs.size, _, I.laid (t' := s.toks) (o := .frz { cls := .type "tuple", data := .seq (its ++ its2).toArray } (.tup (xs ++ ys))) (fun b ob q => Heap.get?_push_of_some _ q) (Nat.le_refl _) ?_, rfl, q2 hx (fun w => z (r2.nil_iff.mpr w)) _ _ (I.hok.fresh (Nat.le_refl _)) rfl⟩
    exact ⟨Heap.get?_push_size _ rfl, by rw [List.length_append]; exact hz, _, r1.append r2, IsTup.new _ _⟩
end
section
variable {K : PySem.W.Frag} {a : Addr} {xs : List V} {Qd : Hp → Prop} {B : V → Hp → (Hp → Prop) → Prop} {H0 : Hp}
/-- a clause of a comprehension over a list -/
theorem loopL (Pv : Nat → Hp → Prop) (h0 : Pv 0 H0) (hl : ∀ k H, Pv k H → SqL K H a xs) (hs : ∀ k x H, xs[k]? = some x → Pv k H → B x H (Pv (k + 1))) (hd : ∀ H, Pv xs.length H → Qd H) :
    ∃ W : Nat → Nat → Hp → Prop, (∃ m, W 0 m H0) ∧ ∀ i m H, W i m H → ((Itl K a).stop i H ∧ Qd H) ∨ ((Itl K a).go i H ∧ ∃ Nx : Hp → Prop, (∀ H', Nx H' → ∃ m', m' < m ∧ W (i + 1) m' H') ∧ ∀ x H', (Itl K a).yld i H x H' → B x H' Nx) := by
  refine ⟨fun i m H => m = xs.length - i ∧ i ≤ xs.length ∧ Pv i H, ⟨xs.length, by simp, Nat.zero_le _, h0⟩, ?_⟩
  rintro i m H ⟨rfl, hi, p⟩
  have q := hl i H p
  by_cases hlt : i < xs.length
  · refine .inr ⟨⟨xs, xs[i], q, by simp [hlt]⟩, Pv (i + 1), fun H' p' => ⟨xs.length - (i + 1), by omega, rfl, hlt, p'⟩, fun x H' y => ?_⟩
    obtain ⟨e, y⟩ := y
    subst e
    exact hs i x _ (y xs q) p
  · have e : i = xs.length := by omega
    subst e
    exact .inl ⟨⟨xs, q, Nat.le_refl _⟩, hd H p⟩
/-- a clause of a comprehension over a range -/
theorem loopR {lo : Int} {n : Nat} (Pv : Nat → Hp → Prop) (h0 : Pv 0 H0) (hs : ∀ k H, k < n → Pv k H → B (.int (lo + k)) H (Pv (k + 1))) (hd : ∀ H, Pv n H → Qd H) :
    ∃ W : Nat → Nat → Hp → Prop, (∃ m, W 0 m H0) ∧ ∀ i m H, W i m H → ((Itr lo n).stop i H ∧ Qd H) ∨ ((Itr lo n).go i H ∧ ∃ Nx : Hp → Prop, (∀ H', Nx H' → ∃ m', m' < m ∧ W (i + 1) m' H') ∧ ∀ x H', (Itr lo n).yld i H x H' → B x H' Nx) := by
  refine ⟨fun i m H => m = n - i ∧ i ≤ n ∧ Pv i H, ⟨n, by simp, Nat.zero_le _, h0⟩, ?_⟩
  rintro i m H ⟨rfl, hi, p⟩
  by_cases hlt : i < n
  · refine .inr ⟨hlt, Pv (i + 1), fun H' p' => ⟨n - (i + 1), by omega, rfl, hlt, p'⟩, fun x H' y => ?_⟩
    obtain ⟨e, y⟩ := y
    subst e y
    exact hs i _ hlt p
  · have e : i = n := by omega
    subst e
    exact .inl ⟨Nat.le_refl _, hd H p⟩
/-- row + (item,) -/
theorem cat_one {G H : Hp} {M : List (Addr × HO)} {r : Addr} {n : List Int} {i : Int} {Q : VK} (S : Sep G M H) (hr : TupF G r (n.map V.int)) (hl : n.length ≤ 1000)
    (q : ∀ (p : Addr) (G' H' : Hp), Same G G' → Sep G' M H' → TupF G' p ((n ++ [i]).map V.int) → Q (.ref p) H') :
    [V.int i].length ≤ sizeLine ∧ ∀ p ob, H p = none → ob.dict = none → rCatF K (.ref r) (.ref p) (upd H p (.frz ob (.tup [.int i]))) Q := by
  refine ⟨sz, fun p ob np hob => ?_⟩
  have S1 := S.newG (o := .frz ob (.tup [.int i])) np
  have s1 := S.grow (o := .frz ob (.tup [.int i])) np
  have h1 : TupF (upd G p (.frz ob (.tup [.int i]))) p [.int i] := ⟨ob, hob, upd_same⟩
  refine ⟨r, p, n.map V.int, [.int i], rfl, rfl, ((hr.same s1).same S1.1).tu.sq, (h1.same S1.1).tu.sq, small (by rw [List.length_map]; simp; omega), fun e => ?_, fun _ e => (nomatch e), fun _ _ p2 ob2 np2 hob2 => ?_⟩
  · have e2 : n = [] := List.map_eq_nil_iff.mp e
    subst e2
    exact q p _ _ s1 S1 h1
  · have e3 : n.map V.int ++ [V.int i] = (n ++ [i]).map V.int := by rw [List.map_append]; rfl
    rw [e3]
    exact q p2 _ _ (s1.trans (S1.grow np2)) (S1.newG np2) ⟨ob2, hob2, upd_same⟩
end
end XL
set_option Elab.async false
set_option linter.all false
set_option maxRecDepth 100000
set_option maxHeartbeats 4000000
/-! XExc: an error of the program's own, class E(ScreenError): __init__(self, x): super().__init__(f'..{x!r}'); self.x = x: made, raised, caught. -/
namespace PySem
namespace XExc
open PySem.W PySem.Calls PyProof.Rows PySem.HandSPX
/-! ### the text of __init__ -/
def iA (fld : Str) (p1 p2 : Pos) : Arguments := { posonlyargs := [], args := [{ arg := "self", annotation := none, pos := p1 }, { arg := fld, annotation := none, pos := p2 }], vararg := none, kwonlyargs := [], kw_defaults := [], kwarg := none, defaults := [] }
structure Ps where
  a : Pos
  b : Pos
  c : Pos
  d : Pos
  e : Pos
  f : Pos
  g : Pos
  h : Pos
  i : Pos
  j : Pos
  k : Pos
  l : Pos
  m : Pos
  cv : Int
  cp : cv = 114 ∨ cv = -1
def iSup (q : Ps) : Expr := .Call (.Name "super" q.a) [] [] q.b
def iArg (fld : Str) (msg : Str) (q : Ps) : Expr := .JoinedStr [.Constant (.str msg) 0 q.d, .FormattedValue (.Name fld q.e) q.cv none q.f] q.g
def iCall (fld : Str) (msg : Str) (q : Ps) : Expr := .Call (.Attribute (iSup q) "__init__" q.c) [iArg fld msg q] [] q.h
def iB (fld : Str) (msg : Str) (q : Ps) : List Stmt := [.Expr (iCall fld msg q) q.i, .Assign [.Attribute (.Name "self" q.j) fld q.k] (.Name fld q.l) q.m]
/-- how the call is evaluated (the positions decide nothing here) -/
def Evals (fld msg : Str) (q : Ps) : Prop := ∃ pl : Env → Sem Bool, ∀ env : Env, eval (iCall fld msg q) env = (do
  let ov ← attributeBase (iSup q) "__init__" env (eval (iSup q) env)
  standAt q.c.atName
  let (f, first) ← holding [ov] (getMethod ov "__init__" (pl env))
  callWith q.h f first (backTo q.h (starEach [iArg fld msg q] env)) [])
def iN (fld : Str) : List (Str × NameKind) := [(PySem.Str.ofString "self", .local), (fld, .local), (PySem.Str.ofString "__class__", .free), (PySem.Str.ofString "super", .globalImplicit)]
def iS (fld : Str) : Scope := { kind := .function, names := iN fld, isGenerator := false, isCoroutine := false, more := [] }
/-- what the written part says of the class at C and of its __init__ at fI -/
structure ExTxt (P : Program) (K : Frag) (mg : Str → Option Value) (nm fld msg : Str) (C fI : Addr) : Prop where
  gC : mg nm = some (.ref C)
  cls : ∃ nm q N bs bm sn sub ab col dd k0 k1 k2 k3 k5, K.lookup C = some (excClassObj nm q C N bs bm true sn sub ab col dd k0 k1 k2 k3 k5 "ValueError.__new__") ∧ refsVE bm = true
  sa : findIn K (.ref C) "__setattr__" = some (some (.builtin "object.__setattr__"))
  ga : findIn K (.ref C) "__getattribute__" = some (some (.builtin "BaseException.__getattribute__"))
  gg : findIn K (.ref C) "__getattr__" = some none
  noN : findIn K (.ref C) fld = some none
  iC : findIn K (.ref C) "__init__" = some (some (.ref fI))
  tC : typeIn K (.ref fI) = some (.type "function")
  kC : keepIn K (.ref C) = true
  exC : subIn K (.ref C) (.type "BaseException") = some true
  tyC : typeIn K (.ref C) = some (.type "type")
  hdC : hasDictIn K C = true
  fn : ∃ (oc kV doc pm ct : Value) (od an : Option Addr) (osl : Array (Option Value)) (qual : Str) (cda cc : Addr) (p1 p2 : Pos) (q : Ps) (vs : Array Value) (file : Str) (tf : Tok) (ccl cl : Value) (cdd cld : Option Addr) (ccs csl : Array (Option Value)),
    K.lookup fI = some ⟨oc, od, .func (ksFn "__init__" qual (iA fld p1 p2) (iB fld msg q) (iS fld) .none kV doc pm an (.ref cda) ct cc), osl⟩ ∧ codeIn K (.ref cda) qual = true ∧ K.lookup cda = some ⟨ccl, cdd, .fields vs, ccs⟩ ∧ vs[2]? = some (.str file tf) ∧
    ((P.main.file : Str) == file) = true ∧ K.lookup cc = some ⟨cl, cld, .cell (some (.ref C)), csl⟩ ∧ Evals fld msg q ∧
    ∀ x v : Value, bindArgs (ksFn "__init__" qual (iA fld p1 p2) (iB fld msg q) (iS fld) .none kV doc pm an (.ref cda) ct cc) ⟨[x, v], []⟩ = pure [(("self" : Str), x), (fld, v)]
  sup : ks_superIn K C C "__init__" = some (some (.builtin "ValueError.__init__"))
  subV : subIn K (.ref C) (.type "ValueError") = some true
  mroS : mroIn K C (.ref C) = some true
  opq : nsIn K cStatics "thirdparty.any" = some none
  htop : (P.main.scope.names.lookup ("super" : Str)).isSome = false
  hsup : mg "super" = none
  f1 : fld ≠ "self"
  f2 : fld ≠ "__class__"
  f3 : fld ≠ "super"
  f4 : (fld == ("__debug__" : Str)) = false
  ml : msg.length ≤ 1000
/-- where the program stands -/
def PF (P : Program) (fl : Str) : Prop := ((P.main.file : Str) == fl) = true ∧ (P.main.scope.names.lookup ("super" : Str)).isSome = false
/-- what can be told in the message -/
def Rp (v : Value) : Prop := (∃ (y : Str) (t : Tok), v = .str y t ∧ (reprText y).length ≤ 100000) ∨ ∃ (i : Int) (t : Tok), v = .int i t ∧ i.natAbs.log2 < 1920
structure InitEnd (h h' : Heap) (x C dx : Addr) (fld : Str) (v : Value) : Prop where
  keep : ∀ b o, b ≠ x → h.get? b = some o → h'.get? b = some o
  obj : ∃ t1 : Addr, h'.get? x = some { cls := .ref C, dict := some dx, data := .fields #[.ref t1, .none, .none, .none, .bool false, .none] }
  dbig : h.objs.size ≤ dx
  dne : dx ≠ x
  ns : h'.Ns1 dx (fun y => if y = fld then some v else none)
structure OwnMade (h h' : Heap) (e C d : Addr) (fld : Str) (v : Value) : Prop where
  keep : ∀ b o, h.get? b = some o → h'.get? b = some o
  new : h.objs.size ≤ e
  obj : ∃ oe vs, h'.get? e = some oe ∧ oe.cls = .ref C ∧ oe.dict = some d ∧ oe.data = .fields vs ∧ vs[1]? = some .none
  dbig : h.objs.size ≤ d
  dne : d ≠ e
  ns : h'.Ns1 d (fun y => if y = fld then some v else none)
section
variable {prog : Program} {w : World} {A : Around} {E : Value → Shared → Prop} {h : Heap} {g : Array GenState} {d : Drawn} {t : Nat} {os : OsState}
variable {nm q : Str} {C N : Addr} {bs bm : List Value} {hdct : Bool} {sn : List Str} {sub : List Value} {ab : Bool} {col : Option Bool} {dd : Option Addr} {k0 k1 k2 k3 k5 : Option Value}
theorem call_mw {u e t0 : Addr} {rest : List Value} {Q : Value → Shared → Prop}
    (hC : h.get? C = some (excClassObj nm q C N bs bm hdct sn sub ab col dd k0 k1 k2 k3 k5 "ValueError.__new__")) (he : h.get? e = some (excO C t0)) (hu : h.get? u = some (kxs_mw "ValueError.__init__" e)) (hrest : rest.length ≤ sizeLine)
    (hq : ∀ h' t1, (∀ b o, b ≠ e → h.get? b = some o → h'.get? b = some o) → h.objs.size ≤ h'.objs.size → h'.get? e = some (excO C t1) → Q .none ⟨h', g, d, t, os⟩) :
    wpAny (model prog w) A (call (.ref u) rest) Q E ⟨h, g, d, t, os⟩ := by
  refine wpAny_call (codeAny_of_tree ?_)
  show wpAny _ A.in1 (callAny (.ref u) ⟨rest, []⟩) _ _ _
  simp only [callAny]
  refine wpAny_bind (wpAny_load hu ?_)
  simp only [kxs_mw, show (Value.type "method-wrapper" == Value.type "method" || Value.type "method-wrapper" == Value.type "builtin_function_or_method" || Value.type "method-wrapper" == Value.type "method-wrapper") = true by decide, if_true]
  refine W.KFB.if_so (by decide) ?_
  refine wpAny_bind (check_bound_init F.excBase_ValueError.toExcCallFacts hC he rfl ?_)
  refine wpAny_bind (wpAny_pure (wpAny_pure ?_))
  refine ⟨plainId_quiet F.excBase_ValueError.init.plain _, codeAny_builtin F.excBase_ValueError.initEntry ?_⟩
  rw [Around.under_plainId F.excBase_ValueError.init.plain _]
  wp_walk
  refine hq _ h.objs.size (fun b o hb ho => ?_) ?_ ?_
  · rw [Heap.get?_update_other _ _ (Ne.symm hb)]
    exact Heap.get?_push_of_some _ ho
  · simp [Heap.size_push]
  · rw [Heap.get?_update_self _ (Heap.get?_push_of_some _ he) rfl]
    rfl
end
section
variable {prog : Program} {w : World} {A : Around} {E : Value → Shared → Prop} {R : Result → Shared → Prop} {s : Shared} {K : Frag} {mg mb : Str → Option Value} {nm fld msg : Str} {C fI : Addr}
theorem one_size (v : Value) : [v].length ≤ sizeLine := by
  rw [sizeLine_eq]
  exact (by decide : 1 ≤ 16777216)
theorem reprChar_ge (q c : Nat) : 1 ≤ (Builtin.Str.reprChar q c).length := by
  unfold Builtin.Str.reprChar
  dsimp only
  repeat' split
  all_goals simp only [List.length_append, List.length_cons, List.length_nil]
  all_goals omega
theorem foldl_repr_ge1 (q : Nat) : ∀ (l : List Nat) (acc : Array Nat), acc.size + l.length ≤ (l.foldl (fun out c => out ++ (Builtin.Str.reprChar q c).toArray) acc).size
  | [], acc => Nat.le_refl _
  | c :: r, acc => by
    have ih := foldl_repr_ge1 q r (acc ++ (Builtin.Str.reprChar q c).toArray)
    have hc := reprChar_ge q c
    simp only [List.foldl_cons, List.length_cons]
    simp only [Array.size_append, List.size_toArray] at ih
    omega
theorem reprText_ge (x : Str) : x.length ≤ (reprText x).length := by
  unfold reprText
  show x.length ≤ ((x.cps.foldl (fun out c => out ++ (Builtin.Str.reprChar (reprQuote x) c).toArray) #[reprQuote x]).push (reprQuote x)).size
  rw [Array.size_push, ← Array.foldl_toList]
  have := foldl_repr_ge1 (reprQuote x) x.cps.toList #[reprQuote x]
  have e : x.cps.toList.length = x.length := by simp [Str.length]
  rw [e] at this
  omega
/-- f'..{v!r}' -/
theorem told_ok {env : Env} {q : Ps} {m : Str → Option Value} {v : Value} {Q : Value → Shared → Prop} (hn : s.heap.Ns env.locals m) (hv : m fld = some v) (hr : Rp v) (hml : msg.length ≤ 1000) (hk : env.scope.kind = .function) (hl : env.kindOf fld = some .local) (hd : (fld == ("__debug__" : Str)) = false)
    (h : ∀ u tk, Q u { s with toks := tk }) : wpAny (model prog w) A (eval (iArg fld msg q) env) Q E s := by
  unfold iArg
  have sm : ∀ n : Nat, n ≤ 200000 → n ≤ sizeLine := fun n hn => Nat.le_trans hn (by decide)
  rcases q.cp with ecv | ecv
  · rw [ecv]
    refine wpAny_JoinedStr ?_
    have e0 : evalEach [Expr.Constant (.str msg) 0 q.d, .FormattedValue (.Name fld q.e) 114 none q.f] env = [eval (.Constant (.str msg) 0 q.d) env, eval (.FormattedValue (.Name fld q.e) 114 none q.f) env] := by first | rfl | simp [evalEach]
    rw [e0]
    refine Calls.Constant_str ⟨msg, _, rfl, ?_, ?_⟩
    · rw [Str.length_append]
      exact sm _ (by show 0 + msg.length ≤ _; omega)
    refine wpAny_FormattedValue_repr (ESX.ldL hn hv ?_ hk hl hd)
    rcases hr with ⟨y, t, rfl, hz⟩ | ⟨i, t, rfl, hz⟩
    · have hz' : (reprText y).length ≤ sizeLine := sm _ (by omega)
      have out : ∀ (tk : Tok) (tt : Nat), ∃ (y' : Str) (t' : Tok), Value.str (reprText y) tk = .str y' t' ∧ (Str.empty ++ msg ++ y').length ≤ sizeLine ∧ Joins (model prog w) A E [] (Str.empty ++ msg ++ y') (fun out s₁ => out.length ≤ sizeLine ∧ Q (.str out s₁.toks) { s₁ with toks := s₁.toks + 1 }) { s with toks := tt } := fun tk tt => by
        have hl : (Str.empty ++ msg ++ reprText y).length ≤ sizeLine := by
          rw [Str.length_append, Str.length_append]
          exact sm _ (by show 0 + msg.length + _ ≤ _; omega)
        exact ⟨_, _, rfl, hl, hl, h _ _⟩
      exact pyReprObj_str (wpAny_formatField_str (out _ _) (out _ _) hz') hz'
    · have hz' := int_text_fits hz
      have ln : (toString i : Str).length ≤ 100000 := by
        have e := int_text_length_le (k := 1920) (by decide) hz
        show (Str.ofString (toString i)).length ≤ 100000
        rw [ofString_length]
        omega
      have out : ∀ (tk : Tok) (tt : Nat), ∃ (y' : Str) (t' : Tok), Value.str (toString i) tk = .str y' t' ∧ (Str.empty ++ msg ++ y').length ≤ sizeLine ∧ Joins (model prog w) A E [] (Str.empty ++ msg ++ y') (fun out s₁ => out.length ≤ sizeLine ∧ Q (.str out s₁.toks) { s₁ with toks := s₁.toks + 1 }) { s with toks := tt } := fun tk tt => by
        have hl : (Str.empty ++ msg ++ (toString i : Str)).length ≤ sizeLine := by
          rw [Str.length_append, Str.length_append]
          exact sm _ (by show 0 + msg.length + _ ≤ _; omega)
        exact ⟨_, _, rfl, hl, hl, h _ _⟩
      exact pyReprObj_int hz (wpAny_formatField_str (out _ _) (out _ _) hz')
  · rw [ecv]
    refine wpAny_JoinedStr ?_
    have e0 : evalEach [Expr.Constant (.str msg) 0 q.d, .FormattedValue (.Name fld q.e) (-1) none q.f] env = [eval (.Constant (.str msg) 0 q.d) env, eval (.FormattedValue (.Name fld q.e) (-1) none q.f) env] := by first | rfl | simp [evalEach]
    rw [e0]
    refine Calls.Constant_str ⟨msg, _, rfl, ?_, ?_⟩
    · rw [Str.length_append]
      exact sm _ (by show 0 + msg.length ≤ _; omega)
    refine wpAny_FormattedValue_plain (ESX.ldL hn hv ?_ hk hl hd)
    rcases hr with ⟨y, t, rfl, hz⟩ | ⟨i, t, rfl, hz⟩
    · have hy := reprText_ge y
      have hl : (Str.empty ++ msg ++ y).length ≤ sizeLine := by
        rw [Str.length_append, Str.length_append]
        exact sm _ (by show 0 + msg.length + _ ≤ _; omega)
      have out : ∀ (tk : Tok) (tt : Nat), ∃ (y' : Str) (t' : Tok), Value.str y tk = .str y' t' ∧ (Str.empty ++ msg ++ y').length ≤ sizeLine ∧ Joins (model prog w) A E [] (Str.empty ++ msg ++ y') (fun out s₁ => out.length ≤ sizeLine ∧ Q (.str out s₁.toks) { s₁ with toks := s₁.toks + 1 }) { s with toks := tt } := fun tk tt => ⟨_, _, rfl, hl, hl, h _ _⟩
      exact wpAny_formatField_str (out _ _) (out _ _) (sm _ (by omega))
    · have hz' := int_text_fits hz
      have ln : (toString i : Str).length ≤ 100000 := by
        have e := int_text_length_le (k := 1920) (by decide) hz
        show (Str.ofString (toString i)).length ≤ 100000
        rw [ofString_length]
        omega
      have hl : (Str.empty ++ msg ++ (toString i : Str)).length ≤ sizeLine := by
        rw [Str.length_append, Str.length_append]
        exact sm _ (by show 0 + msg.length + _ ≤ _; omega)
      exact wpAny_formatField_int hz ⟨_, _, rfl, hl, hl, h _ _⟩
end
section
variable {prog : Program} {w : World} {A : Around} {E : Value → Shared → Prop} {R : Result → Shared → Prop} {K : Frag} {mg mb : Str → Option Value} {nm fld msg : Str} {C fI : Addr}
theorem kept_but {K : Frag} {h h' : Heap} {x : Addr} (X : K.In h) (hx : K.lookup x = none) (k : ∀ b o, b ≠ x → h.get? b = some o → h'.get? b = some o) : K.In h' := fun a o e =>
  k a o (fun z => by rw [z, hx] at e; cases e) (X a o e)
theorem exc_init (T : ExTxt prog K mg nm fld msg C fI) {x t0 : Addr} {v : Value} {hp : Heap} {g : Array GenState} {dr : Drawn} {tk : Nat} {os : OsState} (X : K.In hp) (hlim : hp.NoLimit) (hG : hp.Ns mainGlobals mg) (hB : hp.Ns builtinsNs mb) (hbb : ∀ x : Str, x ≠ "__name__" → mb x = bootBuiltins x)
    (hx : hp.get? x = some (excO C t0)) (hnx : K.lookup x = none) (hroom : A.depth < recursionLimit) (hr : Rp v)
    (hq : ∀ h' tk' dx, InitEnd hp h' x C dx fld v → R (.ok (.ret .none)) ⟨h', g, dr, tk', os⟩) :
    codeAny (model prog w) A (.call (.ref fI) ⟨[.ref x, v], []⟩) R ⟨hp, g, dr, tk, os⟩ := by
  obtain ⟨oc, kV, doc, pm, ct, od, an, osl, qual, cda, cc, p1, p2, q, vs, file, tf, ccl, cl, cdd, cld, ccs, csl, ho, hcd, hcda, hvs, hfile, hcc, ⟨pl, hev⟩, hbind⟩ := T.fn
  obtain ⟨nm', q', N, bs, bm, sn, sub, ab, col, dd, k0, k1, k2, k3, k5, hC, hbm⟩ := T.cls
  have hcl : clsIn K C = some { name := nm', bases := bs, mro := .ref C :: bm, ns := N, qualname := q', hasDict := true, slotNames := sn, subclasses := sub, abstract := ab, collection := col, hasDel := false } := by unfold clsIn; rw [hC] <;> rfl
  have e1 : (iS fld).names.lookup fld = some .local := by
    show (iN fld).lookup fld = _
    unfold iN
    have z : (fld == PySem.Str.ofString "self") = false := by simpa using T.f1
    simp [List.lookup, z]
  have e2 : (iS fld).names.lookup ("self" : Str) = some .local := rfl
  have e3 : (iS fld).names.lookup ("__class__" : Str) = some .free := by
    show (iN fld).lookup ("__class__" : Str) = _
    unfold iN
    have z : (("__class__" : Str) == fld) = false := by simpa using Ne.symm T.f2
    have z2 : (("__class__" : Str) == PySem.Str.ofString "self") = false := by decide
    simp [List.lookup, z, z2]
  have e4 : (iS fld).names.lookup ("super" : Str) = some .globalImplicit := by
    show (iN fld).lookup ("super" : Str) = _
    unfold iN
    have z : (("super" : Str) == fld) = false := by simpa using Ne.symm T.f3
    have z2 : (("super" : Str) == PySem.Str.ofString "self") = false := by decide
    have z3 : (("super" : Str) == PySem.Str.ofString "__class__") = false := by decide
    simp [List.lookup, z, z2, z3]
  refine ks_codeAny_call_defAt (fd := ksFn "__init__" qual (iA fld p1 p2) (iB fld msg q) (iS fld) .none kV doc pm an (.ref cda) ct cc) (body := iB fld msg q) (binds := [("self", .ref x), (fld, v)]) hroom (X _ _ ho) rfl hlim (codeRec_of X hcd) rfl (BindsTo.of_eq (hbind _ _)) ?_ ?_ (fun h₁ hn k => ?_) rfl rfl rfl
  · intro y hy
    have hy : y ∈ iN fld := hy
    unfold iN at hy
    simp only [List.mem_cons, List.not_mem_nil, or_false] at hy
    rcases hy with rfl | rfl | rfl | rfl <;> exact fun z => nomatch z
  · intro y hy
    simp only [List.mem_cons, List.not_mem_nil, or_false] at hy
    rcases hy with rfl | rfl
    · exact e2
    · exact e1
  have X₁ : K.In h₁ := X.keeps k
  have hxL : hp.objs.size ≠ x := Nat.ne_of_gt (Heap.lt_size hx)
  have hx₁ := k _ _ hx
  have mS : List.lookup ("self" : Str) (List.reverse [(("self" : Str), Value.ref x), (fld, v)]) = some (.ref x) := by
    show List.lookup ("self" : Str) [(fld, v), (("self" : Str), Value.ref x)] = _
    have z : (("self" : Str) == fld) = false := by simpa using Ne.symm T.f1
    simp [List.lookup, z]
  have mF : List.lookup fld (List.reverse [(("self" : Str), Value.ref x), (fld, v)]) = some v := by
    show List.lookup fld [(fld, v), (("self" : Str), Value.ref x)] = _
    simp [List.lookup]
  refine ks_wpAt_execs_cons (ks_wpAt_Expr_any (ks_wpAt_MethodCall (o := iSup q) (name := "__init__") (he := hev _) ?_))
  have oC := X₁ _ _ hC
  refine ks_wpAt_super_base (env := callEnv (ksFn "__init__" qual (iA fld p1 p2) (iB fld msg q) (iS fld) .none kV doc pm an (.ref cda) ct cc) hp.objs.size fI) e4 e3 (by decide) rfl (X₁ _ _ ho) rfl rfl rfl (X₁ _ _ hcda) rfl hvs hfile T.htop ?_
  refine ks_loadName_global rfl e4 (loadGlobal_builtin (hG.keeps k) T.hsup (hB.keeps k) ((hbb _ (by decide +kernel)).trans (by first | boot_by_name | rfl | kernel_rfl)) ⟨rfl, ?_⟩)
  refine wpAny_loadName_free rfl e3 rfl ⟨_, X₁ _ _ hcc, rfl⟩ ?_
  refine wpAny_loadName_local rfl e2 hn mS ?_
  refine ks_wpAny_isType_cls oC rfl ⟨rfl, ?_⟩
  refine ks_wpAny_call_super oC rfl hx₁ rfl (fun c e => (nomatch e)) (looks_mroIn X₁ T.mroS) (fun h₂ hso k₂ => ?_)
  have X₂ : K.In h₂ := X₁.keeps k₂
  have hx₂ := k₂ _ _ hx₁
  have hsup : alongIn K "__init__" (((Value.ref C :: bm).dropWhile (· != .ref C)).drop 1) = some (some (.builtin "ValueError.__init__")) := by
    have z := T.sup
    unfold ks_superIn at z
    rw [hcl] at z
    exact z
  have I₂ : InstAt h₂ x (excO C t0) C none := ⟨hx₂, rfl, rfl, trivial⟩
  refine kxs_getMethod kxs_ValueError hso (looks_opaque X₂ T.opq) (l₀ := .ref C :: bm) ?_ rfl X₂ hsup (I₂.type.andThen (looks_subIn X₂ T.subV)) (ks_ne X₂ I₂ hcl) (by decide) ?_
  · exact fun A Q E s k q => wpAny_bind ((looks_clsIn X₂ hcl) A _ E s k (wpAny_pure q))
  have hu : (h₂.push (kxs_mw "ValueError.__init__" x)).get? h₂.objs.size = some (kxs_mw "ValueError.__init__" x) := Heap.get?_push_at rfl rfl
  have k₃ : ∀ b o, h₂.get? b = some o → (h₂.push (kxs_mw "ValueError.__init__" x)).get? b = some o := fun b o e => Heap.get?_push_of_some _ e
  have X₃ := X₂.keeps k₃
  have hn₃ : (h₂.push (kxs_mw "ValueError.__init__" x)).Ns hp.objs.size _ := (hn.keeps k₂).keeps k₃
  refine kxs_callWith (i := "ValueError.__init__") (x := x) rfl (evalArgs_plain ?_)
  show wpAny _ _ (spliced ((false, eval (iArg fld msg q) _) :: backTo q.h (starEach [] _))) _ _ _
  refine Calls.spliced_cons (told_ok hn₃ mF hr T.ml rfl e1 T.f4 fun u tk' => Calls.spliced_nil ⟨hu, ?_⟩)
  show wpAny _ _ (call (.ref h₂.objs.size) [u]) _ _ _
  refine call_mw (X₃ _ _ hC) (k₃ _ _ hx₂) hu (one_size _) fun h₄ t1 k₄ sz₄ hx₄ => ?_
  show wpAt _ _ _ (execs _ _) _ _ _
  refine wpAt_of_wpAny ?_
  have X₄ : K.In h₄ := kept_but X₃ hnx k₄
  have hn₄ : h₄.Ns hp.objs.size (fun x_1 => List.lookup x_1 (List.reverse [(("self" : Str), Value.ref x), (fld, v)])) := by
    obtain ⟨oL, es, ep, hL, r⟩ := hn₃
    exact ⟨oL, es, ep, k₄ _ _ hxL hL, r⟩
  refine wpAny_execs_cons (plainObj_wpAny_Assign_Attribute ?_)
  refine ESX.ldL hn₄ mF (ESX.ldL hn₄ mS ?_ rfl e2) rfl e1 T.f4
  refine set_plain X₄ (ox := excO C t1) (od := none) ⟨hx₄, rfl, rfl, trivial⟩ T.sa ?_
  refine exc_osa X₄ hx₄ hcl (show refsVE (.ref C :: bm) = true from hbm) rfl T.noN (fun h₅ tk₅ dx k₅ dn dne hx₅ hn₅ => ?_)
  show wpAny _ _ (execs _ _) _ _ _
  have z : hp.objs.size < h₄.objs.size := hn₄.lt
  exact wpAny_execs_nil (hq h₅ tk₅ dx ⟨fun b o hb e => k₅ b o hb (k₄ b o hb (k₃ b o (k₂ b o (k b o e)))), ⟨t1, hx₅⟩, Nat.le_of_lt (Nat.lt_of_lt_of_le z dn), dne, hn₅⟩)
end
section
variable {prog : Program} {w : World} {A : Around} {R : Result → Shared → Prop} {K : Frag} {mg mb : Str → Option Value} {nm fld msg : Str} {C fI : Addr}
theorem exc_made (T : ExTxt prog K mg nm fld msg C fI) {v : Value} {hp : Heap} {g : Array GenState} {dr : Drawn} {tk : Nat} {os : OsState} (X : K.In hp) (hlim : hp.NoLimit) (hG : hp.Ns mainGlobals mg) (hB : hp.Ns builtinsNs mb) (hbb : ∀ x : Str, x ≠ "__name__" → mb x = bootBuiltins x) (hroom : A.depth + 1 < recursionLimit) (hr : Rp v)
    (hq : ∀ h' tk' e d, OwnMade hp h' e C d fld v → R (.ok (.ret (.ref e))) ⟨h', g, dr, tk', os⟩) :
    codeAny (model prog w) A (.call (.ref C) ⟨[v], []⟩) R ⟨hp, g, dr, tk, os⟩ := by
  obtain ⟨nm', q', N, bs, bm, sn, sub, ab, col, dd, k0, k1, k2, k3, k5, hC, hbm⟩ := T.cls
  have k : ∀ b o, hp.get? b = some o → ((hp.push (kdv_tup [v])).push (excO C hp.objs.size)).get? b = some o := fun b o e => Heap.get?_push_of_some _ (Heap.get?_push_of_some _ e)
  have hget : ((hp.push (kdv_tup [v])).push (excO C hp.objs.size)).get? (hp.objs.size + 1) = some (excO C hp.objs.size) := by heap_get
  have hnx : K.lookup (hp.objs.size + 1) = none := by
    cases e : K.lookup (hp.objs.size + 1) with
    | none => rfl
    | some o =>
      have z : hp.get? (hp.objs.size + 1) = some o := X _ _ e
      exact absurd (Nat.lt_of_succ_lt (Heap.lt_size z)) (Nat.lt_irrefl _)
  refine call_own F.excBase_ValueError (fun X => refsVE_contains X bm hbm) (X _ _ hC) (looks_findIn X T.iC) (fun self => bind_fn X self T.tC) (one_size v) ?_
  refine exc_init (tk := tk) T (X.keeps k) (hlim.keeps k) (hG.keeps k) (hB.keeps k) hbb hget hnx ?_ hr fun h' tk' dx ⟨k', ⟨t1, hx⟩, dn, dne, hns⟩ => ?_
  · show A.depth + 1 < recursionLimit
    exact hroom
  · have old : ∀ b o, hp.get? b = some o → h'.get? b = some o := fun b o e => k' b o (Nat.ne_of_lt (Nat.lt_succ_of_lt (Heap.lt_size e))) (k b o e)
    have z : hp.objs.size + 1 + 1 ≤ dx := by
      first
        | (simpa only [Heap.size_push] using dn)
        | exact dn
        | (have q := dn; rw [Heap.size_push, Heap.size_push] at q; exact q)
    exact ⟨rfl, hq h' tk' (hp.objs.size + 1) dx ⟨old, Nat.le_succ _, ⟨_, _, hx, rfl, rfl, rfl, rfl⟩, Nat.le_trans (Nat.le_trans (Nat.le_succ _) (Nat.le_succ _)) z, dne, hns⟩⟩
end
end XExc
end PySem
namespace XL
open PySem PySem.Spec PyProof.Rows L2
/-! ### the error, over the abstract heap -/
def RpV (v : V) : Prop := (∃ y : Str, v = .str y ∧ (reprText y).length ≤ 100000) ∨ ∃ i : Int, v = .int i ∧ i.natAbs.log2 < 1920
theorem RpV.rp {v : V} {u : Value} (h : RpV v) (r : RelV v u) : PySem.XExc.Rp u := by
  rcases h with ⟨y, rfl, hz⟩ | ⟨i, rfl, hz⟩
  · obtain ⟨t, rfl⟩ := r
    exact .inl ⟨y, t, rfl, hz⟩
  · obtain ⟨t, rfl⟩ := r
    exact .inr ⟨i, t, rfl, hz⟩
theorem relO_one {fld : Str} {v : V} {v' : Value} (r : RelV v v') (f : Str) : RelO (List.lookup f [(fld, v)]) (if f = fld then some v' else none) := by
  by_cases hw : f = fld
  · subst hw
    rw [if_pos rfl]
    have q : List.lookup f [(f, v)] = some v := by simp [List.lookup]
    rw [q]
    exact r
  · rw [if_neg hw]
    have qw : (f == fld) = false := by simpa using hw
    have q2 : List.lookup f [(fld, v)] = none := by simp [List.lookup, qw]
    rw [q2]
    trivial
section
variable {X : Cx} {C fI : Addr} {nm fld msg : Str}
def tMkX (C : Addr) (fld : Str) (ta : TA) : L2.St → Hp → XK → Prop := fun σ H Q => ta σ H fun vs H1 => ∃ v, vs = [v] ∧ RpV v ∧ ∀ d, H1 d = none → Q (.ref C) (some d) (upd H1 d (.xd [(fld, v)]))
theorem pmk_x {a : Expr} {ta : TA} {p pos : Pos} {k : Nat} (T : PySem.XExc.ExTxt X.prog X.K X.mg nm fld msg C fI) (hr : Room (k + 1) X.A) (ha : PA X [a] ta) (hg : Gl X nm := by rfl) (hd : (nm == ("__debug__" : Str)) = false := by decide)
    (he : starEach (a :: []) X.env = (false, eval a X.env) :: starEach [] X.env := by rfl) (hpl : (backTo pos (starEach [] X.env)).any (·.1) = false := by rfl) :
    PMk X (.Call (.Name nm p) [a] [] pos) (tMkX C fld ta) := by
  intro pins s σ H Q I h
  refine wpAny_Call_Name_kw (ld_glob I hg T.gC ?_ hd)
  refine PySem.W.callWith_K (h₀ := X.base) I.ok.mod.kin T.kC (thn (ha.run pos pins s σ H _ I h) fun us s1 hh => ?_) he hpl
  obtain ⟨vs, H1, I1, r1, v, ev, rp, q1⟩ := hh
  subst ev
  refine ⟨I1.kIn, ?_⟩
  cases r1 with
  | cons rv rn =>
    rename_i v' us'
    cases rn
    show wpAny _ _ (call (.ref C) [v']) _ _ _
    have hlim := I1.nolimit
    have hG := I1.mod.glob.keeps I1.bk
    obtain ⟨mb, hB, hbb⟩ := I1.mod.blt
    have hB := hB.keeps I1.bk
    obtain ⟨hp, g, dr, tk, os⟩ := s1
    refine wpAny_call (PySem.XExc.exc_made T I1.kIn hlim hG hB hbb (by have := hr.dp; omega) (rp.rp rv) fun h' tk' e d M => ?_)
    show MkP X pins σ Q (.ref e) ⟨h', g, dr, tk', os⟩
    obtain ⟨oe, fv, hoe, hc, hd, hdat, h1⟩ := M.obj
    have hns := M.ns
    obtain ⟨G', g1, g2⟩ := restrict h' fun b => decide (b ≠ e)
    have gk : ∀ b, b ≠ e → G'.get? b = h'.get? b := fun b hb => g1 b (decide_eq_true hb)
    have ge : G'.get? e = none := g2 e (by simp)
    have old : ∀ b o, hp.get? b = some o → G'.get? b = some o := fun b o q => (gk b (Nat.ne_of_lt (Nat.lt_of_lt_of_le (Heap.lt_size q) M.new))).trans (M.keep b o q)
    have ob : ObjOk X.prog X.w (upd H1 d (.xd [(fld, v)])) G' d (.xd [(fld, v)]) :=
      ⟨_, hns.at (fun o q => (gk d M.dne).trans q), fun f => relO_one rv f⟩
    have J : Inv X pins σ (upd H1 d (.xd [(fld, v)])) ⟨G', g, dr, tk', os⟩ := I1.laid (t' := tk') old M.dbig ob
    refine ⟨e, oe, fv, ⟨G', g, dr, tk', os⟩, _, .ref C, some d, rfl, J, fun b o q => ?_, ge, hoe, ⟨hc, hd⟩, hdat, h1, ?_, rfl, I1.bare, raises_own T.exC T.tyC, q1 d (I1.hok.fresh M.dbig)⟩
    · by_cases hb : b = e
      · have q' : G'.get? b = some o := q
        rw [hb, ge] at q'; cases q'
      · exact (gk b hb).symm.trans q
    · rw [upd_ne (Ne.symm M.dne)]
      exact I1.hok.fresh M.new
def tRaiseX (C : Addr) (fld : Str) (W : WX) (ta : TA) : TS := fun _ σ H => tMkX C fld ta σ H fun cls d H' => W cls d σ H'
theorem ps_raiseX {a : Expr} {ta : TA} {W : WX} {p pos pos2 : Pos} {k : Nat} (hc : X.calm = true) (T : PySem.XExc.ExTxt X.prog X.K X.mg nm fld msg C fI) (hr : Room (k + 1) X.A) (tk : Takes X W) (ha : PA X [a] ta) (hg : Gl X nm := by rfl) (hd : (nm == ("__debug__" : Str)) = false := by decide)
    (he : starEach (a :: []) X.env = (false, eval a X.env) :: starEach [] X.env := by rfl) (hpl : (backTo pos (starEach [] X.env)).any (·.1) = false := by rfl) :
    PS X (.Raise (some (.Call (.Name nm p) [a] [] pos)) none pos2) (tRaiseX C fld W ta) := ps_raise hc tk (pmk_x T hr ha hg hd he hpl)
end
/-! ### isinstance(e, c), isinstance(e, (c, ..)) of a caught error -/
section
variable {X : Cx} {a : Addr} {oe : Obj} {cls : Value} {d : Option Addr} {pn : List (Addr × Obj)}
inductive ClsRs : List V → List Value → Prop where
  | nil : ClsRs [] []
  | cons {c : Addr} {cs : List V} {us : List Value} (h : ClsRs cs us) : ClsRs (.ref c :: cs) (.ref c :: us)
theorem ClsRs.eq : ∀ {cs : List V} {us : List Value}, ClsRs cs us → ∀ {ws : List Value}, Vals cs ws → ws = us
  | _, _, .nil, _, .nil => rfl
  | _, _, .cons h, _, .cons r rs => by
    cases r
    rw [h.eq rs]
def rIsX (K : PySem.W.Frag) (cls : Value) (d : Option Addr) (a : Addr) : List V → Hp → VK → Prop := fun xs H Q => ∃ (D dd : Addr) (fs : List (Str × V)) (b : Bool), cls = .ref D ∧ d = some dd ∧ H dd = some (.xd fs) ∧ ExcC K D ∧
  ((∃ (c : V) (cv : Value), xs = [.ref a, c] ∧ (∀ u, RelV c u → u = cv) ∧ PySem.W.kitOne K (.ref D) cv = some b) ∨ ∃ (p : Addr) (cs : List V) (us : List Value), xs = [.ref a, .ref p] ∧ H p = some (.tup cs) ∧ ClsRs cs us ∧ PySem.W.kitAny K (.ref D) us = some b) ∧ Q (.bl b) H
theorem call_isX (hz : Zc cls d oe) (hf : ∃ vs, oe.data = .fields vs) : CallR (X.suite a ((a, oe) :: pn)) (.builtin "isinstance") (rIsX X.K cls d a) := by
  intro pins s σ H xs us Q I r h
  obtain ⟨D, dd, fs, b, rfl, rfl, hd, C, hcs, q⟩ := h
  obtain ⟨hget, _⟩ := I.pin (a, oe) (List.mem_append.mpr (.inl List.mem_cons_self))
  obtain ⟨vs, hv⟩ := hf
  have hx : ObjOk X.prog X.w H s.heap dd (.xd fs) := I.hok dd _ hd
  obtain ⟨mA, hns, _⟩ := hx
  obtain ⟨od, ho, _⟩ := lookIn_ns hns
  have J : PySem.W.InstAt s.heap a oe D (some od) := ⟨hget, hz.1, by unfold PySem.W.notCls; rw [hv] <;> rfl, by rw [hz.2]; exact ho⟩
  have cl : (PySem.W.clsIn X.K D).isSome = true := by
    obtain ⟨cd, hc, _⟩ := PySem.W.any_some C.hd
    rw [hc]
    rfl
  have Z := PySem.W.kitx_exc (x := a) (ox := oe) (od := some od) cl C.hg C.hk C.hs C.ha C.hn C.ht C.hm
  rcases hcs with ⟨c, cv, rfl, hcv, e⟩ | ⟨p, cs, us2, rfl, hp, hc, e⟩
  · cases r with
    | cons rx rr =>
      cases rr with
      | cons rt rr =>
        cases rr
        cases rx
        have ec := hcv _ rt
        subst ec
        exact PySem.W.kia_one Z I.kIn J e (fun z => nomatch z) fun tk => ⟨.bl b, H, I.kept (t' := tk) fun _ _ z => z, rfl, q⟩
  · cases r with
    | cons rx rr =>
      cases rr with
      | cons rt rr =>
        cases rr
        cases rx
        cases rt
        obtain ⟨_, its, rv, o, h1, h2, n, h3⟩ := (show ObjOk X.prog X.w H s.heap p (.tup cs) from I.hok p _ hp)
        have ei := hc.eq rv
        subst ei
        obtain ⟨oc, od', oda, osl⟩ := o
        dsimp only at h2 h3
        subst h2 h3
        exact PySem.W.kia_tup Z I.kIn J h1 e (fun z => nomatch z) fun tk => ⟨.bl b, H, I.kept (t' := tk) fun _ _ z => z, rfl, q⟩
end
/-! ### own [ ] and [ ] = within a try -/
section
variable {X : Cx} {CX : CXT} {C f : Addr} {fd : FuncData} {ps : List Str} {sp : Sp} {E : L2.St → XK} {n : Nat} {o i e : Expr} {to ti te : TE} {pos pos' : Pos}
def tIxOS (C : Addr) (sp : Sp) (E : L2.St → XK) (to ti : TE) : TE := fun σ H Q => to σ H fun x H1 => ti σ H1 fun y H2 => ∃ a dx fs, x = .ref a ∧ H2 a = some (.ins C dx fs) ∧ sp [.ref a, y] H2 Q (E σ)
theorem pe_ixOS (ho : PE X o to) (hi : PE X i ti) (F : FnOk X.prog X.w X.K X.mg X.base CX n f fd ps sp) (hs : PySem.W.findIn X.K (.ref C) "__getitem__" = some (some (.ref f))) (hf : PySem.W.fnIn X.K f = true) (hfn : PySem.W.isFn X.K (.ref f) = true)
    (hb : Binds X.K fd ps []) (hx : ∀ σ, PassesAt CX X σ (E σ)) (hr : Room (n + 1) X.A) (hsl : ∀ x v, subscripted i true (.ref x) v = runValue (.builtin "lifetime.subscript" ⟨[.ref x, v], []⟩) := by intro _ _; with_unfolding_all rfl) :
    PE X (.Subscript o i pos) (tIxOS C sp E to ti) := by
  refine ⟨fun pins s σ H Q I h => ?_⟩
  refine Subscript_ (thn (ho.run pins s σ H _ I h) fun v s1 ⟨x, H1, I1, r1, q1⟩ => thn (hi.run pins s1 σ H1 _ I1 q1) fun u s2 ⟨y, H2, I2, r2, q2⟩ => ?_)
  obtain ⟨a, dx, fs, rfl, ha, hsp⟩ := q2
  cases r1
  obtain ⟨mA, J, _⟩ := ins_get I2.hok ha
  obtain ⟨od, J, _⟩ := J.look
  obtain ⟨m, hF⟩ := I2.fr
  refine PySem.W.sub_K hF I2.ok.mod.kin J hs hf hfn ?_ (hsl _ _)
  have hl : ([Value.ref a, u] ++ []).length = ps.length := F.len _ _ _ _ hsp
  refine wpAny_call (codeAny_mono (F.run X.A.in1 X.stack s2 H2 ⟨[.ref a, u], []⟩ [.ref a, u] [.ref a, y] Q (E σ) hr.in1 I2.env0.in1 (hb s2 [.ref a, u] I2.kIn hl) (.cons rfl (.cons r2 .nil)) hsp) fun r s' hq => ?_)
  cases r with
  | error e => exact hx σ pins H2 s2 e s' I2 hq
  | ok fl =>
    cases fl with
    | ret u => exact I2.after hq
    | next => exact False.elim hq
    | brk => exact False.elim hq
    | cont => exact False.elim hq
def gSubS (C : Addr) (sp : Sp) (E : L2.St → XK) (to ti : TE) : TG := fun v σ H Q => to σ H fun x H1 => ti σ H1 fun y H2 => ∃ a dx fs, x = .ref a ∧ H2 a = some (.ins C dx fs) ∧ sp [.ref a, y, v] H2 (fun _ H' => Q σ H') (E σ)
theorem pg_subOS (ho : PE X o to) (hi : PE X i ti) (F : FnOk X.prog X.w X.K X.mg X.base CX n f fd ps sp) (hq : PySem.W.noSeq X.K C = true) (hs : PySem.W.findIn X.K (.ref C) "__setitem__" = some (some (.ref f))) (hfn : PySem.W.isFn X.K (.ref f) = true)
    (hb : Binds X.K fd ps []) (hx : ∀ σ, PassesAt CX X σ (E σ)) (hr : Room n X.A)
    (ha : ∀ v, assign (.Subscript o i pos) X.env v = (do
      let ov ← holding [v] (eval o X.env)
      let iv ← holding [v, ov] (eval i X.env)
      standAt pos
      holding [v, ov, iv] (setItem ov iv v)
      release [v, ov, iv] []) := by intro _; rfl) : PG X (.Subscript o i pos) (gSubS C sp E to ti) := by
  refine ⟨fun pins s σ H v u Q I r h => ?_⟩
  rw [ha]
  refine wpAny_bind (wpAny_holding (thn (ho.run pins s σ H _ I h) fun ov s1 ⟨x, H1, I1, r1, q1⟩ => ?_))
  refine wpAny_bind (wpAny_holding (thn (hi.run pins s1 σ H1 _ I1 q1) fun iv s2 ⟨y, H2, I2, r2, q2⟩ => ?_))
  obtain ⟨a, dx, fs, rfl, ha2, hsp⟩ := q2
  cases r1
  obtain ⟨mA, J, _⟩ := ins_get I2.hok ha2
  obtain ⟨od, J, _⟩ := J.look
  obtain ⟨m, hF⟩ := I2.fr
  refine wpAny_bind (wpAny_standAt (wpAny_bind (wpAny_holding (PySem.W.ksp_setItem hF I2.ok.mod.kin J hq hs hfn ?_))))
  refine wpAny_mono (run_fnS (us := [.ref a, iv, u]) (vs := [.ref a, y, v]) (E := E) F hr hb (hx σ) I2 (.cons rfl (.cons r2 (.cons r .nil))) hsp) (fun r s' q => ?_) fun _ _ e => e
  obtain ⟨z, H', I', rz, q⟩ := q
  exact wpAny_release ⟨σ, H', I', q⟩
end
end XL
set_option Elab.async false
set_option linter.all false
set_option maxRecDepth 100000
set_option maxHeartbeats 4000000
/-! XOwnIt: list(o), o an object whose own __iter__ hands on iter(t), t a tuple. -/
namespace XL
open PySem PySem.Spec PyProof.Rows L2
/-- an iterator over the tuple at t, the next place is i -/
def ItT (t it : Addr) (i : Nat) : HO := .ext fun h => IsTupIter h it t i
/-- .. that has ended -/
def ItTE (it : Addr) : HO := .ext fun h => ∃ o, h.get? it = some o
theorem itT_ok {P : Program} {w : World} {H : Hp} {h : Heap} {t it : Addr} {i : Nat} (e : IsTupIter h it t i) : ObjOk P w H h it (ItT t it i) := by
  obtain ⟨o, h1, h2⟩ := e
  exact ⟨⟨o, h1, h2⟩, ⟨_, h1⟩, fun g1 g2 ⟨o', q1, q2⟩ k => ⟨o', k _ q1, q2⟩⟩
theorem itTE_ok {P : Program} {w : World} {H : Hp} {h : Heap} {it : Addr} {o : Obj} (e : h.get? it = some o) : ObjOk P w H h it (ItTE it) := ⟨⟨o, e⟩, ⟨_, e⟩, fun g1 g2 ⟨o', q1⟩ k => ⟨o', k _ q1⟩⟩
section
variable {X : Cx} {pins : List (Addr × Obj)} {σ : L2.St} {H : Hp} {s : Shared}
theorem itT_get {t it : Addr} {i : Nat} (I : Inv X pins σ H s) (e : H it = some (ItT t it i)) : IsTupIter s.heap it t i := (I.hok it _ e).1
theorem call_iter_tup {M : Program} {w : World} {A : Around} {E : Value → Shared → Prop} {s : Shared} {t : Addr} {items : Array Value} {Q : Value → Shared → Prop} (ht : IsTup s.heap t items)
    (h : Q (.ref s.heap.objs.size) { s with heap := s.heap.push { cls := .type "tuple_iterator", data := .fields #[.ref t, .int 0 0] } }) : wpAny (model M w) A (call (.builtin "iter") [.ref t]) Q E s := by
  refine Calls.call_function_entry (by decide +kernel) (by decide +kernel) PySem.W.kdk_entry_iter (PySem.W.kdk_args_iter _) ?_
  unfold Builtin.«iter»
  refine wpAny_bind (m := someArgs "iter" 1 2 _) (wpAny_of_eq (a := [Value.ref t]) (by first | rfl | kernel_rfl!) ?_)
  show wpAny _ _ (pyIter (.ref t) >>= _) _ _ _
  refine wpAny_bind (iter_tuple ht ?_)
  exact wpAny_pure ⟨_, rfl, h⟩
/-- iter(t) -/
def rIterT (K : PySem.W.Frag) : List V → Hp → VK → Prop := fun xs H Q => ∃ (t : Addr) (zs : List V), xs = [.ref t] ∧ SqT K H t zs ∧ ∀ it, H it = none → Q (.ref it) (upd H it (ItT t it 0))
theorem call_iterT : CallR X (.builtin "iter") (rIterT X.K) := by
  intro pins s σ H xs us Q I r h
  obtain ⟨t, zs, rfl, hq, q⟩ := h
  obtain rfl := Vals.ref1 r
  obtain ⟨its, rv, pl, hz⟩ := I.tuple hq
  refine call_iter_tup pl ?_
  exact ⟨.ref s.heap.objs.size, _, I.laid (t' := s.toks) (fun b u e => Heap.get?_push_of_some _ e) (Nat.le_refl _) (itT_ok ⟨_, Heap.get?_push_size _ rfl, rfl, rfl⟩), rfl, q _ (I.hok.fresh (Nat.le_refl _))⟩
theorem call_iterTK (K : PySem.W.Frag) (h : X.K = K := by rfl) : CallR X (.builtin "iter") (rIterT K) := h ▸ call_iterT
theorem sqT_upd {K : PySem.W.Frag} {H : Hp} {t x : Addr} {zs : List V} {o : HO} (h : SqT K H t zs) (hx : ∀ o' xs, H x ≠ some (.tup xs) ∧ H x ≠ some (.frz o' (.tup xs))) : SqT K (upd H x o) t zs := by
  rcases h with (h | ⟨ob, h⟩) | h
  · have ne : t ≠ x := fun z => (hx default zs).1 (by rw [← z]; exact h)
    exact .inl (.inl (by rw [upd_ne ne]; exact h))
  · have ne : t ≠ x := fun z => (hx ob zs).2 (by rw [← z]; exact h)
    exact .inl (.inr ⟨ob, by rw [upd_ne ne]; exact h⟩)
  · exact .inr h
/-- the end of a tuple: the iterator itself stays there -/
theorem next_tup_end {P : Program} {w : World} {A : Around} {E : Value → Shared → Prop} {s : Shared} {it t : Addr} {i : Nat} {items : Array Value} {Q : Option Value → Shared → Prop} (hh : A.handled = none)
    (hit : IsTupIter s.heap it t i) (ht : IsTup s.heap t items) (hx : items[i]? = none)
    (hQ : ∀ h', Heap.ExtBut it s.heap h' → (∃ o, h'.get? it = some o) → Q none { s with heap := h' }) : wpAny (model P w) A (pyNext (.ref it)) Q E s := by
  obtain ⟨o, ho, hc, hd⟩ := id hit
  obtain ⟨ol, hol, _, nl, hdl⟩ := ht
  unfold pyNext
  refine wpAny_bind (wpAny_attempt (wpAny_callSpecial?_slot (name := Str.ofString "__next__") hit.typeIs slot_tupleiter_next (wpAny_call_entry slot_tupleiter_next hit.typeIs entry_tupleiter_next ?_ (args_tupleiter_next _))))
  show wpAny _ _ (field (.ref it) 0 >>= _) _ _ s
  refine wpAny_bind (wpAny_field ho hd (x := .ref t) rfl (PySem.W.KFB.if_not rfl ?_))
  show wpAny _ _ (field (.ref it) 1 >>= _) _ _ s
  refine wpAny_bind (wpAny_field ho hd (x := .int i 0) rfl ?_)
  show wpAny _ _ (seqItems? (.ref t) >>= _) _ _ s
  refine wpAny_bind (wpAny_seqItems hol hdl ?_)
  simp only [Int.toNat_natCast, hx]
  refine wpAny_bind (wpAny_rule (wpAny_bind (wpAny_setField ho hd (by simp) ?_)))
  show wpAny _ _ (newExc (.type "StopIteration") [] >>= _) _ _ _
  refine wpAny_bind ?_
  simp only [newExc, newTuple]
  refine wpAny_bind (wpAny_newObj_type ?_ (by size_fits))
  refine wpAny_bind (m := firstArgMember _ _) (wpAny_of_eq (a := Value.none) (by first | rfl | (simp only [firstArgMember]; rfl)) ?_)
  refine wpAny_newObj_type ?_ (by size_fits)
  simp only [raiseNew]
  refine wpAny_bind (wpAny_handled ?_)
  first | rw [show A.in1.handled = none from hh] | rw [hh]
  refine wpAny_bind (wpAny_pure (wpAny_throw ?_))
  refine wpAny_bind (wpAny_isInstance (T := "StopIteration") (b := true) ⟨_, Heap.get?_push_size _ rfl, rfl⟩ isSubtype_stop ?_)
  exact wpAny_pure (hQ _ (((Heap.SameBut.update ..).extBut.push _).push _) ⟨_, Heap.get?_push_of_some _ (Heap.get?_push_of_some _ (Heap.get?_update_self _ ho (Obj.isFreed_of_fields (Obj.data_mapFields hd _))))⟩)
/-- the loop that fills the list at q -/
theorem loop_tup {A1 : Around} {Rs : Result → Shared → Prop} {q it t : Addr} {zs : List V} (hd : A1.in1.handled = none) (hne : q ≠ it) :
    ∀ (k i : Nat) (H : Hp) (s : Shared), zs.length - i = k → i ≤ zs.length → Inv X pins σ H s → H it = some (ItT t it i) → SqT X.K H t zs → H q = some (.lst (zs.take i)) →
      (∀ s', Inv X pins σ (upd (upd H it (ItTE it)) q (.lst zs)) s' → Rs (.ok (.ret .none)) s') → codeAny (model X.prog X.w) A1 (.builtin "list.extend.loop" ⟨[.ref q, .ref it, .none], []⟩) Rs s := by
  intro k
  induction k with
  | zero =>
    intro i H s hk hi I hit ht hq hR
    obtain ⟨its, rv, pl, hz⟩ := I.tuple ht
    have hin : zs.length = its.length := rv.length
    have mu : Mut (H it) := by rw [hit]; exact True.intro
    refine codeAny_builtin PySem.F.entry_extend_loop ?_
    rw [Around.under_plainId PySem.F.plain_extend_loop _]
    show wpAny _ A1.in1 (pyNext (.ref it) >>= _) _ _ s
    have ei : i = zs.length := by omega
    refine wpAny_bind (next_tup_end hd (itT_get I hit) pl (by rw [List.getElem?_toArray]; exact List.getElem?_eq_none (by omega)) fun h' eb ⟨o, ho⟩ => wpAny_pure ?_)
    have I2 : Inv X pins σ (upd H it (ItTE it)) { s with heap := h' } := I.write (x := it) (e := it) (t' := s.toks) mu (.inl rfl) (fun b o nb z => eb b o nb z) ⟨_, ho⟩ (itTE_ok ho)
    refine hR _ ?_
    have e : upd (upd H it (ItTE it)) q (.lst zs) = upd H it (ItTE it) := by
      funext b
      by_cases hb : b = q
      · rw [hb, upd_same, upd_ne hne, hq, ei, List.take_length]
      · rw [upd_ne hb]
    rw [e]
    exact I2
  | succ k ih =>
    intro i H s hk hi I hit ht hq hR
    obtain ⟨its, rv, pl, hz⟩ := I.tuple ht
    have hin : zs.length = its.length := rv.length
    have mu : Mut (H it) := by rw [hit]; exact True.intro
    have hlt : i < zs.length := by omega
    have hzi := List.getElem?_eq_getElem hlt
    obtain ⟨u, hu, ru⟩ := rv.get hzi
    refine codeAny_builtin PySem.F.entry_extend_loop ?_
    rw [Around.under_plainId PySem.F.plain_extend_loop _]
    show wpAny _ A1.in1 (pyNext (.ref it) >>= _) _ _ s
    refine wpAny_bind (next_tuple_item (itT_get I hit) pl (by rw [List.getElem?_toArray]; exact hu) fun h' hit' sb => ?_)
    obtain ⟨o, ho, _⟩ := id hit'
    have I2 : Inv X pins σ (upd H it (ItT t it (i + 1))) { s with heap := h' } := I.write (x := it) (e := it) (t' := s.toks) mu (.inl rfl) (fun b o nb z => (sb.2 b nb).trans z) ⟨_, ho⟩ (itT_ok hit')
    have hq2 : upd H it (ItT t it (i + 1)) q = some (.lst (zs.take i)) := by rw [upd_ne hne]; exact hq
    show wpAny _ A1.in1 (updateSeq q (·.push u) >>= _) _ _ _
    obtain ⟨z, its2, c, r2, hl, e⟩ := I2.lstM hq2
    have l2 : its2.length ≤ 16777215 := by
      rw [← hl, List.length_take]
      have := hz
      rw [sizeLine_eq] at this
      omega
    refine wpAny_bind (wpAny_updateSeq e rfl (wpAny_pure ⟨plainId_quiet PySem.F.plain_extend_loop _, ?_⟩) (by rw [List.size_toArray, sizeLine_eq]; omega) (by show (its2.toArray.push u).size ≤ sizeLine + 1; rw [Array.size_push, List.size_toArray, sizeLine_eq]; omega))
    have I3 := I2.lset (f := (·.push u)) (its' := its2 ++ [u]) (ys := zs.take i ++ [zs[i]]) (t' := s.toks) hq2 e (by simp) (r2.append (.cons ru .nil)) (by rw [List.length_append, List.length_singleton, List.length_take, sizeLine_eq]; rw [sizeLine_eq] at hz; omega)
    refine ih (i + 1) _ _ (by omega) (by omega) I3 ?_ ?_ ?_ fun s' I4 => hR s' ?_
    · rw [upd_ne (Ne.symm hne), upd_same]
    · exact sqT_upd (sqT_upd ht fun o' xs => ⟨by rw [hit]; exact fun z => (nomatch z), by rw [hit]; exact fun z => (nomatch z)⟩) fun o' xs => ⟨by rw [hq2]; exact fun z => (nomatch z), by rw [hq2]; exact fun z => (nomatch z)⟩
    · rw [upd_same, take_snoc hzi]
    · have e4 : upd (upd (upd (upd H it (ItT t it (i + 1))) q (.lst (zs.take i ++ [zs[i]]))) it (ItTE it)) q (.lst zs) = upd (upd H it (ItTE it)) q (.lst zs) := by
        funext b
        by_cases hb : b = q
        · rw [hb, upd_same, upd_same]
        · rw [upd_ne hb, upd_ne hb]
          by_cases hb2 : b = it
          · rw [hb2, upd_same, upd_same]
          · rw [upd_ne hb2, upd_ne hb2, upd_ne hb, upd_ne hb2]
      rw [← e4]
      exact I4
/-- list(o) -/
def rListIt (K : PySem.W.Frag) (C : Addr) (sp : Sp) (E : XK) : List V → Hp → VK → Prop := fun xs H Q => ∃ a dx fs, xs = [.ref a] ∧ H a = some (.ins C dx fs) ∧
  ∀ q, H q = none → sp [.ref a] (upd H q (.lst [])) (fun v H1 => ∃ (it t : Addr) (zs : List V), v = .ref it ∧ H1 it = some (ItT t it 0) ∧ SqT K H1 t zs ∧ H1 q = some (.lst []) ∧ (∃ dx' fs', H1 a = some (.ins C dx' fs')) ∧ Q (.ref q) (upd (upd H1 it (ItTE it)) q (.lst zs))) E
theorem hint_own {M : Model} {A : Around} {E : Value → Shared → Prop} {s : Shared} {Q : Bool → Shared → Prop} {K : PySem.W.Frag} {C a : Addr} {ox : Obj} {od : Option Obj} (h1 : PySem.W.findIn K (.ref C) "__len__" = some none) (h2 : PySem.W.findIn K (.ref C) "__length_hint__" = some none)
    (hK : K.In s.heap) (J : PySem.W.InstAt s.heap a ox C od) (h : Q true s) : wpAny M A (Builtin.List.listLengthHint (.ref a)) Q E s := by
  unfold Builtin.List.listLengthHint
  refine wpAny_bind (wpAny_bind (J.type.here ((PySem.W.looks_findIn hK h1).here (PySem.W.KFB.if_not rfl (PySem.W.KFB.if_not rfl ?_)))))
  exact wpAny_bind (wpAny_bind (J.type.here ((PySem.W.looks_findIn hK h2).here (wpAny_pure h))))
theorem call_listIt {C f : Addr} {fd : FuncData} {ps : List Str} {sp : Sp} {E : XK} {n : Nat} {CX : CXT} (hs : PySem.W.findIn X.K (.ref C) "__iter__" = some (some (.ref f))) (hfn : PySem.W.isFn X.K (.ref f) = true) (n1 : PySem.W.findIn X.K (.ref C) "__len__" = some none) (n2 : PySem.W.findIn X.K (.ref C) "__length_hint__" = some none)
    (F : FnOk X.prog X.w X.K X.mg X.base CX n f fd ps sp) (hb : Binds X.K fd ps []) (hx : Passes CX X E) (hr : Room (n + 2) X.A) : CallR X (.type "list") (rListIt X.K C sp E) := by
  intro pins s σ H xs us Q I rv h
  obtain ⟨a, dx, fs, rfl, ha, hq⟩ := h
  obtain ⟨u, rfl, ru⟩ := rv.one
  cases ru
  have sb : Sub X n X.A.in1.in1 := (Sub.in1 (Sub.in1 (⟨hr, rfl⟩ : Sub X (n + 2) X.A)))
  refine callType_codes (Q₁ := fun obj s₁ => obj = .ref s.heap.objs.size ∧ s₁ = { s with heap := s.heap.push { cls := .type "list", data := .seq #[] } }) PySem.F.called_list (PySem.F.typeCall_list_1 _) PySem.F.entry_list_init
    (code_list_new _ ⟨rfl, rfl⟩) fun obj s₁ h₁ => ?_
  obtain ⟨rfl, rfl⟩ := h₁
  have hS : (s.heap.push { cls := .type "list", data := .seq #[] }).get? s.heap.objs.size = some { cls := .type "list", data := .seq #[] } := Heap.get?_push_size _ rfl
  refine ⟨⟨_, hS, rfl⟩, PySem.F.args_list_init_2 _ _, ?_⟩
  have fr : H s.heap.objs.size = none := I.hok.fresh (Nat.le_refl _)
  have hsp := hq _ fr
  have I1 : Inv X pins σ (upd H s.heap.objs.size (.lst [])) { s with heap := s.heap.push { cls := .type "list", data := .seq #[] } } := I.lnew (its := []) (t' := s.toks) .nil (Nat.zero_le _)
  show wpAny _ _ (do let old ← Builtin.List.listItems (.ref s.heap.objs.size); Builtin.List.listUpdate (.ref s.heap.objs.size) (fun _ => #[]); letGo old.toList.reverse; Builtin.List.listExtendWith (.ref s.heap.objs.size) (.ref a) .none) _ _ _
  refine wpAny_bind ?_
  unfold Builtin.List.listItems
  refine wpAny_bind (wpAny_seqItems hS rfl (wpAny_pure ?_))
  show wpAny _ _ (updateSeq s.heap.objs.size (fun _ => #[]) >>= fun _ => letGo (#[] : Array Value).toList.reverse >>= fun _ => Builtin.List.listExtendWith (.ref s.heap.objs.size) (.ref a) .none) _ _ _
  refine wpAny_bind (wpAny_updateSeq hS rfl ?_)
  have I2 := I1.lset (f := fun _ => #[]) (its := []) (its' := []) (ys := []) (t' := s.toks) upd_same hS rfl .nil (Nat.zero_le _)
  rw [upd_upd] at I2
  refine wpAny_bind (wpAny_letGo ?_)
  have ha2 : upd H s.heap.objs.size (.lst []) a = some (.ins C dx fs) := by rw [upd_ne (ne_of_none ha fr)]; exact ha
  have hne : s.heap.objs.size ≠ a := Ne.symm (ne_of_none ha fr)
  generalize hH2 : upd H s.heap.objs.size (.lst []) = H2 at *
  generalize s.heap.objs.size = q at *
  obtain ⟨mA, J, _⟩ := ins_get I2.hok ha2
  obtain ⟨od, J, _⟩ := J.look
  obtain ⟨m0, hF⟩ := I2.fr
  unfold Builtin.List.listExtendWith
  refine wpAny_bind (J.type.here ?_)
  have h1 : Builtin.List.listSameRef (.ref q) (.ref a) = false := by simp [Builtin.List.listSameRef, hne]
  have h2 : (Value.ref C == Value.type "list") = false := rfl
  have h3 : (Value.ref C == Value.type "tuple") = false := rfl
  simp only [h1, h2, h3, Bool.or_false, Bool.false_eq_true, if_false]
  refine wpAny_bind (PySem.W.owit_iter hF I2.ok.mod.kin J hs hfn ?_)
  have e0 : ∀ {s : Shared} {H : Hp}, Inv X pins σ H s → Env0 X.prog X.w X.K X.mg X.base X.A.in1.in1 X.stack s H := fun {s H} I => by
    have e := I.env0
    exact ⟨by rw [sb.fr]; exact e.frames, e.mod, e.bs, e.bsz, e.funs, e.frf, e.hok, e.bare⟩
  have hl := F.len _ _ _ _ hsp
  have r2 : Vals [V.ref a] [Value.ref a] := .cons rfl .nil
  refine wpAny_call (codeAny_mono (F.run X.A.in1.in1 X.stack _ _ ⟨[.ref a], []⟩ [.ref a] [.ref a] _ E sb.room (e0 I2) (by
    have := hb _ [.ref a] I2.kIn (by simpa using hl)
    simpa using this) r2 hsp) fun r s' hq' => ?_)
  cases r with
  | error e => exact hx pins σ _ _ e s' I2 hq'
  | ok fl =>
    cases fl with
    | next => exact False.elim hq'
    | brk => exact False.elim hq'
    | cont => exact False.elim hq'
    | ret u =>
      obtain ⟨v, H', I', rv, it, t, zs, ev, hit, ht, hqq, ⟨dx', fs', ha'⟩, hQ⟩ := I2.after hq'
      subst ev
      cases rv
      have hT : s'.TypeIs (.ref it) "tuple_iterator" := (itT_get I' hit).typeIs
      have hqi : q ≠ it := fun z => by
        rw [z, hit] at hqq
        exact (nomatch hqq)
      show wpAny _ _ (specialOf (.ref it) "__next__") _ _ _
      refine wpAny_specialOf hT slot_tupleiter_next.lookup ?_
      obtain ⟨mA', J', _⟩ := ins_get I'.hok ha'
      obtain ⟨od', J', _⟩ := J'.look
      refine wpAny_bind (wpAny_holding (hint_own n1 n2 I'.kIn J' ?_))
      have go : ∀ s'', Inv X pins σ H' s'' → codeAny (model X.prog X.w) X.A.in1 (.builtin "list.extend.loop" ⟨[.ref q, .ref it, .none], []⟩) (wants (fun r s₂ => r = .none ∧ EP X pins σ Q (.ref q) s₂) X.xe) s'' := fun s'' I'' =>
        loop_tup (t := t) (zs := zs) sb.room.hd hqi zs.length 0 H' s'' (by simp) (Nat.zero_le _) I'' hit ht (by rw [hqq]; rfl) fun s3 I3 => ⟨rfl, .ref q, _, I3, rfl, hQ⟩
      obtain ⟨z, its, k, r3, hl3, e3⟩ := I'.lstM hqq
      cases r3
      refine wpAny_ite_split (fun _ => ?_) (fun _ => wpAny_pure ⟨plainId_quiet PySem.F.plain_extend_loop _, go s' I'⟩)
      refine wpAny_bind (wpAny_rule ?_)
      refine wpAny_bind ?_
      show wpAny _ _ (updateSeq q (·.push .none) >>= fun _ => updateSeq q (·.pop)) _ _ _
      refine wpAny_bind (wpAny_updateSeq e3 rfl ?_)
      have I3 := I'.lset (f := (·.push Value.none)) (its' := [Value.none]) (ys := [.non]) (t' := s'.toks) hqq e3 (by simp) (.cons rfl .nil) (by rw [List.length_singleton, sizeLine_eq]; decide)
      obtain ⟨z4, its4, k4, r4, hl4, e4⟩ := I3.lstM upd_same
      obtain ⟨u4, rfl, ru4⟩ := r4.one
      refine wpAny_updateSeq e4 rfl ?_ (by show 1 ≤ sizeLine; rw [sizeLine_eq]; decide) (by show 0 ≤ sizeLine + 1; exact Nat.zero_le _)
      have I4 := I3.lset (f := (·.pop)) (its := [u4]) (its' := []) (ys := []) (t' := s'.toks) upd_same e4 (by rfl) .nil (Nat.zero_le _)
      rw [upd_upd] at I4
      have hH : upd H' q (.lst []) = H' := by
        funext b
        by_cases hb : b = q
        · rw [hb, upd_same, hqq]
        · rw [upd_ne hb]
      rw [hH] at I4
      exact wpAny_pure ⟨plainId_quiet PySem.F.plain_extend_loop _, go _ I4⟩
end
end XL
set_option Elab.async false
set_option linter.all false
set_option maxRecDepth 100000
set_option maxHeartbeats 4000000
/-! XOr: two rules for one piece of text; what classes say of an own error. -/
namespace XL
open PySem PySem.Spec PyProof.Rows L2
section
variable {X : Cx}
theorem pe_or {e : Expr} {t u : TE} (h : PE X e t) (k : PE X e u) : PE X e (fun σ H Q => t σ H Q ∨ u σ H Q) := ⟨fun pins s σ H Q I q => q.elim (h.run pins s σ H Q I) (k.run pins s σ H Q I)⟩
theorem pg_or {e : Expr} {t u : TG} (h : PG X e t) (k : PG X e u) : PG X e (fun v σ H Q => t v σ H Q ∨ u v σ H Q) := ⟨fun pins s σ H v w Q I r q => q.elim (h.run pins s σ H v w Q I r) (k.run pins s σ H v w Q I r)⟩
theorem cr_or {f : Value} {t u : List V → Hp → VK → Prop} (h : CallR X f t) (k : CallR X f u) : CallR X f (fun xs H Q => t xs H Q ∨ u xs H Q) := fun pins s σ H xs us Q I r q => q.elim (h pins s σ H xs us Q I r) (k pins s σ H xs us Q I r)
end
section
variable {P : Program} {w : World} {K : PySem.W.Frag} {mg : Str → Option Value} {base : Heap} {CX : CXT} {k : Nat} {f : Addr} {fd : FuncData} {ps : List Str} {sp sq : Sp}
theorem fn_or (h : FnOk P w K mg base CX k f fd ps sp) (h2 : FnOk P w K mg base CX k f fd ps sq) : FnOk P w K mg base CX k f fd ps (fun vs H Q E => sp vs H Q E ∨ sq vs H Q E) :=
  ⟨fun vs H Q E q => q.elim (h.len vs H Q E) (h2.len vs H Q E), fun A outer s H args us vs Q E hr he hb hv q => q.elim (h.run A outer s H args us vs Q E hr he hb hv) (h2.run A outer s H args us vs Q E hr he hb hv)⟩
end
theorem kit_of {K : PySem.W.Frag} {D C : Addr} {b : Bool} (hne : (Value.ref D == Value.ref C) = false) (h2 : PySem.W.isClsIn K C = true) (h3 : PySem.W.typeIn K (.ref C) = some (.type "type")) (h4 : PySem.W.subIn K (.ref D) (.ref C) = some b) : PySem.W.kitOne K (.ref D) (.ref C) = some b := by
  have e2 : ((PySem.W.clsIn K C).isSome && PySem.W.typeIn K (.ref C) == some (.type "type")) = true := by
    have h2' : (PySem.W.clsIn K C).isSome = true := h2
    rw [h2', h3]
    rfl
  show (if (Value.ref D == Value.ref C) = true then some true else (if ((PySem.W.clsIn K C).isSome && PySem.W.typeIn K (.ref C) == some (.type "type")) = true then PySem.W.subIn K (.ref D) (.ref C) else none)) = some b
  rw [if_neg (by rw [hne]; decide), if_pos e2]
  exact h4
theorem exm_of {K : PySem.W.Frag} {S : Addr} {cls : Value} {b : Bool} (h1 : PySem.W.subIn K (.ref S) (.type "BaseException") = some true) (h2 : PySem.W.isClsIn K S = true) (h3 : PySem.W.typeIn K (.ref S) = some (.type "type")) (h4 : PySem.W.subIn K cls (.ref S) = some b) : PySem.W.exmOne K cls (.ref S) = some b := by
  have e1 : (PySem.W.subIn K (.ref S) (.type "BaseException") == some true) = true := by rw [h1] <;> rfl
  have e2 : ((PySem.W.clsIn K S).isSome && PySem.W.typeIn K (.ref S) == some (.type "type")) = true := by
    have h2' : (PySem.W.clsIn K S).isSome = true := h2
    rw [h2', h3] <;> rfl
  show (if (PySem.W.subIn K (.ref S) (.type "BaseException") == some true) = true then (if ((PySem.W.clsIn K S).isSome && PySem.W.typeIn K (.ref S) == some (.type "type")) = true then PySem.W.subIn K cls (.ref S) else none) else none) = some b
  rw [if_pos e1, if_pos e2]
  exact h4
end XL
set_option Elab.async false
set_option linter.all false
set_option maxRecDepth 100000
set_option maxHeartbeats 4000000
/-! XTxt: texts of small letters; a name that is not used. -/
namespace XL
open PySem PySem.Spec PyProof.Rows L2
def LS : Str := "abcdefghijklmnopqrstuvwxyz"
structure Lt (a b : Nat) (z : Str) : Prop where
  lo : a ≤ z.length
  hi : z.length ≤ b
  ch : ∀ c ∈ z.cps.toList, c ∈ LS.cps.toList
theorem len_tl (z : Str) : z.length = z.cps.toList.length := by
  show z.cps.size = _
  rw [Array.length_toList]
theorem Lt.one {c : Nat} (h : c ∈ LS.cps.toList) : Lt 1 1 ⟨#[c]⟩ := ⟨Nat.le_refl _, Nat.le_refl _, fun d hd => by
  have : d = c := by simpa using hd
  rw [this]
  exact h⟩
theorem Lt.wide {a b a' b' : Nat} {z : Str} (h : Lt a b z) (h1 : a' ≤ a) (h2 : b ≤ b') : Lt a' b' z := ⟨Nat.le_trans h1 h.lo, Nat.le_trans h.hi h2, h.ch⟩
theorem app_len (x y : Str) : (x ++ y).length = x.length + y.length := Str.length_append x y
theorem app_tl (x y : Str) : (x ++ y).cps.toList = x.cps.toList ++ y.cps.toList := by
  rw [Str.cps_append]
  simp
theorem Lt.app {a b c d : Nat} {x y : Str} (h : Lt a b x) (k : Lt c d y) : Lt (a + c) (b + d) (x ++ y) := by
  have h1 := h.lo; have h2 := h.hi; have h3 := k.lo; have h4 := k.hi
  refine ⟨by rw [app_len]; omega, by rw [app_len]; omega, fun e he => ?_⟩
  rw [app_tl] at he
  rcases List.mem_append.mp he with z | z
  · exact h.ch e z
  · exact k.ch e z
theorem cut_mem {z : Str} {lo hi : Option Int} {c : Nat} (h : c ∈ (cutS z lo hi).cps.toList) : c ∈ z.cps.toList := by
  have h2 : c ∈ (z.cps.toList.drop (HT.sIx z.length 0 lo)).take (HT.sIx z.length z.length hi - HT.sIx z.length 0 lo) := by simpa [cutS] using h
  exact List.mem_of_mem_drop (List.mem_of_mem_take h2)
theorem cut_to_len (z : Str) (k : Nat) : (cutS z none (some (k : Int))).length = min k z.length := by
  rw [len_tl]
  show ((z.cps.toList.drop (HT.sIx z.length 0 none)).take (HT.sIx z.length z.length (some (k : Int)) - HT.sIx z.length 0 none)).toArray.toList.length = _
  rw [HT.sIx_nat, HT.sIx_none]
  rw [Nat.sub_zero, List.drop_zero, List.length_take, ← len_tl]
  omega
theorem cut_from_len (z : Str) (k : Nat) (h : k ≤ z.length) : (cutS z (some (k : Int)) none).length = z.length - k := by
  rw [len_tl]
  show ((z.cps.toList.drop (HT.sIx z.length 0 (some (k : Int)))).take (HT.sIx z.length z.length none - HT.sIx z.length 0 (some (k : Int)))).toArray.toList.length = _
  rw [HT.sIx_nat, HT.sIx_none, List.length_take, List.length_drop, ← len_tl]
  omega
theorem Lt.to {a b : Nat} {z : Str} (h : Lt a b z) (k : Nat) : Lt (min k a) (min k b) (cutS z none (some (k : Int))) := by
  have h1 := h.lo; have h2 := h.hi
  exact ⟨by rw [cut_to_len]; omega, by rw [cut_to_len]; omega, fun c hc => h.ch c (cut_mem hc)⟩
theorem joinL_nil : ∀ ps : List (List Nat), TL.joinL [] ps = ps.flatten
  | [] => rfl
  | [p] => by simp [TL.joinL]
  | p :: q :: r => by
    show p ++ ([] ++ TL.joinL [] (q :: r)) = _
    rw [joinL_nil (q :: r)]
    simp
theorem Lt.join {ys : List Str} (h : ∀ y ∈ ys, Lt 1 1 y) : Lt ys.length ys.length (Txt.join "" ys) := by
  have e : (Txt.join "" ys).cps.toList = (ys.map fun y => y.cps.toList).flatten := by
    rw [TL.join_eq]
    exact (TL.tl_join "" ys).trans (joinL_nil _)
  have el : ∀ {ys : List Str}, (∀ y ∈ ys, Lt 1 1 y) → ((ys.map fun y => y.cps.toList).flatten).length = ys.length := by
    intro ys
    induction ys with
    | nil => intro _; rfl
    | cons y r ih =>
      intro h
      have h1 := h y List.mem_cons_self
      have z := ih fun y hy => h y (List.mem_cons_of_mem _ hy)
      have l1 := h1.lo; have l2 := h1.hi
      rw [len_tl] at l1 l2
      rw [List.map_cons, List.flatten_cons, List.length_append, z, List.length_cons]
      omega
  have l := el h
  refine ⟨by rw [len_tl, e, l]; exact Nat.le_refl _, by rw [len_tl, e, l]; exact Nat.le_refl _, fun c hc => ?_⟩
  rw [e] at hc
  obtain ⟨p, hp, hcp⟩ := List.mem_flatten.mp hc
  obtain ⟨y, hy, rfl⟩ := List.mem_map.mp hp
  exact (h y hy).ch c hcp
theorem sum_ones : ∀ {ys : List Str}, (∀ y ∈ ys, Lt 1 1 y) → (ys.map (·.length)).sum = ys.length
  | [], _ => rfl
  | y :: r, h => by
    have h1 := h y List.mem_cons_self
    have z := sum_ones fun y hy => h y (List.mem_cons_of_mem _ hy)
    have l1 := h1.lo; have l2 := h1.hi
    rw [List.map_cons, List.sum_cons, z, List.length_cons]
    omega
/-! ### one that is not used -/
theorem nd_sub {α : Type} [DecidableEq α] : ∀ {xs ys : List α}, xs.Nodup → (∀ x ∈ xs, x ∈ ys) → xs.length ≤ ys.length
  | [], _, _, _ => Nat.zero_le _
  | x :: r, ys, nd, h => by
    have hx := h x List.mem_cons_self
    have nd' := List.nodup_cons.mp nd
    have z := nd_sub (ys := ys.erase x) nd'.2 fun y hy => (List.mem_erase_of_ne (fun e : y = x => nd'.1 (by rw [← e]; exact hy))).mpr (h y (List.mem_cons_of_mem _ hy))
    rw [List.length_erase_of_mem hx] at z
    have : 0 < ys.length := List.length_pos_of_mem hx
    rw [List.length_cons]
    omega
def letter (k : Nat) : Nat := LS.cps.toList.getD k 0
theorem letter_at {k : Nat} (h : k < 26) : LS.cps.toList[k]? = some (letter k) := by
  have z : ∀ j : Nat, j < 26 → LS.cps.toList[j]? = some (letter j) := by decide +kernel
  exact z k h
theorem letter_inj {i j : Nat} (hi : i < 26) (hj : j < 26) (h : letter i = letter j) : i = j := by
  have z : ∀ i : Nat, i < 26 → ∀ j : Nat, j < 26 → letter i = letter j → i = j := by decide +kernel
  exact z i hi j hj h
def tail2 (k : Nat) : Str := (⟨#[letter (k / 26)]⟩ : Str) ++ ⟨#[letter (k % 26)]⟩
theorem tail2_inj {p : Str} {i j : Nat} (hi : i < 676) (hj : j < 676) (h : p ++ tail2 i = p ++ tail2 j) : i = j := by
  have e := congrArg (fun z : Str => z.cps.toList) h
  simp only [app_tl, tail2] at e
  have e2 := List.append_cancel_left e
  have e3 : [letter (i / 26), letter (i % 26)] = [letter (j / 26), letter (j % 26)] := by simpa using e2
  injection e3 with h1 h2
  injection h2 with h2 _
  have a := letter_inj (by omega) (by omega) h1
  have b := letter_inj (by omega) (by omega) h2
  omega
theorem tail2_lt {k : Nat} (h : k < 676) : Lt 2 2 (tail2 k) :=
  (Lt.one (List.mem_of_getElem? (letter_at (by omega)))).app (Lt.one (List.mem_of_getElem? (letter_at (by omega))))
theorem unused (p : Str) (us : List Str) (h : us.length < 676) : ∃ k, k < 676 ∧ p ++ tail2 k ∉ us := by
  apply Classical.byContradiction
  intro no
  have all : ∀ z ∈ (List.range 676).map (fun k => p ++ tail2 k), z ∈ us := fun z hz => by
    obtain ⟨k, hk, rfl⟩ := List.mem_map.mp hz
    apply Classical.byContradiction
    intro q
    exact no ⟨k, List.mem_range.mp hk, q⟩
  have nd : ((List.range 676).map (fun k => p ++ tail2 k)).Nodup := by
    unfold List.Nodup
    rw [List.pairwise_map]
    refine List.Pairwise.imp_of_mem ?_ (List.nodup_range (n := 676))
    intro a b ha hb hab e
    exact hab (tail2_inj (List.mem_range.mp ha) (List.mem_range.mp hb) e)
  have z := nd_sub nd all
  rw [List.length_map, List.length_range] at z
  omega
theorem inV_str {x : Str} (xs : List Str) : inV (.str x) (xs.map V.str) = decide (x ∈ xs) := by
  unfold inV
  induction xs with
  | nil => rfl
  | cons y r ih =>
    rw [List.map_cons, List.any_cons, ih]
    show ((y == x) || decide (x ∈ r)) = decide (x ∈ y :: r)
    by_cases e : x = y
    · subst e; simp
    · have e2 : ¬ y = x := fun q => e q.symm
      simp [e, e2]
theorem strs_flat (xs : List Str) : (xs.map V.str).all flatV = true := by
  rw [List.all_eq_true]
  intro x hx
  obtain ⟨n, _, rfl⟩ := List.mem_map.mp hx
  rfl
end XL
set_option Elab.async false
set_option linter.all false
set_option maxRecDepth 100000
set_option maxHeartbeats 4000000
/-! XLine: C(*row), a method within a try, zip with K said, classes of an own error. -/
namespace XL
open PySem PySem.Spec PyProof.Rows L2
section
variable {X : Cx} {CX : CXT} {k : Nat} {f C : Addr} {fd : FuncData} {ps : List Str} {ds : List Value} {dvs : List V} {sp : Sp} {x m : Str} {p pos apos sp_ : Pos} {e o : Expr} {es : List Expr} {te ta : TE} {t : TA}
def tMakeS (K : PySem.W.Frag) (C : Addr) (sp : Sp) (dvs : List V) (E : XK) (te : TE) : TE := fun σ H Q => te σ H fun y H1 => ∃ a xs, y = V.ref a ∧ (SqT K H1 a xs ∨ SqL K H1 a xs) ∧
  ∀ x dx, H1 x = none → H1 dx = none → dx ≠ x → sp (.ref x :: (xs ++ dvs)) (upd (upd H1 dx (.own x)) x (.ins C dx [])) (fun v H2 => v = .non ∧ Q (.ref x) H2) E
/-- C(*row) -/
theorem pe_makeS {E : XK} (K : PySem.W.Frag) (M : Mk X.K C f) (F : FnOk X.prog X.w X.K X.mg X.base CX k f fd ps sp) (hr : Room (k + 1) X.A) (hg : Gl X x) (hm : X.mg x = some (.ref C)) (hb : Binds X.K fd ps ds) (hd : Vals dvs ds) (hx : Passes CX X E) (he : PE X e te) (hK : X.K = K := by rfl) (hdb : (x == ("__debug__" : Str)) = false := by decide)
    (hst : starEach [.Starred e sp_] X.env = [(true, eval e X.env)] := by rfl) : PE X (.Call (.Name x p) [.Starred e sp_] [] pos) (tMakeS K C sp dvs E te) := by
  subst hK
  refine ⟨fun pins s σ H Q I h => ?_⟩
  refine wpAny_Call_Name_kw (ld_glob I hg hm ?_ hdb)
  refine PySem.W.callWith_S (h₀ := X.base) I.ok.mod.kin M.kp (thn (he.run pins s σ H _ I h) fun v s1 ⟨y, H1, I1, ry, a, xs, ey, hxs, q⟩ => ?_) hst
  subst ey
  obtain rfl : v = Value.ref a := ry
  exact StX.star_any I1 hxs fun us s2 I2 rv => ⟨I2.kIn, run_make M F hr hb hd hx I2 rv q⟩
def tMethS (C : Addr) (m : Str) (sp : Sp) (E : L2.St → XK) (ta : TE) (t : TA) : TE := fun σ H Q => ta σ H fun x H1 => ∃ a dx fs, x = .ref a ∧ H1 a = some (.ins C dx fs) ∧ fs.lookup m = none ∧
  t σ H1 fun vs H2 => sp (x :: vs) H2 Q (E σ)
/-- o.m(..) within a try -/
theorem pe_methT {E : L2.St → XK} {pl : Sem Bool} (he : PE X o ta) (c : Cls X.K C) (hm : Meth X.K C m f) (F : FnOk X.prog X.w X.K X.mg X.base CX k f fd ps sp) (hr : Room k X.A) (hb : Binds X.K fd ps []) (hx : ∀ σ, PassesAt CX X σ (E σ)) (ha : PA X (e :: es) t)
    (hst : starEach (e :: es) X.env = (false, eval e X.env) :: starEach es X.env := by rfl) (hpl : (backTo pos (starEach es X.env)).any (·.1) = false := by rfl)
    (ht : eval (.Call (.Attribute o m apos) (e :: es) [] pos) X.env = (do
      let ov ← eval o X.env
      standAt apos.atName
      let (f, first) ← holding [ov] (getMethod ov m pl)
      callWith pos f first (backTo pos (starEach (e :: es) X.env)) (backToKw pos (keywordEach [] X.env))) := by rfl) :
    PE X (.Call (.Attribute o m apos) (e :: es) [] pos) (tMethS C m sp E ta t) := by
  refine ⟨fun pins s σ H Q I h => ?_⟩
  refine PySem.W.methodCall_KW (pl := pl) (thn (he.run pins s σ H _ I h) fun u s1 ⟨x, H1, I1, rx, a, dx, fs, ex, ea, l, q⟩ => ?_) ht
  subst ex
  obtain rfl : u = Value.ref a := rx
  refine getmeth_ok I1 ea c hm l ?_
  refine PySem.W.callWith_K (first := [.ref a]) (h₀ := X.base) I.ok.mod.kin hm.kp (thn (ha.run pos pins s1 σ H1 _ I1 q) fun us s2 ⟨vs, H2, I2, r, q2⟩ => ⟨I2.kIn, ?_⟩) hst hpl
  exact run_fnS (us := .ref a :: us) (vs := .ref a :: vs) (E := E) F hr hb (hx σ) I2 (.cons rfl r) q2
theorem pe_methT0 {E : L2.St → XK} {pl : Sem Bool} (he : PE X o ta) (c : Cls X.K C) (hm : Meth X.K C m f) (F : FnOk X.prog X.w X.K X.mg X.base CX k f fd ps sp) (hr : Room k X.A) (hb : Binds X.K fd ps []) (hx : ∀ σ, PassesAt CX X σ (E σ))
    (ht : eval (.Call (.Attribute o m apos) [] [] pos) X.env = (do
      let ov ← eval o X.env
      standAt apos.atName
      let (f, first) ← holding [ov] (getMethod ov m pl)
      callWith pos f first (backTo pos (starEach [] X.env)) (backToKw pos (keywordEach [] X.env))) := by rfl) :
    PE X (.Call (.Attribute o m apos) [] [] pos) (tMethS C m sp E ta tNil) := by
  refine ⟨fun pins s σ H Q I h => ?_⟩
  refine PySem.W.methodCall_KW (pl := pl) (thn (he.run pins s σ H _ I h) fun u s1 ⟨x, H1, I1, rx, a, dx, fs, ex, ea, l, q⟩ => ?_) ht
  subst ex
  obtain rfl : u = Value.ref a := rx
  refine getmeth_ok I1 ea c hm l ?_
  exact PySem.W.callWith_K0 (first := [.ref a]) I1.kIn hm.kp (run_fnS (us := [.ref a]) (vs := [.ref a]) (E := E) F hr hb (hx σ) I1 (.cons rfl .nil) q)
theorem pi_zipK {e e2 : Expr} {ta : TA} {p pos tpos : Pos} {elts : List Expr} {kk : Nat} (K : PySem.W.Frag) (hg : Gl X "zip") (hm : X.mg "zip" = none) (ha : PA X [e, e2] ta) (hK : X.K = K := by rfl)
    (hs : starEach [e, e2] X.env = (false, eval e X.env) :: starEach [e2] X.env := by rfl) (hpl : (backTo pos (starEach [e2] X.env)).any (·.1) = false := by rfl) :
    PI X (.Tuple elts kk tpos) (.Call (.Name "zip" p) [e, e2] [] pos) (iZip K ta) := hK ▸ pi_zip hg hm ha hs hpl
end
theorem kit_ty_of {K : PySem.W.Frag} {D : Addr} {T : String} {b : Bool} (h1 : PySem.W.kitMeta T = true) (h2 : PySem.W.subIn K (.ref D) (.type T) = some b) : PySem.W.kitOne K (.ref D) (.type T) = some b := by
  show (if (Value.ref D == Value.type T) = true then some true else (if PySem.W.kitMeta T = true then PySem.W.subIn K (.ref D) (.type T) else none)) = some b
  rw [if_neg (fun h => by cases h), if_pos h1]
  exact h2
end XL
set_option Elab.async false
set_option linter.all false
set_option maxRecDepth 100000
set_option maxHeartbeats 4000000
/-! XHot: a def that raises nothing and walks nothing, called within an except suite. -/
namespace XL
open PySem PySem.Spec PyProof.Rows L2 L2H
/-- what a def promises there -/
structure FnQ (P : Program) (w : World) (K : PySem.W.Frag) (mg : Str → Option Value) (base : Heap) (k : Nat) (f : Addr) (fd : FuncData) (ps : List Str) (sp : Sp) : Prop where
  len : ∀ vs H Q E, sp vs H Q E → vs.length = ps.length
  run : ∀ (A : Around) (outer : List Env) (s : Shared) (H : Hp) (args : Args) (us : List Value) (vs : List V) (Q : VK) (E : XK) (p : Addr × Obj), RoomH k A → PinOk outer H s p → Env0 P w K mg base A outer s H → BindsTo s fd args (ps.zip us) → Vals vs us → sp vs H Q E →
    codeAny (model P w) A (.call (.ref f) args) (CR CX0 outer P w H s Q E) s
theorem okQ {P : Program} {w : World} {K : PySem.W.Frag} {mg : Str → Option Value} {base : Heap} {x qual : Str} {st : Stmt} {f : Addr} {fd : FuncData} {N ps : List Str} {k : Nat} {sp : Sp} (F : Fun K x qual st f fd) (S : FnScope N ps (defScope st)) (len : ∀ vs H Q E, sp vs H Q E → vs.length = ps.length)
    (hbody : ∀ (cdv : Value) (A : Around) (outer : List Env) (s : Shared) (H : Hp) (vs : List V) (Q : VK) (E : XK) (p : Addr × Obj), RoomH k (A.deeper (envOfC qual (defScope st) s.heap.objs.size f cdv)) → sp vs H Q E →
      ∃ t, PSs (cxH CX0 P w K mg base N qual (defScope st) f cdv A outer s H E p) (defBody st) t ∧ t { nx := fun _ H' => Q .non H', rt := Q } (L2.start N vs) H) : FnQ P w K mg base (k + 1) f fd ps sp := by
  obtain ⟨oc, od, kV, doc, pm, an, cdv, ct, osl, rfl, lk, hcd⟩ := F.ex
  refine ⟨len, fun A outer s H args us vs Q E p hr hpin e0 hb r hsp => ?_⟩
  have hl := len _ _ _ _ hsp
  have KX : K.In s.heap := e0.mod.kin.keeps fun b o e => (e0.bs b o e).1
  have lim : s.heap.NoLimit := e0.mod.nolimit.keeps fun b o e => (e0.bs b o e).1
  have hkind : ∀ y ∈ ps.zip us, (defScope st).names.lookup y.1 = some .local ∨ ((defScope st).names.lookup y.1 = some .cell ∧ ((cellsFrom (s.heap.objs.size + 1) (defScope st).names []).lookup y.1).isSome = true) := fun ⟨n, v⟩ hy => by
    rcases S.par n (List.of_mem_zip hy).1 with q | q
    · exact .inl q
    · exact .inr ⟨q, PySem.W.cellsFrom_some _ _ _ (.inl q)⟩
  refine codeAny_call_function hr.depth (KX _ _ lk) rfl S.co S.gen rfl (PySem.W.codeRec_of KX hcd) (hb _ _ _ _ ?_)
  refine wpAny_newFunctionEnv_cells S.kind hkind fun env he s1 x => ?_
  subst he
  refine ⟨lim.keeps x.toInCall.keep, codeAny_func ?_⟩
  obtain ⟨t, ht, hq⟩ := hbody cdv A outer s H vs Q E p (hr.deeper _) hsp
  have I : Inv (cxH CX0 P w K mg base N qual (defScope st) f cdv A outer s H E p) [] (L2.start N vs) H s1 := inv_startH S hpin e0 hl r x
  refine wpAny_mono (ht.run [] s1 (L2.start N vs) H _ I hq) (fun fl s' hs => ?_) fun e s' hs => hs
  have fin : ∀ {σ' : L2.St} {H' : Hp} {v : V} {u : Value}, Inv (cxH CX0 P w K mg base N qual (defScope st) f cdv A outer s H E p) [] σ' H' s' → RelV v u → Q v H' → CE outer P w H s Q u s' :=
    fun {σ' H' v u} J rv q => ⟨v, H', J.os, J.bare, J.base, J.hok, rv, q⟩
  cases fl with
  | ret u =>
    obtain ⟨v, σ', H', J, rv, q⟩ := hs
    exact fin J rv q
  | next =>
    obtain ⟨σ', H', J, q⟩ := hs
    exact fin (v := V.non) (u := Value.none) J rfl q
  | brk =>
    obtain ⟨_, _, _, q⟩ := hs
    exact False.elim q
  | cont =>
    obtain ⟨_, _, _, q⟩ := hs
    exact False.elim q
section
variable {X : Cx} {k : Nat} {f : Addr} {fd : FuncData} {ps : List Str} {sp : Sp} {E : XK} {x : Str} {q pos : Pos} {e : Expr} {es : List Expr} {t : TA}
theorem pe_callQ (F : FnQ X.prog X.w X.K X.mg X.base k f fd ps sp) (hr : RoomH k X.A) (hc : ∃ p, p ∈ X.pn) (hg : Gl X x) (hm : X.mg x = some (.ref f)) (hk : PySem.W.keepIn X.K (.ref f) = true) (hb : Binds X.K fd ps []) (hx : Passes CX0 X E)
    (ha : PA X (e :: es) t) (hdb : (x == ("__debug__" : Str)) = false := by decide) (he : starEach (e :: es) X.env = (false, eval e X.env) :: starEach es X.env := by rfl) (hpl : (backTo pos (starEach es X.env)).any (·.1) = false := by rfl) :
    PE X (.Call (.Name x q) (e :: es) [] pos) (fun σ H Q => t σ H fun vs H1 => sp vs H1 Q E) := by
  refine ⟨fun pins s σ H Q I h => ?_⟩
  refine wpAny_Call_Name_kw (ld_glob I hg hm ?_ hdb)
  refine PySem.W.callWith_K (h₀ := X.base) I.ok.mod.kin hk (thn (ha.run pos pins s σ H _ I h) fun us s1 ⟨vs, H1, I1, r, q⟩ => ⟨I1.kIn, ?_⟩) he hpl
  obtain ⟨p, hp⟩ := hc
  have hl : us.length = ps.length := by rw [← r.length]; exact F.len _ _ _ _ q
  have b := hb s1 us I1.kIn (by rw [List.append_nil]; exact hl)
  rw [List.append_nil] at b
  have P1 := I1.pin p (List.mem_append_left _ hp)
  have hpin : PinOk X.stack H1 s1 p := ⟨P1.1, P1.2.1, fun hm => (List.mem_cons.mp (I1.stkSub p.1 hm)).elim P1.2.2.1 P1.2.2.2.1, P1.2.2.2.2⟩
  refine wpAny_call (codeAny_mono (F.run X.A X.stack s1 H1 ⟨us, []⟩ us vs Q E p hr hpin I1.env0 b r q) fun r s' hq => ?_)
  cases r with
  | error e => exact hx pins σ _ _ e s' I1 hq
  | ok fl =>
    cases fl with
    | ret u => exact I1.after hq
    | next => exact False.elim hq
    | brk => exact False.elim hq
    | cont => exact False.elim hq
end
theorem roomQ {X : Cx} {k j : Nat} {a : Addr} {pn : List (Addr × Obj)} (hr : Room k X.A) (h : j ≤ k) : RoomH j (X.suite a pn).A := ⟨(hr.mono h).dp, (hr.mono h).un⟩
end XL
set_option Elab.async false
set_option linter.all false
set_option maxRecDepth 100000
set_option maxHeartbeats 4000000
/-! XGuard: defs that are called while no repr is under way (Around.guards is known to be empty); repr of data there. -/
namespace XL
open PySem PySem.Spec PyProof.Rows L2
/-- what a def promises when no repr is under way -/
structure FnG (P : Program) (w : World) (K : PySem.W.Frag) (mg : Str → Option Value) (base : Heap) (CX : CXT) (k : Nat) (f : Addr) (fd : FuncData) (ps : List Str) (sp : Sp) : Prop where
  len : ∀ vs H Q E, sp vs H Q E → vs.length = ps.length
  run : ∀ (A : Around) (outer : List Env) (s : Shared) (H : Hp) (args : Args) (us : List Value) (vs : List V) (Q : VK) (E : XK), Room k A → A.guards = some [] → Env0 P w K mg base A outer s H → BindsTo s fd args (ps.zip us) → Vals vs us → sp vs H Q E →
    codeAny (model P w) A (.call (.ref f) args) (CR CX outer P w H s Q E) s
section
variable {P : Program} {w : World} {K : PySem.W.Frag} {mg : Str → Option Value} {base : Heap} {CX : CXT}
theorem FnG.of {k : Nat} {f : Addr} {fd : FuncData} {ps : List Str} {sp : Sp} (F : FnOk P w K mg base CX k f fd ps sp) : FnG P w K mg base CX k f fd ps sp := ⟨F.len, fun A outer s H args us vs Q E hr _ => F.run A outer s H args us vs Q E hr⟩
theorem fnG_of {x qual : Str} {st : Stmt} {f : Addr} {fd : FuncData} {N ps : List Str} {k : Nat} {sp : Sp} (F : Fun K x qual st f fd) (S : FnScope N ps (defScope st)) (len : ∀ vs H Q E, sp vs H Q E → vs.length = ps.length)
    (hbody : ∀ (cdv : Value) (A : Around) (outer : List Env) (s : Shared) (H : Hp) (vs : List V) (Q : VK) (E : XK), Room k (A.deeper (envOfC qual (defScope st) s.heap.objs.size f cdv)) → A.guards = some [] → sp vs H Q E →
      ∃ t, PSs (cxOf CX P w K mg base N qual (defScope st) f cdv A outer s H E) (defBody st) t ∧ t { nx := fun _ H' => Q .non H', rt := Q } (L2.start N vs) H) : FnG P w K mg base CX (k + 1) f fd ps sp := by
  obtain ⟨oc, od, kV, doc, pm, an, cdv, ct, osl, rfl, lk, hcd⟩ := F.ex
  refine ⟨len, fun A outer s H args us vs Q E hr hg e0 hb r hsp => ?_⟩
  have hl := len _ _ _ _ hsp
  have KX : K.In s.heap := e0.mod.kin.keeps fun b o e => (e0.bs b o e).1
  have lim : s.heap.NoLimit := e0.mod.nolimit.keeps fun b o e => (e0.bs b o e).1
  have hkind : ∀ y ∈ ps.zip us, (defScope st).names.lookup y.1 = some .local ∨ ((defScope st).names.lookup y.1 = some .cell ∧ ((cellsFrom (s.heap.objs.size + 1) (defScope st).names []).lookup y.1).isSome = true) := fun ⟨n, v⟩ hy => by
    rcases S.par n (List.of_mem_zip hy).1 with q | q
    · exact .inl q
    · exact .inr ⟨q, PySem.W.cellsFrom_some _ _ _ (.inl q)⟩
  refine codeAny_call_function hr.depth (KX _ _ lk) rfl S.co S.gen rfl (PySem.W.codeRec_of KX hcd) (hb _ _ _ _ ?_)
  refine wpAny_newFunctionEnv_cells S.kind hkind fun env he s1 x => ?_
  subst he
  refine ⟨lim.keeps x.toInCall.keep, codeAny_func ?_⟩
  obtain ⟨t, ht, hq⟩ := hbody cdv A outer s H vs Q E (hr.deeper _) hg hsp
  have I : Inv (cxOf CX P w K mg base N qual (defScope st) f cdv A outer s H E) [] (L2.start N vs) H s1 := inv_start S hr.hd e0 hl r x
  refine wpAny_mono (ht.run [] s1 (L2.start N vs) H _ I hq) (fun fl s' hs => ?_) fun e s' hs => hs
  cases fl with
  | ret u =>
    obtain ⟨v, σ', H', J, rv, q⟩ := hs
    exact ⟨v, H', J.os, J.bare, J.base, J.hok, rv, q⟩
  | next =>
    obtain ⟨σ', H', J, q⟩ := hs
    exact ⟨V.non, H', J.os, J.bare, J.base, J.hok, rfl, q⟩
  | brk =>
    obtain ⟨_, _, _, q⟩ := hs
    exact False.elim q
  | cont =>
    obtain ⟨_, _, _, q⟩ := hs
    exact False.elim q
/-- a def that raises nothing -/
theorem okG {x qual : Str} {st : Stmt} {f : Addr} {fd : FuncData} {N ps : List Str} {k : Nat} {sp : Sp} (F : Fun K x qual st f fd) (S : FnScope N ps (defScope st)) (len : ∀ vs H Q E, sp vs H Q E → vs.length = ps.length)
    (hbody : ∀ (cdv : Value) (A : Around) (outer : List Env) (s : Shared) (H : Hp) (vs : List V) (Q : VK) (E : XK), Room k (A.deeper (envOfC qual (defScope st) s.heap.objs.size f cdv)) → A.guards = some [] → sp vs H Q E →
      ∃ t, PSs (cxOf CX0 P w K mg base N qual (defScope st) f cdv A outer s H E).nox (defBody st) t ∧ t { nx := fun _ H' => Q .non H', rt := Q } (L2.start N vs) H) : FnG P w K mg base CX0 (k + 1) f fd ps sp :=
  fnG_of F S len fun cdv A outer s H vs Q E hr hg hsp => let ⟨t, h, q⟩ := hbody cdv A outer s H vs Q E hr hg hsp; ⟨t, h.nox, q⟩
end
section
variable {X : Cx} {CX : CXT} {k : Nat} {f : Addr} {fd : FuncData} {ps : List Str} {sp : Sp} {E : XK} {x : Str} {p pos : Pos} {e : Expr} {es : List Expr} {t : TA}
theorem run_fnG {pins : List (Addr × Obj)} {σ : L2.St} {H : Hp} {s : Shared} {Q : VK} {us : List Value} {vs : List V} (F : FnG X.prog X.w X.K X.mg X.base CX k f fd ps sp) (hr : Room k X.A) (hg : X.A.guards = some []) (hb : Binds X.K fd ps []) (hx : Passes CX X E)
    (I : Inv X pins σ H s) (r : Vals vs us) (h : sp vs H Q E) : wpAny (model X.prog X.w) X.A (call (.ref f) us) (EP X pins σ Q) X.xe s := by
  have hl : us.length = ps.length := by rw [← r.length]; exact F.len _ _ _ _ h
  have b := hb s us I.kIn (by rw [List.append_nil]; exact hl)
  rw [List.append_nil] at b
  refine wpAny_call (codeAny_mono (F.run X.A X.stack s H ⟨us, []⟩ us vs Q E hr hg I.env0 b r h) fun r s' hq => ?_)
  cases r with
  | error e => exact hx pins σ _ _ e s' I hq
  | ok fl =>
    cases fl with
    | ret u => exact I.after hq
    | next => exact False.elim hq
    | brk => exact False.elim hq
    | cont => exact False.elim hq
theorem pe_callG (F : FnG X.prog X.w X.K X.mg X.base CX k f fd ps sp) (hr : Room k X.A) (hg : X.A.guards = some []) (hgl : Gl X x) (hm : X.mg x = some (.ref f)) (hk : PySem.W.keepIn X.K (.ref f) = true) (hb : Binds X.K fd ps []) (hx : Passes CX X E)
    (ha : PA X (e :: es) t) (hdb : (x == ("__debug__" : Str)) = false := by decide) (he : starEach (e :: es) X.env = (false, eval e X.env) :: starEach es X.env := by rfl) (hpl : (backTo pos (starEach es X.env)).any (·.1) = false := by rfl) :
    PE X (.Call (.Name x p) (e :: es) [] pos) (fun σ H Q => t σ H fun vs H1 => sp vs H1 Q E) := by
  refine ⟨fun pins s σ H Q I h => ?_⟩
  refine wpAny_Call_Name_kw (ld_glob I hgl hm ?_ hdb)
  refine PySem.W.callWith_K (h₀ := X.base) I.ok.mod.kin hk (thn (ha.run pos pins s σ H _ I h) fun us s1 ⟨vs, H1, I1, r, q⟩ => ⟨I1.kIn, ?_⟩) he hpl
  exact run_fnG F hr hg hb hx I1 r q
theorem u70 {k : Nat} {A : Around} (r : Room k A) : A.units + 70 < cLine := by have := r.un; omega
/-- repr of data -/
def rRepr (K : PySem.W.Frag) : List V → Hp → VK → Prop := fun xs H Q => ∃ v d, xs = [v] ∧ Dp K H v d ∧ d.showable = true ∧ d.hasDict = false ∧ d.depth ≤ 64 ∧ d.shown.length ≤ sizeLine ∧ Q (.str d.shown) H
theorem call_reprG (K : PySem.W.Frag) (hg : X.A.guards = some []) (hu : X.A.units + 70 < cLine) (hK : X.K = K := by rfl) : CallR X (.builtin "repr") (rRepr K) := by
  subst hK
  intro pins s σ H xs us Q I r h
  obtain ⟨v, d, rfl, hd, h1, h2, h3, h4, q⟩ := h
  obtain ⟨u, rfl, ru⟩ : ∃ u, us = [u] ∧ RelV v u := by
    cases r with
    | cons a b =>
      cases b
      exact ⟨_, rfl, a⟩
  obtain ⟨as, rd⟩ := Dp.reads I d v u hd ru
  have big : ∀ a : Addr, u = .ref a → wpAny (model X.prog X.w) X.A (call (.builtin "repr") [u]) (EP X pins σ Q) X.xe s := by
    rintro a rfl
    exact repr_of_reads' rd h1 (PyData.noDict_hsm h2) hg (by omega) (fun _ _ e => e) (fun h' t tk hk => ⟨.str d.shown, H, I.kept hk, ⟨_, rfl⟩, q⟩) h4
  cases hd with
  | non =>
    cases ru
    exact PySem.P.repr_of_none ⟨.str _, H, I.tok _, ⟨_, rfl⟩, by simpa only [PyData.shown] using q⟩
  | bl b =>
    cases ru
    exact PySem.P.repr_of_bool ⟨.str _, H, I.tok _, ⟨_, rfl⟩, by simpa only [PyData.shown] using q⟩
  | int i =>
    obtain ⟨t, rfl⟩ := ru
    exact PySem.P.repr_of_int (by simpa [PyData.showable] using h1) ⟨.str _, H, I.tok _, ⟨_, rfl⟩, by simpa only [PyData.shown] using q⟩
  | str x =>
    obtain ⟨t, rfl⟩ := ru
    exact PySem.P.repr_of_str ⟨.str _, H, I.tok _, ⟨_, rfl⟩, by simpa only [PyData.shown] using q⟩ (by simpa only [PyData.shown] using h4)
  | lst _ _ => exact big _ ru
  | tup _ _ => exact big _ ru
end
/-! ### the law's own call -/
theorem law_callG {P : Program} {w : World} {K : PySem.W.Frag} {mg mb : Str → Option Value} {CX : CXT} {k : Nat} {fa a : Addr} {fd : FuncData} {x : Str} {sp : Sp} {s₁ : Shared} {vs : List Value} {ns : List Int}
    (KX : K.In s₁.heap) (hns : s₁.heap.Ns mainGlobals mg) (hb : s₁.heap.Ns builtinsNs mb) (hbb : ∀ x : Str, x ≠ "__name__" → mb x = bootBuiltins x) (hlim : s₁.heap.NoLimit) (hg : s₁.gens = #[])
    (ha : s₁.heap.get? a = some { cls := .type "list", data := .seq vs.toArray }) (hi : IntsAre vs ns) (hl : ns.length ≤ sizeLine) (hr : Room k callerA)
    (F : ∀ base : Heap, K.In base → base.Ns mainGlobals mg → FnG P w K mg base CX k fa fd [x] sp) (hbind : ∀ (s : Shared) (u : Value), BindsTo s fd ⟨[u], []⟩ [(x, u)])
    (hsp : ∀ H : Hp, Only H → SqL K H a (ns.map V.int) → sp [.ref a] H (fun v _ => v = .bl true) fun _ _ _ => False)
    (hCX : ∀ H e s', CX [] H s₁ (fun _ _ _ => False) e s' → False) :
    codeAny (model P w) callerA (.call (.ref fa) ⟨[.ref a], []⟩) (fun r s' => r = .ok (.ret (.bool true)) ∧ OldK s₁.heap s'.heap ∧ s'.os = s₁.os ∧ AllBare s'.gens) s₁ := by
  have rv := vals_ints hi
  have lenV := hi.length
  -- nothing is tracked but the script
  have main : ∀ H : Hp, (∀ b, H b = none ∨ (b = a ∧ K.lookup a = none ∧ H b = some (.frz { cls := .type "list", data := .seq vs.toArray } (.lst (ns.map V.int))))) → SqL K H a (ns.map V.int) → HOk P w H s₁.heap →
      codeAny (model P w) callerA (.call (.ref fa) ⟨[.ref a], []⟩) (fun r s' => r = .ok (.ret (.bool true)) ∧ OldK s₁.heap s'.heap ∧ s'.os = s₁.os ∧ AllBare s'.gens) s₁ := by
    intro H hH hS hok
    have nsK : ∀ {b : Addr} {m : Str → Option Value}, s₁.heap.Ns b m → (hidT s₁.heap H).Ns b m := fun {b m} ⟨o, es, ep, e, d, r⟩ => by
      refine ⟨o, es, ep, hidT_get e ?_, d, r⟩
      rcases hH b with z | ⟨z, _⟩
      · exact z
      · rw [z, ha] at e
        cases e
        cases d
    have hKb : K.In (hidT s₁.heap H) := fun b o e => hidT_get (KX b o e) (by
      rcases hH b with z | ⟨z, z2, _⟩
      · exact z
      · rw [z, z2] at e
        cases e)
    have hM : Mod K mg (hidT s₁.heap H) := ⟨hKb, nsK hns, ⟨mb, nsK hb, hbb⟩, let ⟨mc, h1, h2⟩ := hlim; ⟨mc, nsK h1, h2⟩⟩
    have e0 : Env0 P w K mg (hidT s₁.heap H) callerA [] s₁ H := ⟨rfl, hM, fun b o e => of_hidT e, Nat.le_of_eq (hidT_size _ _), trivial, fun b hb => (nomatch hb), hok, .of_eq hg⟩
    have hO : Only H := fun b => (hH b).imp id fun z => ⟨_, _, z.2.2⟩
    refine codeAny_mono ((F _ hKb (nsK hns)).run callerA [] s₁ H ⟨[.ref a], []⟩ [.ref a] [.ref a] _ _ hr rfl e0 (hbind s₁ (.ref a)) (.cons rfl .nil) (hsp H hO hS)) fun r s' h => ?_
    cases r with
    | error e => exact (hCX H e s' h).elim
    | ok fl =>
      cases fl with
      | next => exact False.elim h
      | brk => exact False.elim h
      | cont => exact False.elim h
      | ret u =>
        obtain ⟨v, H', os, bare, un, hok', r', q⟩ := h
        have q' : v = .bl true := q
        subst q'
        obtain rfl : u = Value.bool true := r'
        refine ⟨rfl, OldK.of_keep fun b o e => ?_, os, bare⟩
        rcases hH b with z | ⟨_, _, z⟩
        · exact un.keep b o e z (fun y => nomatch y) (by simp)
        · obtain ⟨e1, _⟩ := hok b _ z
          obtain ⟨e2, _⟩ := hok' b _ (un.frzs b _ _ z)
          rw [e] at e1
          cases e1
          exact e2
  cases hk : K.lookup a with
  | some o =>
    have e := KX a o hk
    rw [ha] at e
    cases e
    exact main (fun _ => none) (fun _ => .inl rfl) (.inr ⟨_, vs.toArray, _, hk, rfl, rfl, rfl, by rw [List.size_toArray, lenV]; exact hl, by simpa using rv⟩) (fun b u z => nomatch z)
  | none =>
    refine main (fun b => if b = a then some (.frz { cls := .type "list", data := .seq vs.toArray } (.lst (ns.map V.int))) else none) (fun b => ?_) (.inl (.inr ⟨{ cls := .type "list", data := .seq vs.toArray }, if_pos rfl⟩)) (fun b u z => ?_)
    · by_cases hb : b = a
      · exact .inr ⟨hb, hk, if_pos hb⟩
      · exact .inl (if_neg hb)
    · by_cases hb : b = a
      · have z' := (if_pos hb).symm.trans z
        cases z'
        subst hb
        exact ⟨ha, by rw [List.length_map]; exact hl, vs, _, rv, ha⟩
      · have z' := (if_neg hb).symm.trans z
        cases z'
theorem walk_ofG {l : PySem.W.OpenLaw} {n k : Nat} {q : Program} {loose : List Str} {XP : (Str → Option Value) → Heap → Prop} {YP : World → Heap → Prop} {d : DefRec} {K : Params → PySem.W.Frag} {CX : World → CXT} {sp : World → Sp} {x : Str}
    (hn : l.most = some n) (hn2 : n ≤ sizeLine) (hdf : d.params.defaults = []) (hr : Room k callerA)
    (hY : ∀ (w : World) (h : Heap), YP w h → (K w.params).In h)
    (F : ∀ (w : World) (mg : Str → Option Value) (fa : Addr) (h : Heap), (K w.params).In h → h.Ns mainGlobals mg → mg d.name = some (.ref fa) →
      ∃ fd : FuncData, (∀ (s : Shared) (u : Value), BindsTo s fd ⟨[u], []⟩ [(x, u)]) ∧
        ∀ base : Heap, (K w.params).In base → base.Ns mainGlobals mg → FnG l.prog w (K w.params) mg base (CX w) k fa fd [x] (sp w))
    (hsp : ∀ (w : World) (H : Hp) (a : Addr) (ns : List Int), ns.length ≤ n → Only H → SqL (K w.params) H a (ns.map V.int) → sp w [.ref a] H (fun v _ => v = .bl true) fun _ _ _ => False)
    (hCX : ∀ (w : World) (H : Hp) (s : Shared) (e : Value) (s' : Shared), CX w [] H s (fun _ _ _ => False) e s' → False) :
    PySem.W.WalkO q loose XP YP l.row.toRowW d [] (fun f vs => PySem.call f vs) := by
  refine Att.attach_call hn hdf fun w s₀ s₁ mg mb fa o pm cd doc a vs ns G Y ho hd hcd hmg hobj hints hlen hg => ?_
  have KX := hY w _ Y
  obtain ⟨fd, hb, hF⟩ := F w mg fa _ KX G.T.g hmg
  exact law_callG KX G.T.g G.T.b G.T.builtins G.T.nolimit hg hobj hints (Nat.le_trans hlen hn2) hr hF hb (fun H hO hS => hsp w H a ns hlen hO hS) fun H e s' => hCX w H s₁ e s'
end XL
set_option Elab.async false
set_option linter.all false
set_option maxRecDepth 100000
set_option maxHeartbeats 4000000
/-! XStar: defs with a star parameter, called with plain arguments. -/
namespace XL
open PySem PySem.Spec PyProof.Rows L2
/-! ### list.extend of a tuple -/
theorem ext_tup (l : Addr) (items : Array Value) (n : Nat) (b : Addr) (items2 : Array Value) (n2 : Nat) (dc : Option Addr) (sl : Array (Option Value)) (hs0 : ¬(!items.isEmpty && Builtin.List.listTooLong (items.size + items2.size)) = true) (hs1 : items.size ≤ sizeLine) (hs2 : items.size + items2.size ≤ sizeLine + 1) :
    Meets (Builtin.«list.extend» ⟨[.ref l, .ref b], []⟩) (fun _ R s => s.heap.get? l = some { cls := .type "list", dict := none, data := .seq items n, slots := #[] } ∧ s.heap.get? b = some { cls := .type "tuple", dict := dc, data := .seq items2 n2, slots := sl } ∧ R (.ok (.ret Value.none)) { s with heap := s.heap.update l (Obj.mapSeq fun x => x ++ items2), toks := s.toks }) :=
  .of_wp fun prog w A R s h => by
    obtain ⟨hp, g, d, tk, os⟩ := s
    obtain ⟨hl, hb, h⟩ := h
    have f1 := AutoSeq1.idx_int; have f2 := AutoSeq1.sub_tuple_tuple; have f3 := AutoSeq1.sub_list_list; have f4 := AutoSeq1.sub_tuple_list; have f5 := AutoSeq1.sub_list_tuple
    have hz' : (items ++ items2).size ≤ sizeLine + 1 := by rw [Array.size_append]; exact hs2
    wp_walk using (wpAny_updateSeq hl rfl (hz := hs1) (_hz' := hz')), wpAny_loadPart' hl, wpAny_loadPart' hb
    exact ⟨_, rfl, h⟩
def rExtT (K : PySem.W.Frag) : V → List V → Hp → VK → Prop := fun x vs H Q => ∃ l b xs zs, x = .ref l ∧ vs = [.ref b] ∧ H l = some (.lst xs) ∧ SqT K H b zs ∧ xs.length + zs.length ≤ sizeLine ∧ Q .non (upd H l (.lst (xs ++ zs)))
theorem mt_extT {X : Cx} (K : PySem.W.Frag) (hK : X.K = K := by rfl) : MtM X "list.extend" (rExtT K) := by
  subst hK
  intro pins s σ H x vs v us Q I rx rv h
  obtain ⟨l, b, xs, zs, rfl, rfl, hH, hB, hz, q⟩ := h
  cases rx
  obtain ⟨u, rfl, ru⟩ := rv.one
  cases ru
  obtain ⟨z, its, n, r, hl, e⟩ := I.lstM hH
  obtain ⟨its2, r2, ⟨o2, e2, c2, n2, d2⟩, z2⟩ := I.tuple hB
  have hl2 := r2.length
  obtain ⟨oc, od, odt, osl⟩ := o2
  simp only at c2 d2
  subst c2 d2
  have hsz : its.toArray.size + its2.toArray.size ≤ sizeLine := by rw [List.size_toArray, List.size_toArray]; omega
  have hlong : ¬ (!its.toArray.isEmpty && Builtin.List.listTooLong (its.toArray.size + its2.toArray.size)) = true := by
    rw [notLongL hsz, Bool.and_false]
    exact Bool.false_ne_true
  refine call_meets F.slot_list_extend ⟨_, e, rfl⟩ F.entry_list_extend (F.args_list_extend_2 _ _)
    (ext_tup l its.toArray n b its2.toArray n2 od osl hlong (by rw [List.size_toArray]; omega) (by omega)) ⟨e, e2, ?_⟩
  refine ⟨.non, _, I.lset (its' := its ++ its2) hH e (by simp) (r.append r2) ?_, rfl, q⟩
  rw [List.length_append]
  omega
/-- what a def with a star parameter binds -/
def BindsS (fd : FuncData) (ps : List Str) (pv : Str) : Prop := ∀ us rest : List Value, us.length = ps.length → bindArgs fd ⟨us ++ rest, []⟩ = (newTuple rest >>= fun t => pure (ps.zip us ++ [(pv, t)]))
/-- the promise of a def with a star parameter, from that of its body -/
def spS (n : Nat) (sp : Sp) : Sp := fun vs H Q E => ∃ ws rest, vs = ws ++ rest ∧ ws.length = n ∧ rest.length ≤ sizeLine ∧ ∀ p, H p = Option.none → sp (ws ++ [V.ref p]) (upd H p (.tup rest)) Q E
section
variable {P : Program} {w : World} {K : PySem.W.Frag} {mg : Str → Option Value} {base : Heap}
theorem okS {x qual : Str} {st : Stmt} {f : Addr} {fd : FuncData} {N ps : List Str} {pv : Str} {k : Nat} {sp : Sp} (F : Fun K x qual st f fd) (S : FnScope N (ps ++ [pv]) (defScope st)) (hb : BindsS fd ps pv)
    (hbody : ∀ (cdv : Value) (A : Around) (outer : List Env) (s : Shared) (H : Hp) (vs : List V) (Q : VK) (E : XK), Room k (A.deeper (envOfC qual (defScope st) s.heap.objs.size f cdv)) → sp vs H Q E →
      ∃ t, PSs (cxOf CX0 P w K mg base N qual (defScope st) f cdv A outer s H E).nox (defBody st) t ∧ t { nx := fun _ H' => Q .non H', rt := Q } (L2.start N vs) H) : FnR P w K mg base CX0 (k + 1) f (spS ps.length sp) := by
  obtain ⟨oc, od, kV, doc, pm, an, cdv, ct, osl, rfl, lk, hcd⟩ := F.ex
  refine StX.fn_star (pv := pv) (ps := ps) lk hcd S StX.cxUp_none hb fun A outer s H vs Q E hr hsp => ?_
  obtain ⟨t, h, q⟩ := hbody cdv A outer s H vs Q E hr hsp
  exact ⟨t, h.nox, q⟩
end
section
variable {X : Cx} {CX : CXT} {k : Nat} {f : Addr} {sp : Sp} {E : XK} {x : Str} {p pos : Pos} {e : Expr} {es : List Expr} {t : TA}
/-- x(e, ..) by a positional promise -/
theorem pe_callP (F : FnR X.prog X.w X.K X.mg X.base CX k f sp) (hr : Room k X.A) (hgl : Gl X x) (hm : X.mg x = some (.ref f)) (hk : PySem.W.keepIn X.K (.ref f) = true) (hx : Passes CX X E)
    (ha : PA X (e :: es) t) (hdb : (x == ("__debug__" : Str)) = false := by decide) (he : starEach (e :: es) X.env = (false, eval e X.env) :: starEach es X.env := by rfl) (hpl : (backTo pos (starEach es X.env)).any (·.1) = false := by rfl) :
    PE X (.Call (.Name x p) (e :: es) [] pos) (fun σ H Q => t σ H fun vs H1 => sp vs H1 Q E) := by
  refine ⟨fun pins s σ H Q I h => ?_⟩
  refine wpAny_Call_Name_kw (ld_glob I hgl hm ?_ hdb)
  refine PySem.W.callWith_K (h₀ := X.base) I.ok.mod.kin hk (thn (ha.run pos pins s σ H _ I h) fun us s1 ⟨vs, H1, I1, r, q⟩ => ⟨I1.kIn, ?_⟩) he hpl
  exact wpAny_call (run_fnR F hr hx I1 r q)
/-- x() -/
theorem pe_callP0 (F : FnR X.prog X.w X.K X.mg X.base CX k f sp) (hr : Room k X.A) (hgl : Gl X x) (hm : X.mg x = some (.ref f)) (hk : PySem.W.keepIn X.K (.ref f) = true) (hx : Passes CX X E) (hdb : (x == ("__debug__" : Str)) = false := by decide) :
    PE X (.Call (.Name x p) [] [] pos) (fun _ H Q => sp [] H Q E) := by
  refine ⟨fun pins s σ H Q I h => ?_⟩
  refine wpAny_Call_Name_kw (ld_glob I hgl hm ?_ hdb)
  exact PySem.W.callWith_K0 I.kIn hk (wpAny_call (run_fnR (us := []) F hr hx I .nil h))
end
section
variable {B : List Value → Sem (List (Str × Value))} {p1 p2 p3 p4 pv : Str}
theorem bindS0 (h0 : B [] = (newTuple [] >>= fun t => pure [(pv, t)])) (h1 : ∀ r rs, B (r :: rs) = (newTuple (r :: rs) >>= fun t => pure [(pv, t)])) :
    ∀ us rest : List Value, us.length = ([] : List Str).length → B (us ++ rest) = (newTuple rest >>= fun t => pure (([] : List Str).zip us ++ [(pv, t)]))
  | [], [], _ => h0
  | [], r :: rs, _ => h1 r rs
theorem bindS1 (h0 : ∀ a, B [a] = (newTuple [] >>= fun t => pure [(p1, a), (pv, t)])) (h1 : ∀ a r rs, B (a :: r :: rs) = (newTuple (r :: rs) >>= fun t => pure [(p1, a), (pv, t)])) :
    ∀ us rest : List Value, us.length = [p1].length → B (us ++ rest) = (newTuple rest >>= fun t => pure ([p1].zip us ++ [(pv, t)]))
  | [a], [], _ => h0 a
  | [a], r :: rs, _ => h1 a r rs
theorem bindS4 (h0 : ∀ a b c d, B [a, b, c, d] = (newTuple [] >>= fun t => pure [(p1, a), (p2, b), (p3, c), (p4, d), (pv, t)])) (h1 : ∀ a b c d r rs, B (a :: b :: c :: d :: r :: rs) = (newTuple (r :: rs) >>= fun t => pure [(p1, a), (p2, b), (p3, c), (p4, d), (pv, t)])) :
    ∀ us rest : List Value, us.length = [p1, p2, p3, p4].length → B (us ++ rest) = (newTuple rest >>= fun t => pure ([p1, p2, p3, p4].zip us ++ [(pv, t)]))
  | [a, b, c, d], [], _ => h0 a b c d
  | [a, b, c, d], r :: rs, _ => h1 a b c d r rs
end
end XL
set_option Elab.async false
set_option linter.all false
set_option maxRecDepth 100000
set_option maxHeartbeats 4000000
/-! XTree: t[::-1] of a tuple; == of data of more levels; objects whose own __iter__ hands on iter(l), l a list. -/
namespace XL
open PySem PySem.Spec PyProof.Rows L2
section
variable {prog : Program} {w : World} {A : Around} {E : Value → Shared → Prop} {s : Shared}
theorem applied_rev {sl : Addr} {t : Tok} {n : Nat} {Q : Int × Int × Nat → Shared → Prop} (hs : s.heap.IsSliceOf sl .none .none (.int (-1) t)) (h : Q ((n : Int) - 1, -1, n) s) :
    wpAny (model prog w) A (Builtin.Slice.sliceApplied (.ref sl) (pure (n : Int))) Q E s := by
  obtain ⟨os, hos, hcs, hds⟩ := id hs
  unfold Builtin.Slice.sliceApplied Builtin.Slice.sliceFields
  refine wpAny_bind (wpAny_bind (wpAny_field hos hds (x := .none) rfl (wpAny_bind (wpAny_field hos hds (x := .none) rfl (wpAny_bind (wpAny_field hos hds (x := .int (-1) t) rfl (wpAny_pure ?_)))))))
  refine wpAny_bind (HT.slicePart_ (.int (-1) t) ?_)
  show wpAny _ _ (if ((-1 : Int) == 0) = true then _ else _) _ _ s
  rw [if_neg (by decide)]
  refine wpAny_bind (HT.slicePart_ .none (wpAny_bind (HT.slicePart_ .none (wpAny_bind (wpAny_pure ?_)))))
  show wpAny _ _ (pure ((n : Int) - 1, (-1 : Int), Builtin.Slice.slicePlaces ((n : Int) - 1) (-1) (-1))) _ _ s
  have e : Builtin.Slice.slicePlaces ((n : Int) - 1) (-1) (-1) = n := by
    unfold Builtin.Slice.slicePlaces
    have h1 : ¬ ((-1 : Int) > 0) := by decide
    simp only [h1, if_false]
    split
    · rw [show (- -1 : Int) = 1 by decide, Int.ediv_one]
      omega
    · omega
  rw [e]
  exact wpAny_pure h
theorem fm_congr {α β : Type} {f g : α → Option β} : ∀ {l : List α}, (∀ x ∈ l, f x = g x) → l.filterMap f = l.filterMap g
  | [], _ => rfl
  | x :: l, h => by
    rw [List.filterMap_cons, List.filterMap_cons, h x List.mem_cons_self, fm_congr (l := l) fun y hy => h y (List.mem_cons_of_mem _ hy)]
theorem pick_rev (xs : Array Value) : ((List.range xs.size).filterMap fun (k : Nat) => xs[(((xs.size : Int) - 1) + (k : Int) * (-1)).toNat]?).toArray = xs.toList.reverse.toArray := by
  have z := PySem.W.krv_pick xs
  rw [← z]
  unfold slicePick
  rw [PySem.W.krv_bounds]
  show _ = ((sliceRange ((xs.size : Int) - 1) (-1) (-1)).filterMap (xs[·]?)).toArray
  rw [PySem.W.krv_sliceRange, List.filterMap_map]
  congr 1
  refine fm_congr fun k hk => ?_
  have := List.mem_range.mp hk
  have e : (((xs.size : Int) - 1) + (k : Int) * (-1)).toNat = xs.size - 1 - k := by omega
  show xs[_]? = xs[xs.size - 1 - k]?
  rw [e]
theorem getItem_tuple_rev {t sl : Addr} {tk : Tok} {items : Array Value} {Q : Value → Shared → Prop} (ht : IsTup s.heap t items) (hs : s.heap.IsSliceOf sl .none .none (.int (-1) tk))
    (h : Q (.ref s.heap.objs.size) { s with heap := s.heap.push { cls := .type "tuple", data := .seq items.toList.reverse.toArray } }) (hsz : items.size ≤ sizeLine) : wpAny (model prog w) A (getItem (.ref t) (.ref sl)) Q E s := by
  have htake : sizeOk (.seq items.toList.reverse.toArray) := by
    show items.toList.reverse.toArray.size ≤ sizeLine
    rw [List.size_toArray, List.length_reverse, Array.length_toList]
    exact hsz
  obtain ⟨os, hos, hcs, hds⟩ := id hs
  have hTs : s.TypeIs (.ref sl) "slice" := ⟨os, hos, hcs⟩
  unfold getItem
  try with_reducible refine wpAny_holding ?_
  first | refine wpAny_bind (wpAny_pure ?_) | skip
  refine wpAny_bind (wpAny_sequenceKey ht.typeIs (by decide) ?_)
  refine wpAny_bind (wpAny_callSpecial?_slot (name := Str.ofString "__getitem__") ht.typeIs PyProof.Rows.slot_tuple_getitem
    (wpAny_call_entry PyProof.Rows.slot_tuple_getitem ht.typeIs entry_tuple_getitem ?_ (args_tuple_getitem _ _)))
  show wpAny _ _ (Builtin.Tuple.tupleItemsOf (.ref t) >>= _) _ _ s
  refine wpAny_bind (tupleItemsOf_ ht ?_)
  refine wpAny_bind (wpAny_typeOf hTs ?_)
  rw [if_pos (by decide)]
  refine wpAny_bind (applied_rev hs ?_)
  have hno : ¬ (((items.size : Int) - 1 == 0 && (-1 : Int) == 1 && items.size == items.size) = true) := by
    intro q
    rw [Bool.and_eq_true, Bool.and_eq_true] at q
    exact absurd q.1.2 (by decide)
  show wpAny _ _ (if ((items.size : Int) - 1 == 0 && (-1 : Int) == 1 && items.size == items.size) = true then _ else _) _ _ s
  rw [if_neg hno, pick_rev]
  first
    | exact wpAny_bind (m := Builtin.Tuple.tupleExact _) (wpAny_newObj_type (wpAny_pure ⟨_, rfl, wpAny_pure h⟩) htake)
    | exact wpAny_bind (m := Builtin.Tuple.tupleExact _) (wpAny_newObj_type (wpAny_bind (wpAny_pure (wpAny_pure ⟨_, rfl, wpAny_pure h⟩))) htake)
    | exact wpAny_bind (wpAny_bind (m := Builtin.Tuple.tupleExact _) (wpAny_newObj_type (wpAny_pure (wpAny_pure ⟨_, rfl, wpAny_pure h⟩)) htake))
    | exact wpAny_bind (wpAny_bind (m := Builtin.Tuple.tupleExact _) (wpAny_newObj_type (wpAny_pure ⟨_, rfl, wpAny_pure h⟩) htake))
end
def tRevT (K : PySem.W.Frag) (te : TE) : TE := fun σ H Q => te σ H fun x H1 => ∃ a xs, x = .ref a ∧ SqT K H1 a xs ∧ ∀ p, H1 p = none → Q (.ref p) (upd H1 p (.tup xs.reverse))
theorem pe_revT {X : Cx} {e m : Expr} {te : TE} {p2 pos : Pos} (he : PE X e te) (hm : PE X m (tC (.int (-1)))) : PE X (.Subscript e (.Slice none none (some m) p2) pos) (tRevT X.K te) := by
  refine ⟨fun pins s σ H Q I h => ?_⟩
  refine Subscript_ (thn (he.run pins s σ H _ I h) fun v s1 ⟨x, H1, I1, r1, q1⟩ => ?_)
  refine wpAny_Slice (wpAny_evalPart_none (wpAny_evalPart_none (wpAny_evalPart_some (thn (hm.run pins s1 σ H1 (fun y H2 => y = .int (-1) ∧ H2 = H1) I1 ⟨rfl, rfl⟩) fun vm s3 ⟨y, H3, I3, r3, ey, eH⟩ => ?_))))
  subst ey eH
  obtain ⟨t, rfl⟩ := r3
  obtain ⟨a, xs, rfl, hx, q⟩ := q1
  cases r1
  have I4 : L2.Inv X pins σ H3 { s3 with heap := s3.heap.push { cls := .type "slice", data := .fields #[.none, .none, .int (-1) t] } } := I3.kept (t' := s3.toks) fun b ob q => Heap.get?_push_of_some _ q
  obtain ⟨its, r, ht, hz⟩ := I4.tuple hx
  have hlen := r.length
  show wpAny (model X.prog X.w) X.A (subscriptTail e (.Slice none none (some m) p2) (.ref a) (.ref s3.heap.objs.size)) (EP X pins σ Q) X.xe { s3 with heap := s3.heap.push { cls := .type "slice", data := .fields #[.none, .none, .int (-1) t] } }
  refine tail_any (ops := [.ref a, .ref s3.heap.objs.size]) ht.typeIs PyProof.Rows.slot_tuple_getitem.lookup ?_ (by with_unfolding_all rfl)
  refine getItem_tuple_rev ht (Heap.IsSliceOf.new ..) ?_ (by rw [List.size_toArray] <;> omega)
  refine ⟨.ref _, _, I4.laid (t' := s3.toks) (o := .tup xs.reverse) (fun b ob q => Heap.get?_push_of_some _ q) (Nat.le_refl _) ?_, rfl, q _ (I4.hok.fresh (Nat.le_refl _))⟩
  exact ⟨by rw [List.length_reverse]; exact hz, its.reverse, r.reverse, ⟨_, Heap.get?_push_size _ rfl, rfl, _, rfl⟩⟩
theorem pe_revTK {X : Cx} {e m : Expr} {te : TE} {p2 pos : Pos} (K : PySem.W.Frag) (he : PE X e te) (hm : PE X m (tC (.int (-1)))) (h : X.K = K := by rfl) : PE X (.Subscript e (.Slice none none (some m) p2) pos) (tRevT K te) := h ▸ pe_revT he hm
/-! ### == of data of up to 190 levels -/
def rEqL (K : PySem.W.Frag) : R2 := fun x y H Q => ∃ d e, Dp K H x d ∧ Dp K H y e ∧ d.canLay0 = true ∧ e.canLay0 = true ∧ d.depth ≤ 190 ∧ Q (.bl (PyData.eqv d e)) H
theorem op_eqL {X : Cx} (K : PySem.W.Frag) (hu : X.A.units + 190 < cLine) (hK : X.K = K := by rfl) : OpR X (compareOp .Eq) (rEqL K) := by
  subst hK
  intro pins s σ H x y v u Q I rx ry h
  obtain ⟨d, e, hd, he, sd, se, dp, q⟩ := h
  obtain ⟨as, r1⟩ := Dp.reads I d x v hd rx
  obtain ⟨bs, r2⟩ := Dp.reads I e y u he ry
  exact SeqAt.compareEq_reads r1 r2 sd se (by have := Nat.min_le_left d.depth e.depth; omega) ⟨.bl _, H, I, rfl, q⟩
/-! ### a promise that knows how large the heap was -/
structure FnY (P : Program) (w : World) (K : PySem.W.Frag) (mg : Str → Option Value) (base : Heap) (CX : CXT) (k : Nat) (f : Addr) (fd : FuncData) (ps : List Str) (sp : Nat → Sp) : Prop where
  len : ∀ n vs H Q E, sp n vs H Q E → vs.length = ps.length
  run : ∀ (A : Around) (outer : List Env) (s : Shared) (H : Hp) (args : Args) (us : List Value) (vs : List V) (Q : VK) (E : XK), Room k A → Env0 P w K mg base A outer s H → BindsTo s fd args (ps.zip us) → Vals vs us → sp s.heap.objs.size vs H Q E →
    codeAny (model P w) A (.call (.ref f) args) (CR CX outer P w H s Q E) s
section
variable {P : Program} {w : World} {K : PySem.W.Frag} {mg : Str → Option Value} {base : Heap} {CX : CXT}
theorem fnY_of {x qual : Str} {st : Stmt} {f : Addr} {fd : FuncData} {N ps : List Str} {k : Nat} {sp : Nat → Sp} (F : Fun K x qual st f fd) (S : FnScope N ps (defScope st)) (len : ∀ n vs H Q E, sp n vs H Q E → vs.length = ps.length)
    (hbody : ∀ (cdv : Value) (A : Around) (outer : List Env) (s : Shared) (H : Hp) (vs : List V) (Q : VK) (E : XK), Room k (A.deeper (envOfC qual (defScope st) s.heap.objs.size f cdv)) → sp s.heap.objs.size vs H Q E →
      ∃ t, PSs (cxOf CX P w K mg base N qual (defScope st) f cdv A outer s H E) (defBody st) t ∧ t { nx := fun _ H' => Q .non H', rt := Q } (L2.start N vs) H) : FnY P w K mg base CX (k + 1) f fd ps sp := by
  obtain ⟨oc, od, kV, doc, pm, an, cdv, ct, osl, rfl, lk, hcd⟩ := F.ex
  refine ⟨len, fun A outer s H args us vs Q E hr e0 hb r hsp => ?_⟩
  have hl := len _ _ _ _ _ hsp
  have KX : K.In s.heap := e0.mod.kin.keeps fun b o e => (e0.bs b o e).1
  have lim : s.heap.NoLimit := e0.mod.nolimit.keeps fun b o e => (e0.bs b o e).1
  have hkind : ∀ y ∈ ps.zip us, (defScope st).names.lookup y.1 = some .local ∨ ((defScope st).names.lookup y.1 = some .cell ∧ ((cellsFrom (s.heap.objs.size + 1) (defScope st).names []).lookup y.1).isSome = true) := fun ⟨n, v⟩ hy => by
    rcases S.par n (List.of_mem_zip hy).1 with q | q
    · exact .inl q
    · exact .inr ⟨q, PySem.W.cellsFrom_some _ _ _ (.inl q)⟩
  refine codeAny_call_function hr.depth (KX _ _ lk) rfl S.co S.gen rfl (PySem.W.codeRec_of KX hcd) (hb _ _ _ _ ?_)
  refine wpAny_newFunctionEnv_cells S.kind hkind fun env he s1 x => ?_
  subst he
  refine ⟨lim.keeps x.toInCall.keep, codeAny_func ?_⟩
  obtain ⟨t, ht, hq⟩ := hbody cdv A outer s H vs Q E (hr.deeper _) hsp
  have I : Inv (cxOf CX P w K mg base N qual (defScope st) f cdv A outer s H E) [] (L2.start N vs) H s1 := inv_start S hr.hd e0 hl r x
  refine wpAny_mono (ht.run [] s1 (L2.start N vs) H _ I hq) (fun fl s' hs => ?_) fun e s' hs => hs
  cases fl with
  | ret u =>
    obtain ⟨v, σ', H', J, rv, q⟩ := hs
    exact ⟨v, H', J.os, J.bare, J.base, J.hok, rv, q⟩
  | next =>
    obtain ⟨σ', H', J, q⟩ := hs
    exact ⟨V.non, H', J.os, J.bare, J.base, J.hok, rfl, q⟩
  | brk =>
    obtain ⟨_, _, _, q⟩ := hs
    exact False.elim q
  | cont =>
    obtain ⟨_, _, _, q⟩ := hs
    exact False.elim q
theorem okY {x qual : Str} {st : Stmt} {f : Addr} {fd : FuncData} {N ps : List Str} {k : Nat} {sp : Nat → Sp} (F : Fun K x qual st f fd) (S : FnScope N ps (defScope st)) (len : ∀ n vs H Q E, sp n vs H Q E → vs.length = ps.length)
    (hbody : ∀ (cdv : Value) (A : Around) (outer : List Env) (s : Shared) (H : Hp) (vs : List V) (Q : VK) (E : XK), Room k (A.deeper (envOfC qual (defScope st) s.heap.objs.size f cdv)) → sp s.heap.objs.size vs H Q E →
      ∃ t, PSs (cxOf CX0 P w K mg base N qual (defScope st) f cdv A outer s H E).nox (defBody st) t ∧ t { nx := fun _ H' => Q .non H', rt := Q } (L2.start N vs) H) : FnY P w K mg base CX0 (k + 1) f fd ps sp :=
  fnY_of F S len fun cdv A outer s H vs Q E hr hsp => let ⟨t, h, q⟩ := hbody cdv A outer s H vs Q E hr hsp; ⟨t, h.nox, q⟩
end
/-! ### for x in o, o an object whose own __iter__ hands on iter(l) -/
theorem dropH_upd {H : Hp} {a : Addr} {o : HO} (h : H a = none) : ItX.dropH (upd H a o) a = H := by
  funext b
  by_cases e : b = a
  · rw [e, ItX.dropH_same, h]
  · rw [ItX.dropH_ne e, upd_ne e]
def iOwnL (K : PySem.W.Frag) (C : Addr) (sp : Nat → Sp) (E : XK) (te : TE) : TI := fun σ H R => te σ H fun x H1 => ∃ a dx fs, x = .ref a ∧ H1 a = some (.ins C dx fs) ∧
  ∀ n, sp n [.ref a] H1 (fun v H2 => ∃ (it l : Addr), v = .ref it ∧ n ≤ it ∧ H2 it = some (ItO l it 0) ∧ R (Itl K l) (ItX.dropH H2 it)) E
theorem pi_ownL {X : Cx} {CX : CXT} {C f : Addr} {fd : FuncData} {ps : List Str} {sp : Nat → Sp} {E : XK} {n : Nat} {tg e : Expr} {te : TE} (he : PE X e te) (F : FnY X.prog X.w X.K X.mg X.base CX n f fd ps sp)
    (hs : PySem.W.findIn X.K (.ref C) "__iter__" = some (some (.ref f))) (hfn : PySem.W.isFn X.K (.ref f) = true) (hb : Binds X.K fd ps []) (hx : Passes CX X E) (hr : Room n X.A) : PI X tg e (iOwnL X.K C sp E te) := by
  refine ⟨fun pins s σ H R I h => ?_⟩
  refine thn (he.run pins s σ H _ I h) fun u s1 ⟨x, H1, I1, r1, a, dx, fs, ex, ha, hsp0⟩ => ?_
  subst ex
  cases r1
  have hsp := hsp0 s1.heap.objs.size
  obtain ⟨mA, J, _⟩ := ins_get I1.hok ha
  obtain ⟨od, J, _⟩ := J.look
  obtain ⟨m0, hF⟩ := I1.fr
  refine PySem.W.owit_iter hF I1.ok.mod.kin J hs hfn ?_
  have hl := F.len _ _ _ _ _ hsp
  refine wpAny_call (codeAny_mono (F.run X.A X.stack s1 H1 ⟨[.ref a], []⟩ [.ref a] [.ref a] _ E hr I1.env0 (by
    have := hb s1 [.ref a] I1.kIn (by simpa using hl)
    simpa using this) (.cons rfl .nil) hsp) fun r s' hq => ?_)
  cases r with
  | error e => exact hx pins σ _ _ e s' I1 hq
  | ok fl =>
    cases fl with
    | next => exact False.elim hq
    | brk => exact False.elim hq
    | cont => exact False.elim hq
    | ret u =>
      obtain ⟨v, H', I', rv, it, l, ev, young, hit, hR⟩ := I1.after hq
      subst ev
      cases rv
      have eo := itO_get I' hit
      have st : s'.heap.IsListIter it l 0 := ⟨_, eo, rfl, rfl⟩
      show wpAny _ _ (specialOf (.ref it) "__next__") _ _ _
      refine wpAny_specialOf st.typeIs slot_listiter_next.lookup ?_
      have hi' := hit
      unfold ItO at hi'
      refine ⟨it, [it], _, _, ItX.dropH H' it, rfl, ItX.inv_drop I' hi', turn_list l it, st, fun b hb => ?_, hR⟩
      have e : b = it := by simpa using hb
      rw [e]
      exact ItX.inv_fp I' hit (Nat.le_trans I1.sz young)
theorem pi_ownLK {X : Cx} {CX : CXT} {C f : Addr} {fd : FuncData} {ps : List Str} {sp : Nat → Sp} {E : XK} {n : Nat} {tg e : Expr} {te : TE} (K : PySem.W.Frag) (he : PE X e te) (F : FnY X.prog X.w X.K X.mg X.base CX n f fd ps sp)
    (hs : PySem.W.findIn X.K (.ref C) "__iter__" = some (some (.ref f))) (hfn : PySem.W.isFn X.K (.ref f) = true) (hb : Binds X.K fd ps []) (hx : Passes CX X E) (hr : Room n X.A) (h : X.K = K := by rfl) : PI X tg e (iOwnL K C sp E te) := h ▸ pi_ownL he F hs hfn hb hx hr
/-! ### list(o) -/
theorem next_lst_end {P : Program} {w : World} {A : Around} {E : Value → Shared → Prop} {s : Shared} {it t : Addr} {i : Nat} {items : Array Value} {Q : Option Value → Shared → Prop} (hh : A.handled = none)
    (hit : s.heap.IsListIter it t i) (ht : s.heap.IsList t items) (hx : items[i]? = none)
    (hQ : ∀ h', Heap.ExtBut it s.heap h' → (∃ o, h'.get? it = some o) → Q none { s with heap := h' }) : wpAny (model P w) A (pyNext (.ref it)) Q E s := by
  obtain ⟨o, ho, hc, hd⟩ := id hit
  obtain ⟨ol, hol, _, nl, hdl⟩ := ht
  unfold pyNext
  refine wpAny_bind (wpAny_attempt (wpAny_callSpecial?_slot (name := Str.ofString "__next__") hit.typeIs slot_listiter_next (wpAny_call_entry slot_listiter_next hit.typeIs entry_listiter_next ?_ (args_listiter_next _))))
  show wpAny _ _ (field (.ref it) 0 >>= _) _ _ s
  refine wpAny_bind (wpAny_field ho hd (x := .ref t) rfl (PySem.W.KFB.if_not rfl ?_))
  show wpAny _ _ (field (.ref it) 1 >>= _) _ _ s
  refine wpAny_bind (wpAny_field ho hd (x := .int i 0) rfl ?_)
  show wpAny _ _ (seqItems? (.ref t) >>= _) _ _ s
  refine wpAny_bind (wpAny_seqItems hol hdl ?_)
  simp only [Int.toNat_natCast, hx]
  refine wpAny_bind (wpAny_rule (wpAny_bind (wpAny_setField ho hd (by simp) ?_)))
  show wpAny _ _ (newExc (.type "StopIteration") [] >>= _) _ _ _
  refine wpAny_bind ?_
  simp only [newExc, newTuple]
  refine wpAny_bind (wpAny_newObj_type ?_ (by size_fits))
  refine wpAny_bind (m := firstArgMember _ _) (wpAny_of_eq (a := Value.none) (by first | rfl | (simp only [firstArgMember]; rfl)) ?_)
  refine wpAny_newObj_type ?_ (by size_fits)
  simp only [raiseNew]
  refine wpAny_bind (wpAny_handled ?_)
  first | rw [show A.in1.handled = none from hh] | rw [hh]
  refine wpAny_bind (wpAny_pure (wpAny_throw ?_))
  refine wpAny_bind (wpAny_isInstance (T := "StopIteration") (b := true) ⟨_, Heap.get?_push_size _ rfl, rfl⟩ isSubtype_stop ?_)
  exact wpAny_pure (hQ _ (((Heap.SameBut.update ..).extBut.push _).push _) ⟨_, Heap.get?_push_of_some _ (Heap.get?_push_of_some _ (Heap.get?_update_self _ ho (Obj.isFreed_of_fields (Obj.data_mapFields hd _))))⟩)
def ItL (l it : Addr) (i : Nat) : HO := .ext fun h => h.IsListIter it l i
theorem itL_ok {P : Program} {w : World} {H : Hp} {h : Heap} {t it : Addr} {i : Nat} (e : h.IsListIter it t i) : ObjOk P w H h it (ItL t it i) := by
  obtain ⟨o, ho, r⟩ := id e
  exact ⟨e, ⟨_, ho⟩, fun g1 g2 q k => q.at fun o e => k o e⟩
section
variable {X : Cx} {pins : List (Addr × Obj)} {σ : L2.St} {H : Hp} {s : Shared}
theorem itL_get {t it : Addr} {i : Nat} (I : Inv X pins σ H s) (e : H it = some (ItL t it i)) : s.heap.IsListIter it t i := (I.hok it _ e).1
/-- the loop that fills the list at q -/
theorem loop_lst {A1 : Around} {Rs : Result → Shared → Prop} {q it t : Addr} {zs : List V} (hd : A1.in1.handled = none) (hne : q ≠ it) :
    ∀ (k i : Nat) (H : Hp) (s : Shared), zs.length - i = k → i ≤ zs.length → Inv X pins σ H s → H it = some (ItL t it i) → it ≠ t → q ≠ t → H t = some (.lst zs) → H q = some (.lst (zs.take i)) →
      (∀ s', Inv X pins σ (upd (upd H it (ItTE it)) q (.lst zs)) s' → Rs (.ok (.ret .none)) s') → codeAny (model X.prog X.w) A1 (.builtin "list.extend.loop" ⟨[.ref q, .ref it, .none], []⟩) Rs s := by
  intro k
  induction k with
  | zero =>
    intro i H s hk hi I hit nit nqt ht hq hR
    obtain ⟨its, rv, pl, hz⟩ := I.list (SqL.of ht)
    have hin : zs.length = its.length := rv.length
    have mu : Mut (H it) := by rw [hit]; exact True.intro
    refine codeAny_builtin PySem.F.entry_extend_loop ?_
    rw [Around.under_plainId PySem.F.plain_extend_loop _]
    show wpAny _ A1.in1 (pyNext (.ref it) >>= _) _ _ s
    have ei : i = zs.length := by omega
    refine wpAny_bind (next_lst_end hd (itL_get I hit) pl.isList (by rw [List.getElem?_toArray]; exact List.getElem?_eq_none (by omega)) fun h' eb ⟨o, ho⟩ => wpAny_pure ?_)
    have I2 : Inv X pins σ (upd H it (ItTE it)) { s with heap := h' } := I.write (x := it) (e := it) (t' := s.toks) mu (.inl rfl) (fun b o nb z => eb b o nb z) ⟨_, ho⟩ (itTE_ok ho)
    refine hR _ ?_
    have e : upd (upd H it (ItTE it)) q (.lst zs) = upd H it (ItTE it) := by
      funext b
      by_cases hb : b = q
      · rw [hb, upd_same, upd_ne hne, hq, ei, List.take_length]
      · rw [upd_ne hb]
    rw [e]
    exact I2
  | succ k ih =>
    intro i H s hk hi I hit nit nqt ht hq hR
    obtain ⟨its, rv, pl, hz⟩ := I.list (SqL.of ht)
    have hin : zs.length = its.length := rv.length
    have mu : Mut (H it) := by rw [hit]; exact True.intro
    have hlt : i < zs.length := by omega
    have hzi := List.getElem?_eq_getElem hlt
    obtain ⟨u, hu, ru⟩ := rv.get hzi
    refine codeAny_builtin PySem.F.entry_extend_loop ?_
    rw [Around.under_plainId PySem.F.plain_extend_loop _]
    show wpAny _ A1.in1 (pyNext (.ref it) >>= _) _ _ s
    refine wpAny_bind (wpAny_pyNext_list_item (itL_get I hit) pl.isList (by rw [List.getElem?_toArray]; exact hu) fun h' hit' sb => ?_)
    obtain ⟨o, ho, _⟩ := id hit'
    have I2 : Inv X pins σ (upd H it (ItL t it (i + 1))) { s with heap := h' } := I.write (x := it) (e := it) (t' := s.toks) mu (.inl rfl) (fun b o nb z => (sb.2 b nb).trans z) ⟨_, ho⟩ (itL_ok hit')
    have hq2 : upd H it (ItL t it (i + 1)) q = some (.lst (zs.take i)) := by rw [upd_ne hne]; exact hq
    show wpAny _ A1.in1 (updateSeq q (·.push u) >>= _) _ _ _
    obtain ⟨z, its2, c, r2, hl, e⟩ := I2.lstM hq2
    have l2 : its2.length ≤ 16777215 := by
      rw [← hl, List.length_take]
      have := hz
      rw [sizeLine_eq] at this
      omega
    refine wpAny_bind (wpAny_updateSeq e rfl (wpAny_pure ⟨plainId_quiet PySem.F.plain_extend_loop _, ?_⟩) (by rw [List.size_toArray, sizeLine_eq]; omega) (by show (its2.toArray.push u).size ≤ sizeLine + 1; rw [Array.size_push, List.size_toArray, sizeLine_eq]; omega))
    have I3 := I2.lset (f := (·.push u)) (its' := its2 ++ [u]) (ys := zs.take i ++ [zs[i]]) (t' := s.toks) hq2 e (by simp) (r2.append (.cons ru .nil)) (by rw [List.length_append, List.length_singleton, List.length_take, sizeLine_eq]; rw [sizeLine_eq] at hz; omega)
    refine ih (i + 1) _ _ (by omega) (by omega) I3 ?_ nit nqt ?_ ?_ fun s' I4 => hR s' ?_
    · rw [upd_ne (Ne.symm hne), upd_same]
    · rw [upd_ne (Ne.symm nqt), upd_ne (Ne.symm nit)]
      exact ht
    · rw [upd_same, take_snoc hzi]
    · have e4 : upd (upd (upd (upd H it (ItL t it (i + 1))) q (.lst (zs.take i ++ [zs[i]]))) it (ItTE it)) q (.lst zs) = upd (upd H it (ItTE it)) q (.lst zs) := by
        funext b
        by_cases hb : b = q
        · rw [hb, upd_same, upd_same]
        · rw [upd_ne hb, upd_ne hb]
          by_cases hb2 : b = it
          · rw [hb2, upd_same, upd_same]
          · rw [upd_ne hb2, upd_ne hb2, upd_ne hb, upd_ne hb2]
      rw [← e4]
      exact I4
def rListItL (C : Addr) (sp : Nat → Sp) (E : XK) : List V → Hp → VK → Prop := fun xs H Q => ∃ a dx fs, xs = [.ref a] ∧ H a = some (.ins C dx fs) ∧
  ∀ q n, H q = none → sp n [.ref a] (upd H q (.lst [])) (fun v H1 => ∃ (it t : Addr) (zs : List V), v = .ref it ∧ H1 it = some (ItO t it 0) ∧ it ≠ t ∧ q ≠ t ∧ H1 t = some (.lst zs) ∧ H1 q = some (.lst []) ∧ (∃ dx' fs', H1 a = some (.ins C dx' fs')) ∧ Q (.ref q) (upd (upd H1 it (ItTE it)) q (.lst zs))) E
theorem call_listItL {C f : Addr} {fd : FuncData} {ps : List Str} {sp : Nat → Sp} {E : XK} {n : Nat} {CX : CXT} (hs : PySem.W.findIn X.K (.ref C) "__iter__" = some (some (.ref f))) (hfn : PySem.W.isFn X.K (.ref f) = true) (n1 : PySem.W.findIn X.K (.ref C) "__len__" = some none) (n2 : PySem.W.findIn X.K (.ref C) "__length_hint__" = some none)
    (F : FnY X.prog X.w X.K X.mg X.base CX n f fd ps sp) (hb : Binds X.K fd ps []) (hx : Passes CX X E) (hr : Room (n + 2) X.A) : CallR X (.type "list") (rListItL C sp E) := by
  intro pins s σ H xs us Q I rv h
  obtain ⟨a, dx, fs, rfl, ha, hq⟩ := h
  obtain ⟨u, rfl, ru⟩ := rv.one
  cases ru
  have sb : Sub X n X.A.in1.in1 := (Sub.in1 (Sub.in1 (⟨hr, rfl⟩ : Sub X (n + 2) X.A)))
  refine callType_codes (Q₁ := fun obj s₁ => obj = .ref s.heap.objs.size ∧ s₁ = { s with heap := s.heap.push { cls := .type "list", data := .seq #[] } }) PySem.F.called_list (PySem.F.typeCall_list_1 _) PySem.F.entry_list_init
    (code_list_new _ ⟨rfl, rfl⟩) fun obj s₁ h₁ => ?_
  obtain ⟨rfl, rfl⟩ := h₁
  have hS : (s.heap.push { cls := .type "list", data := .seq #[] }).get? s.heap.objs.size = some { cls := .type "list", data := .seq #[] } := Heap.get?_push_size _ rfl
  refine ⟨⟨_, hS, rfl⟩, PySem.F.args_list_init_2 _ _, ?_⟩
  have fr : H s.heap.objs.size = none := I.hok.fresh (Nat.le_refl _)
  have hsp := fun n => hq _ n fr
  have I1 : Inv X pins σ (upd H s.heap.objs.size (.lst [])) { s with heap := s.heap.push { cls := .type "list", data := .seq #[] } } := I.lnew (its := []) (t' := s.toks) .nil (Nat.zero_le _)
  show wpAny _ _ (do let old ← Builtin.List.listItems (.ref s.heap.objs.size); Builtin.List.listUpdate (.ref s.heap.objs.size) (fun _ => #[]); letGo old.toList.reverse; Builtin.List.listExtendWith (.ref s.heap.objs.size) (.ref a) .none) _ _ _
  refine wpAny_bind ?_
  unfold Builtin.List.listItems
  refine wpAny_bind (wpAny_seqItems hS rfl (wpAny_pure ?_))
  show wpAny _ _ (updateSeq s.heap.objs.size (fun _ => #[]) >>= fun _ => letGo (#[] : Array Value).toList.reverse >>= fun _ => Builtin.List.listExtendWith (.ref s.heap.objs.size) (.ref a) .none) _ _ _
  refine wpAny_bind (wpAny_updateSeq hS rfl ?_)
  have I2 := I1.lset (f := fun _ => #[]) (its := []) (its' := []) (ys := []) (t' := s.toks) upd_same hS rfl .nil (Nat.zero_le _)
  rw [upd_upd] at I2
  refine wpAny_bind (wpAny_letGo ?_)
  have ha2 : upd H s.heap.objs.size (.lst []) a = some (.ins C dx fs) := by rw [upd_ne (ne_of_none ha fr)]; exact ha
  have hne : s.heap.objs.size ≠ a := Ne.symm (ne_of_none ha fr)
  generalize hH2 : upd H s.heap.objs.size (.lst []) = H2 at *
  generalize s.heap.objs.size = q at *
  obtain ⟨mA, J, _⟩ := ins_get I2.hok ha2
  obtain ⟨od, J, _⟩ := J.look
  obtain ⟨m0, hF⟩ := I2.fr
  unfold Builtin.List.listExtendWith
  refine wpAny_bind (J.type.here ?_)
  have h1 : Builtin.List.listSameRef (.ref q) (.ref a) = false := by simp [Builtin.List.listSameRef, hne]
  have h2 : (Value.ref C == Value.type "list") = false := rfl
  have h3 : (Value.ref C == Value.type "tuple") = false := rfl
  simp only [h1, h2, h3, Bool.or_false, Bool.false_eq_true, if_false]
  refine wpAny_bind (PySem.W.owit_iter hF I2.ok.mod.kin J hs hfn ?_)
  have e0 : ∀ {s : Shared} {H : Hp}, Inv X pins σ H s → Env0 X.prog X.w X.K X.mg X.base X.A.in1.in1 X.stack s H := fun {s H} I => by
    have e := I.env0
    exact ⟨by rw [sb.fr]; exact e.frames, e.mod, e.bs, e.bsz, e.funs, e.frf, e.hok, e.bare⟩
  have hl := F.len _ _ _ _ _ (hsp 0)
  have r2 : Vals [V.ref a] [Value.ref a] := .cons rfl .nil
  refine wpAny_call (codeAny_mono (F.run X.A.in1.in1 X.stack _ _ ⟨[.ref a], []⟩ [.ref a] [.ref a] _ E sb.room (e0 I2) (by
    have := hb _ [.ref a] I2.kIn (by simpa using hl)
    simpa using this) r2 (hsp _)) fun r s' hq' => ?_)
  cases r with
  | error e => exact hx pins σ _ _ e s' I2 hq'
  | ok fl =>
    cases fl with
    | next => exact False.elim hq'
    | brk => exact False.elim hq'
    | cont => exact False.elim hq'
    | ret u =>
      obtain ⟨v, H', I', rv, it, t, zs, ev, hit, nit, nqt, ht, hqq, ⟨dx', fs', ha'⟩, hQ⟩ := I2.after hq'
      subst ev
      cases rv
      have stt : ∀ s'', Inv X pins σ H' s'' → s''.heap.IsListIter it t 0 := fun s'' I'' => ⟨_, itO_get I'' hit, rfl, rfl⟩
      have hT : s'.TypeIs (.ref it) "list_iterator" := (stt s' I').typeIs
      have hqi : q ≠ it := fun z => by
        rw [z, hit] at hqq
        exact (nomatch hqq)
      show wpAny _ _ (specialOf (.ref it) "__next__") _ _ _
      refine wpAny_specialOf hT slot_listiter_next.lookup ?_
      obtain ⟨mA', J', _⟩ := ins_get I'.hok ha'
      obtain ⟨od', J', _⟩ := J'.look
      refine wpAny_bind (wpAny_holding (hint_own n1 n2 I'.kIn J' ?_))
      have go : ∀ s'', Inv X pins σ H' s'' → codeAny (model X.prog X.w) X.A.in1 (.builtin "list.extend.loop" ⟨[.ref q, .ref it, .none], []⟩) (wants (fun r s₂ => r = .none ∧ EP X pins σ Q (.ref q) s₂) X.xe) s'' := fun s'' I'' =>
by
        have mu : Mut (H' it) := by rw [hit]; exact True.intro
        obtain ⟨oi, ei, _⟩ := id (stt s'' I'')
        have I5 : Inv X pins σ (upd H' it (ItL t it 0)) s'' := I''.write (x := it) (e := it) (t' := s''.toks) mu (.inl rfl) (fun b o nb z => z) ⟨_, ei⟩ (itL_ok (stt s'' I''))
        refine loop_lst (t := t) (zs := zs) sb.room.hd hqi zs.length 0 _ s'' (by simp) (Nat.zero_le _) I5 upd_same nit nqt (by rw [upd_ne (Ne.symm nit)]; exact ht) (by rw [upd_ne hqi, hqq]; rfl) fun s3 I3 => ?_
        rw [upd_upd] at I3
        exact ⟨rfl, .ref q, _, I3, rfl, hQ⟩
      obtain ⟨z, its, k, r3, hl3, e3⟩ := I'.lstM hqq
      cases r3
      refine wpAny_ite_split (fun _ => ?_) (fun _ => wpAny_pure ⟨plainId_quiet PySem.F.plain_extend_loop _, go s' I'⟩)
      refine wpAny_bind (wpAny_rule ?_)
      refine wpAny_bind ?_
      show wpAny _ _ (updateSeq q (·.push .none) >>= fun _ => updateSeq q (·.pop)) _ _ _
      refine wpAny_bind (wpAny_updateSeq e3 rfl ?_)
      have I3 := I'.lset (f := (·.push Value.none)) (its' := [Value.none]) (ys := [.non]) (t' := s'.toks) hqq e3 (by simp) (.cons rfl .nil) (by rw [List.length_singleton, sizeLine_eq]; decide)
      obtain ⟨z4, its4, k4, r4, hl4, e4⟩ := I3.lstM upd_same
      obtain ⟨u4, rfl, ru4⟩ := r4.one
      refine wpAny_updateSeq e4 rfl ?_ (by show 1 ≤ sizeLine; rw [sizeLine_eq]; decide) (by show 0 ≤ sizeLine + 1; exact Nat.zero_le _)
      have I4 := I3.lset (f := (·.pop)) (its := [u4]) (its' := []) (ys := []) (t' := s'.toks) upd_same e4 (by rfl) .nil (Nat.zero_le _)
      rw [upd_upd] at I4
      have hH : upd H' q (.lst []) = H' := by
        funext b
        by_cases hb : b = q
        · rw [hb, upd_same, hqq]
        · rw [upd_ne hb]
      rw [hH] at I4
      exact wpAny_pure ⟨plainId_quiet PySem.F.plain_extend_loop _, go _ I4⟩
end
theorem u190 {k : Nat} {A : Around} (r : Room k A) : A.units + 190 < cLine := by have := r.un; omega
end XL
set_option Elab.async false
set_option linter.all false
set_option maxRecDepth 100000
set_option maxHeartbeats 4000000
/-! XFoc: o.f = v by an own property's setter; C(..) within a try; a call that raises within a def that lets it out; a written tuple. -/
namespace XL
open PySem PySem.Spec PyProof.Rows L2
structure PSet (K : PySem.W.Frag) (C : Addr) (f : Str) (p g : Addr) : Prop where
  tk : PySem.W.takerIn K C f = some (some (.ref p))
  ty : PySem.W.typeIn K (.ref p) = some (.type "property")
  rec_ : ∃ a rest, PySem.W.recIn K p "property" = some (a :: .ref g :: rest)
def sPSet (C : Addr) (sp : Sp) (E : XK) (ta tv : TE) : TS := fun D σ H => tv σ H fun y H1 => ta σ H1 fun x H2 => ∃ a dx fs, x = .ref a ∧ H2 a = some (.ins C dx fs) ∧ sp [.ref a, y] H2 (fun _ H3 => D.nx σ H3) E
section
variable {X : Cx} {CX : CXT} {k : Nat} {C p g : Addr} {f : Str} {fd : FuncData} {ps : List Str} {sp : Sp} {E : XK} {o value : Expr} {pos pos' : Pos} {ta tv : TE}
theorem Room.in2 {k : Nat} {A : Around} (r : Room (k + 2) A) : Room k A.in1.in1 := (Room.in1 (Room.in1 r))
/-- o.f = v, f a property with a setter -/
theorem ps_pset (ha : PE X o ta) (hv : PE X value tv) (c : Cls X.K C) (hp : PSet X.K C f p g) (F : FnOk X.prog X.w X.K X.mg X.base CX k g fd ps sp) (hr : Room (k + 2) X.A) (hb : Binds X.K fd ps []) (hx : Passes CX X E)
    (hs : swapsWith value (some (.Attribute o f pos')) pos.line X.env = pure false) : PS X (.Assign [.Attribute o f pos'] value pos) (sPSet C sp E ta tv) := by
  refine ⟨fun pins s σ H D I h => ?_⟩
  refine plainObj_wpAny_Assign_Attribute (thn (hv.run pins s σ H _ I h) fun u s1 ⟨y, H1, I1, ry, q⟩ => thn (ha.run pins s1 σ H1 _ I1 q) fun ov s2 ⟨x, H2, I2, rx, a, dx, fs, ex, ea, q2⟩ => ?_) hs
  subst ex
  obtain rfl : ov = Value.ref a := rx
  obtain ⟨mA, O, _, _, _, _⟩ := ins_get I2.hok ea
  obtain ⟨od, J, _⟩ := O.look
  obtain ⟨a0, rest, hrec⟩ := hp.rec_
  have I3 := I2.tok (s2.toks + 1)
  have hl : ([Value.ref a, u] : List Value).length = ps.length := by
    rw [← F.len _ _ _ _ q2]
    rfl
  refine PySem.W.set_plain I2.kIn J c.sa (PySem.W.osa_descr PySem.W.KF.slot_pset I3.kIn J c.po hp.tk hp.ty (PySem.W.prop_set I3.kIn hrec ?_))
  have b := hb { s2 with toks := s2.toks + 1 } [.ref a, u] I3.kIn (by rw [List.append_nil]; exact hl)
  rw [List.append_nil] at b
  refine codeAny_mono (F.run X.A.in1.in1 X.stack { s2 with toks := s2.toks + 1 } H2 ⟨[.ref a, u], []⟩ [.ref a, u] [.ref a, y] _ E (Room.in2 hr) I3.env0.in1.in1 b (.cons rfl (.cons ry .nil)) q2) fun r s' hq => ?_
  cases r with
  | error e => exact hx pins σ _ _ e s' I3 hq
  | ok fl =>
    cases fl with
    | ret u =>
      obtain ⟨v, H', I', rv, q3⟩ := I3.after hq
      exact ⟨σ, H', I', q3⟩
    | next => exact False.elim hq
    | brk => exact False.elim hq
    | cont => exact False.elim hq
end
/-- what leaves a def by its own promise -/
theorem passO {X : Cx} {E : XK} (tk : Takes X (fun cls d _ H => E cls d H)) : Passes (L2.CX X.prog X.w) X E := fun pins σ H s e s' I c => passes_call tk (fun _ _ _ _ h => h) pins σ H s e s' I c
section
variable {X : Cx} {CX : CXT} {k : Nat} {f C : Addr} {fd : FuncData} {ps : List Str} {ds : List Value} {dvs : List V} {sp : Sp} {E : L2.St → XK} {x : Str} {p pos : Pos} {e : Expr} {es : List Expr} {t : TA}
theorem run_makeT {pins : List (Addr × Obj)} {σ : L2.St} {H : Hp} {s : Shared} {Q : VK} {us : List Value} {vs : List V} (M : Mk X.K C f) (F : FnOk X.prog X.w X.K X.mg X.base CX k f fd ps sp) (hr : Room (k + 1) X.A) (hb : Binds X.K fd ps ds) (hd : Vals dvs ds)
    (hx : PassesAt CX X σ (E σ)) (I : Inv X pins σ H s) (r : Vals vs us)
    (h : ∀ x dx, H x = none → H dx = none → dx ≠ x → sp (.ref x :: (vs ++ dvs)) (upd (upd H dx (.own x)) x (.ins C dx [])) (fun v H2 => v = .non ∧ Q (.ref x) H2) (E σ)) :
    wpAny (model X.prog X.w) X.A (call (.ref C) us) (EP X pins σ Q) X.xe s := by
  have hq := h (s.heap.objs.size + 1) s.heap.objs.size (I.hok.fresh (Nat.le_succ _)) (I.hok.fresh (Nat.le_refl _)) (Nat.ne_of_lt (Nat.lt_succ_self _))
  have I2 := Inv.made (C := C) I
  have r2 : Vals (V.ref (s.heap.objs.size + 1) :: (vs ++ dvs)) (Value.ref (s.heap.objs.size + 1) :: (us ++ ds)) := .cons rfl (r.append hd)
  have hl : (Value.ref (s.heap.objs.size + 1) :: us ++ ds).length = ps.length := by
    have e := r2.length
    rw [F.len _ _ _ _ hq] at e
    exact e.symm
  refine wpAny_call (make_map (f := f) I.kIn M.makes M.init (beq_iff_eq.mp M.fn) (codeAny_mono (F.run _ X.stack _ _ ⟨Value.ref (s.heap.objs.size + 1) :: us, []⟩ (Value.ref (s.heap.objs.size + 1) :: (us ++ ds)) _ _ (E σ) (hr.make C us [])
    (I2.env0.make C us []) (hb _ (Value.ref (s.heap.objs.size + 1) :: us) I2.kIn hl) r2 hq) fun r s' hq' => ?_))
  cases r with
  | error e => exact hx pins _ _ e s' I2 hq'
  | ok fl =>
    cases fl with
    | ret u =>
      obtain ⟨v, H', I3, rv, ev, q3⟩ := I2.after hq'
      subst ev
      exact ⟨rv, ⟨V.ref (s.heap.objs.size + 1), H', I3, rfl, q3⟩⟩
    | next => exact False.elim hq'
    | brk => exact False.elim hq'
    | cont => exact False.elim hq'
def tMakeT (C : Addr) (sp : Sp) (dvs : List V) (E : L2.St → XK) (t : TA) : TE := fun σ H Q => t σ H fun vs H1 => ∀ x dx, H1 x = none → H1 dx = none → dx ≠ x → sp (.ref x :: (vs ++ dvs)) (upd (upd H1 dx (.own x)) x (.ins C dx [])) (fun v H2 => v = .non ∧ Q (.ref x) H2) (E σ)
/-- C(e, ..) within a try -/
theorem pe_makeT (M : Mk X.K C f) (F : FnOk X.prog X.w X.K X.mg X.base CX k f fd ps sp) (hr : Room (k + 1) X.A) (hg : Gl X x) (hm : X.mg x = some (.ref C)) (hb : Binds X.K fd ps ds) (hd : Vals dvs ds) (hx : ∀ σ, PassesAt CX X σ (E σ))
    (ha : PA X (e :: es) t) (hdb : (x == ("__debug__" : Str)) = false := by decide) (he : starEach (e :: es) X.env = (false, eval e X.env) :: starEach es X.env := by rfl) (hpl : (backTo pos (starEach es X.env)).any (·.1) = false := by rfl) :
    PE X (.Call (.Name x p) (e :: es) [] pos) (tMakeT C sp dvs E t) := by
  refine ⟨fun pins s σ H Q I h => ?_⟩
  refine wpAny_Call_Name_kw (ld_glob I hg hm ?_ hdb)
  refine PySem.W.callWith_K (h₀ := X.base) I.ok.mod.kin M.kp (thn (ha.run pos pins s σ H _ I h) fun us s1 ⟨vs, H1, I1, r, q⟩ => ⟨I1.kIn, ?_⟩) he hpl
  exact run_makeT M F hr hb hd (hx σ) I1 r q
end
/-- the calls of a def with one default: with and without it -/
structure Dfl1 (K : PySem.W.Frag) (fd : FuncData) (ps : List Str) (dv : V) : Prop where
  all : Binds K fd ps []
  one : ∃ ds, Vals [dv] ds ∧ Binds K fd ps ds
end XL
namespace XL
open PySem PySem.Spec PyProof.Rows L2
section
variable {X : Cx} {pos : Pos}
theorem pg_unlK (K : PySem.W.Frag) (n : Nat) {es : List Expr} {k : Nat} {t : TGs} (h : PGs X es t) (hc : X.calm = true := by rfl) (hK : X.K = K := by rfl)
    (hn : (assignEach es X.env).length = n := by rfl) (hst : (assignEach es X.env).findIdx? (·.1) = none := by rfl) : PG X (.Tuple es k pos) (gUnl K n t) := hK ▸ pg_unl hc h hn hst
theorem mt_indexK (K : PySem.W.Frag) (hK : X.K = K := by rfl) : MtR X "list.index" (rIndex K) := hK ▸ mt_index
end
end XL
set_option Elab.async false
set_option linter.all false
set_option maxRecDepth 100000
set_option maxHeartbeats 4000000
/-! XDel: del xs[a:]. -/
namespace XL
open PySem PySem.Spec PyProof.Rows L2
section
variable {prog : Program} {w : World} {A : Around} {E : Value → Shared → Prop} {s : Shared}
def selF (a n : Int) (i : Nat) : Bool := if (1 : Int) > 0 then a ≤ i && i < n && ((i : Int) - a) % 1 == 0 else n < i && i ≤ a && (a - i) % (-1) == 0
theorem selF_eq (a n i : Nat) : selF (a : Int) (n : Int) i = (decide (a ≤ i) && decide (i < n)) := by
  unfold selF
  rw [if_pos (by decide)]
  have h : (((i : Int) - (a : Int)) % 1 == 0) = true := by rw [Int.emod_one]; rfl
  rw [h, Bool.and_true]
  congr 1
  · exact decide_eq_decide.mpr Int.ofNat_le
  · exact decide_eq_decide.mpr Int.ofNat_lt
theorem zip_keep : ∀ (xs : List Value) (j a n : Nat), j + xs.length ≤ n → ((xs.zipIdx j).filterMap fun (p : Value × Nat) => if (selF (a : Int) (n : Int) p.2) = true then none else some p.1) = xs.take (a - j)
  | [], _, _, _, _ => by simp
  | x :: r, j, a, n, h => by
    rw [List.length_cons] at h
    rw [List.zipIdx_cons, List.filterMap_cons, selF_eq]
    have ih := zip_keep r (j + 1) a n (by omega)
    by_cases hj : a ≤ j
    · have e1 : (decide (a ≤ j) && decide (j < n)) = true := by rw [decide_eq_true hj, decide_eq_true (by omega)]; rfl
      have e0 : a - j = 0 := by omega
      have e2 : a - (j + 1) = 0 := by omega
      rw [e2, List.take_zero] at ih
      rw [e0, List.take_zero]
      simp only [e1, if_true]
      exact ih
    · have e1 : (decide (a ≤ j) && decide (j < n)) = false := by rw [decide_eq_false hj]; rfl
      have e0 : a - j = a - (j + 1) + 1 := by omega
      rw [e0, List.take_succ_cons, ← ih]
      simp only [e1, Bool.false_eq_true, if_false]
theorem bounds_from {a n : Nat} (h : a ≤ n) : sliceBounds (some (a : Int)) none none n = ((a : Int), (n : Int), 1) := by
  simp only [sliceBounds, Option.getD_none]
  have h1 : ¬ ((a : Int) < 0) := by omega
  simp only [h1, if_false, show (1 : Int) > 0 by decide, if_true]
  congr 1
  omega
/-- list.__delitem__ with a slice from a place on -/
theorem delItem_from {l sl : Addr} {items : Array Value} {n : Nat} {vl : Value} {a : Nat} {Q : Unit → Shared → Prop}
    (e : s.heap.get? l = some { cls := .type "list", data := .seq items n }) (hs : s.heap.IsSliceOf sl vl .none .none) (pl : IsPart vl (some (a : Int))) (hac : a ≤ items.size) (hsz : items.size ≤ sizeLine)
    (h : Q () { s with heap := s.heap.update l (Obj.mapSeq fun xs => (xs.toList.zipIdx.filterMap fun (p : Value × Nat) => if (selF (a : Int) (items.size : Int) p.2) = true then none else some p.1).toArray) }) :
    wpAny (model prog w) A (delItem (.ref l) (.ref sl)) Q E s := by
  have hl : s.heap.IsList l items := PySem.IsL.isList e
  obtain ⟨os, hos, hcs, hds⟩ := id hs
  have hTs : s.TypeIs (.ref sl) "slice" := ⟨os, hos, hcs⟩
  have hstep : ¬ ((rawPart none == rawInt 0) = true) := Bool.false_ne_true
  have hz' : ((fun xs : Array Value => (xs.toList.zipIdx.filterMap fun (p : Value × Nat) => if (selF (a : Int) (items.size : Int) p.2) = true then none else some p.1).toArray) items).size ≤ sizeLine + 1 := by
    show (_ : List Value).toArray.size ≤ _
    rw [List.size_toArray, zip_keep items.toList 0 a items.size (by rw [Array.length_toList]; omega), List.length_take, Array.length_toList]
    omega
  unfold delItem
  try with_reducible refine wpAny_holding ?_
  first | refine wpAny_bind (wpAny_pure ?_) | skip
  refine wpAny_bind (wpAny_sequenceKey hl.typeIs (by decide) ?_)
  refine wpAny_bind (wpAny_callSpecial?_slot (name := Str.ofString "__delitem__") hl.typeIs PySem.F.slot_list_delitem
    (wpAny_call_entry PySem.F.slot_list_delitem hl.typeIs PySem.F.entry_list_delitem ?_ (PySem.F.args_list_delitem_2 _ _)))
  show wpAny _ _ (Builtin.List.listSubscript? (.ref sl) >>= _) _ _ s
  refine wpAny_bind ?_
  unfold Builtin.List.listSubscript?
  refine wpAny_bind (wpAny_specialOf hTs slice_no_index ?_)
  simp only [Option.isNone_none, if_true]
  refine wpAny_pure ?_
  show wpAny _ _ (typeOf (.ref sl) >>= _) _ _ s
  refine wpAny_bind (wpAny_typeOf hTs ?_)
  first
    | rw [if_neg (by decide)]
    | refine PySem.W.KFB.if_not (by decide) ?_
  rw [listSliceParts_eq]
  refine wpAny_bind (wpAny_bind (wpAny_field hos hds (x := .none) rfl (wpAny_bind (wpAny_listPart .none ?_))))
  rw [if_neg hstep]
  refine wpAny_bind (wpAny_field hos hds (x := vl) rfl (wpAny_bind (wpAny_listPart pl ?_)))
  refine wpAny_bind (wpAny_field hos hds (x := .none) rfl (wpAny_bind (wpAny_listPart .none (wpAny_pure ?_))))
  unfold Builtin.List.listItems
  refine wpAny_bind (wpAny_bind (wpAny_seqItems e rfl (wpAny_pure ?_)))
  refine wpAny_bind (wpAny_of_eq ((sliceIndices_raw (some (a : Int)) none none items.size (by simp)).trans (congrArg (pure : Int × Int × Int → Sem (Int × Int × Int)) (bounds_from hac))) ?_)
  refine wpAny_bind (wpAny_rule ?_)
  show wpAny _ _ (updateSeq l (fun xs => (xs.toList.zipIdx.filterMap fun (p : Value × Nat) => if (selF (a : Int) (items.size : Int) p.2) = true then none else some p.1).toArray) >>= _) _ _ s
  refine wpAny_bind (wpAny_updateSeq (hz := hsz) (_hz' := hz') e rfl ?_)
  refine wpAny_bind (wpAny_letGo ?_)
  first
    | exact wpAny_bind (wpAny_pure (wpAny_pure ⟨.none, rfl, wpAny_pure h⟩))
    | exact wpAny_pure ⟨.none, rfl, wpAny_pure h⟩
end
section
variable {X : Cx} {pos : Pos}
def tDelF (to ti : TE) : TS := fun D σ H => to σ H fun x H1 => ti σ H1 fun y H2 => ∃ (l : Addr) (xs : List V) (k : Nat), x = .ref l ∧ y = .int (k : Nat) ∧ H2 l = some (.lst xs) ∧ k ≤ xs.length ∧ D.nx σ (upd H2 l (.lst (xs.take k)))
theorem ps_delFrom {o lo : Expr} {to ti : TE} {p2 tpos : Pos} (ho : PE X o to) (hi : PE X lo ti) : PS X (.Delete [.Subscript o (.Slice (some lo) none none p2) tpos] pos) (tDelF to ti) := by
  refine ⟨fun pins s σ H D I h => ?_⟩
  refine wpAny_Delete (wpAny_deleteEach_cons (wpAny_delete_Subscript (thn (ho.run pins s σ H _ I h) fun u s1 ⟨x, H1, I1, rx, q1⟩ => ?_)))
  refine wpAny_Slice (wpAny_evalPart_some (thn (hi.run pins s1 σ H1 _ I1 q1) fun iv s2 ⟨y, H2, I2, ry, q2⟩ => wpAny_evalPart_none (wpAny_evalPart_none ?_)))
  obtain ⟨l, xs, k, rfl, rfl, hH, hk, q2⟩ := q2
  cases (show u = Value.ref l from rx)
  obtain ⟨t, rfl⟩ := (show ∃ t, iv = Value.int (k : Nat) t from ry)
  have I4 : L2.Inv X pins σ H2 { s2 with heap := s2.heap.push { cls := .type "slice", data := .fields #[.int (k : Nat) t, .none, .none] } } := I2.kept (t' := s2.toks) fun b ob q => Heap.get?_push_of_some _ q
  obtain ⟨z, its, n, r, hl, e⟩ := I4.lstM hH
  refine delItem_from (a := k) e (Heap.IsSliceOf.new ..) (.int _ _) (by rw [List.size_toArray, ← hl]; exact hk) (by rw [List.size_toArray]; omega) ?_
  refine wpAny_deleteEach_nil ⟨σ, _, I4.lset (its' := its.take k) (t' := s2.toks) hH e ?_ (r.take k) ?_, q2⟩
  · show (_ : List Value).toArray = _
    rw [zip_keep its 0 k _ (by rw [List.size_toArray]; omega)]
    rfl
  · rw [List.length_take]
    omega
end
theorem Sep.setAt {G H : Hp} {M : List (Addr × HO)} {i : Nat} {a : Addr} {o o' : HO} (S : Sep G M H) (h : M[i]? = some (a, o)) : Sep G (M.set i (a, o')) (upd H a o') := by
  have hi := (List.getElem?_eq_some_iff.mp h).1
  have S1 := S.perm (perm_erase h).symm
  have S2 := S1.set (o' := o')
  have e : (M.set i (a, o'))[i]? = some (a, o') := List.getElem?_set_self hi
  have p := perm_erase e
  rw [List.eraseIdx_set_eq] at p
  exact S2.perm p
end XL
namespace XL
open PySem PySem.Spec PyProof.Rows L2
/-! ### a text, several times -/
def repS (x : Str) (k : Nat) : Str := ⟨(List.replicate k x.cps).foldl (· ++ ·) #[]⟩
theorem foldl_cps : ∀ (k : Nat) (a : Array Nat) (x : Array Nat), ((List.replicate k x).foldl (· ++ ·) a).toList = a.toList ++ (List.replicate k x.toList).flatten
  | 0, a, x => by simp
  | k + 1, a, x => by
    rw [List.replicate_succ, List.foldl_cons, foldl_cps k, List.replicate_succ, List.flatten_cons]
    simp
theorem repS_tl (x : Str) (k : Nat) : (repS x k).cps.toList = (List.replicate k x.cps.toList).flatten := by
  have := foldl_cps k #[] x.cps
  simpa [repS] using this
theorem repS_len (x : Str) : ∀ k : Nat, (repS x k).length = k * x.length := by
  intro k
  rw [len_tl, repS_tl]
  induction k with
  | zero => simp
  | succ k ih =>
    rw [List.replicate_succ, List.flatten_cons, List.length_append, ih, ← len_tl, Nat.succ_mul]
    omega
theorem repS_mem {x : Str} {k c : Nat} (h : c ∈ (repS x k).cps.toList) : c ∈ x.cps.toList := by
  rw [repS_tl] at h
  obtain ⟨l, hl, hc⟩ := List.mem_flatten.mp h
  rw [(List.mem_replicate.mp hl).2] at hc
  exact hc
def yMulS : R2 := fun x y H Q => match x, y with
  | .str z, .int k => 2 ≤ k ∧ k ≤ 1000 ∧ 1 ≤ z.length ∧ z.length ≤ 1000 ∧ Q (.str (repS z k.toNat)) H
  | _, _ => False
theorem op_mulS {X : Cx} : OpR X (binaryOp .Mult) yMulS := by
  intro pins s σ H x y v u Q I rx ry h
  unfold yMulS at h
  split at h
  · rename_i z k
    obtain ⟨h1, h2, h3, h4, q⟩ := h
    obtain ⟨t, rfl⟩ := rx
    obtain ⟨t', rfl⟩ := ry
    have hk : ¬ k < 1 := by omega
    have hc : (k == 1 || z.length == 0) = false := by
      rw [Bool.or_eq_false_iff]
      exact ⟨beq_eq_false_iff_ne.mpr (by omega), beq_eq_false_iff_ne.mpr (by omega)⟩
    have hl : z.length * k.toNat ≤ 1000 * 1000 := Nat.mul_le_mul h4 (by omega)
    refine P.mul_str (by rw [decide_eq_false (by omega), decide_eq_false (by omega)]; rfl) (fun _ _ h => ?_) (fun _ _ => ?_) ?_
    · have : (z.length : Int) ≤ (2 ^ 63 - 1) / k := by
        rw [Int.le_ediv_iff_mul_le (by omega)]
        have e : (z.length : Int) * k = ((z.length * k.toNat : Nat) : Int) := by rw [Int.natCast_mul, Int.toNat_of_nonneg (by omega)]
        rw [e]
        omega
      omega
    · unfold Builtin.Str.tooLong
      exact decide_eq_false (by rw [sizeLine_eq]; omega)
    · rw [if_neg hk, if_neg (by rw [hc]; decide)]
      refine ⟨?_, .str (repS z k.toNat), H, I.tok _, ⟨_, rfl⟩, q⟩
      show (repS z k.toNat).length ≤ sizeLine
      rw [repS_len, sizeLine_eq, Nat.mul_comm]
      omega
  · exact h.elim
end XL
set_option Elab.async false
set_option linter.all false
set_option maxRecDepth 100000
set_option maxHeartbeats 4000000
/-! XPage: x in o by an own __contains__. -/
namespace XL
open PySem PySem.Spec PyProof.Rows L2
section
variable {X : Cx} {CX : CXT} {C f : Addr} {fd : FuncData} {ps : List Str} {sp : Sp} {E : XK} {n : Nat}
def yInO (C : Addr) (sp : Sp) (E : XK) (ng : Bool) : R2 := fun x y H Q => ∃ a dx fs, y = .ref a ∧ H a = some (.ins C dx fs) ∧ sp [.ref a, x] H (fun v H' => match v with
  | .bl b => Q (.bl (if ng = true then !b else b)) H'
  | _ => False) E
theorem op_inO (F : FnOk X.prog X.w X.K X.mg X.base CX n f fd ps sp) (hs : PySem.W.findIn X.K (.ref C) "__contains__" = some (some (.ref f))) (hf : PySem.W.isFn X.K (.ref f) = true) (hb : Binds X.K fd ps []) (hx : Passes CX X E) (hr : Room n X.A) : OpR X (compareOp .In) (yInO C sp E false) := by
  intro pins s σ H x y u v Q I rx ry h
  obtain ⟨a, dx, fs, rfl, ha, hsp⟩ := h
  cases ry
  obtain ⟨mA, J1, _⟩ := ins_get I.hok ha
  obtain ⟨od, J1, _⟩ := J1.look
  obtain ⟨m, hF⟩ := I.fr
  refine PySem.W.in_K hF I.ok.mod.kin J1 hs hf (wpAny_mono (run_fn (us := [.ref a, u]) (vs := [.ref a, x]) (dvs := []) F hr hb .nil hx I (.cons rfl (.cons rx .nil)) hsp) (fun r s' q => ?_) fun _ _ e => e)
  obtain ⟨z, H', I', rz, q⟩ := q
  cases z with
  | bl b =>
    cases rz
    exact wpAny_truthy_bool ⟨.bl b, H', I', rfl, q⟩
  | _ => exact q.elim
theorem op_ninO (F : FnOk X.prog X.w X.K X.mg X.base CX n f fd ps sp) (hs : PySem.W.findIn X.K (.ref C) "__contains__" = some (some (.ref f))) (hf : PySem.W.isFn X.K (.ref f) = true) (hb : Binds X.K fd ps []) (hx : Passes CX X E) (hr : Room n X.A) : OpR X (compareOp .NotIn) (yInO C sp E true) := by
  intro pins s σ H x y u v Q I rx ry h
  obtain ⟨a, dx, fs, rfl, ha, hsp⟩ := h
  cases ry
  obtain ⟨mA, J1, _⟩ := ins_get I.hok ha
  obtain ⟨od, J1, _⟩ := J1.look
  obtain ⟨m, hF⟩ := I.fr
  refine PySem.W.notIn_K hF I.ok.mod.kin J1 hs hf (wpAny_mono (run_fn (us := [.ref a, u]) (vs := [.ref a, x]) (dvs := []) F hr hb .nil hx I (.cons rfl (.cons rx .nil)) hsp) (fun r s' q => ?_) fun _ _ e => e)
  obtain ⟨z, H', I', rz, q⟩ := q
  cases z with
  | bl b =>
    cases rz
    exact wpAny_truthy_bool ⟨.bl (!b), H', I', rfl, q⟩
  | _ => exact q.elim
end
theorem _root_.L2.Room.u190 {k : Nat} {A : Around} (r : L2.Room k A) : A.units + 190 < cLine := by have := r.un; omega
/-! ### == and != of data of up to 190 levels, and of plain values -/
def rNeL (K : PySem.W.Frag) : R2 := fun x y H Q => ∃ d e, Dp K H x d ∧ Dp K H y e ∧ d.canLay0 = true ∧ e.canLay0 = true ∧ d.depth ≤ 190 ∧ Q (.bl (!PyData.eqv d e)) H
theorem op_neL {X : Cx} (K : PySem.W.Frag) (hu : X.A.units + 190 < cLine) (hK : X.K = K := by rfl) : OpR X (compareOp .NotEq) (rNeL K) := by
  subst hK
  intro pins s σ H x y v u Q I rx ry h
  obtain ⟨d, e, hd, he, sd, se, dp, q⟩ := h
  obtain ⟨as, r1⟩ := Dp.reads I d x v hd rx
  obtain ⟨bs, r2⟩ := Dp.reads I e y u he ry
  exact SeqAt.compareNe_reads r1 r2 sd se (by have := Nat.min_le_left d.depth e.depth; omega) ⟨.bl _, H, I, rfl, q⟩
def yEqL (K : PySem.W.Frag) : R2 := fun x y H Q => match x, y with
  | .int i, .int j => Q (.bl (decide (i = j))) H
  | .str i, .str j => Q (.bl (decide (i = j))) H
  | .bl i, .bl j => Q (.bl (decide (i = j))) H
  | .ref a, .ref b => rEqL K (.ref a) (.ref b) H Q
  | x, y => scal x y = true ∧ Q (.bl (decide (x = y))) H
def yNeL (K : PySem.W.Frag) : R2 := fun x y H Q => match x, y with
  | .int i, .int j => Q (.bl (!decide (i = j))) H
  | .str i, .str j => Q (.bl (!decide (i = j))) H
  | .bl i, .bl j => Q (.bl (!decide (i = j))) H
  | .ref a, .ref b => rNeL K (.ref a) (.ref b) H Q
  | x, y => scal x y = true ∧ Q (.bl (!decide (x = y))) H
theorem op_eqLK {X : Cx} (K : PySem.W.Frag) (hu : X.A.units + 190 < cLine) (hK : X.K = K := by rfl) : OpR X (compareOp .Eq) (yEqL K) := by
  refine or_str (OpR.or (op_eq (X := X)) (op_eqL K hu hK)) fun x y H Q h => ?_
  unfold yEqL at h
  split at h
  · exact .inl ⟨rfl, by rw [deci]; exact h⟩
  · exact .inl ⟨rfl, by rw [decs]; exact h⟩
  · exact .inl ⟨rfl, by rw [decb]; exact h⟩
  · exact .inr h
  · exact .inl h
theorem op_neLK {X : Cx} (K : PySem.W.Frag) (hu : X.A.units + 190 < cLine) (hK : X.K = K := by rfl) : OpR X (compareOp .NotEq) (yNeL K) := by
  refine or_str (OpR.or (op_ne (X := X)) (op_neL K hu hK)) fun x y H Q h => ?_
  unfold yNeL at h
  split at h
  · exact .inl ⟨rfl, by rw [deci]; exact h⟩
  · exact .inl ⟨rfl, by rw [decs]; exact h⟩
  · exact .inl ⟨rfl, by rw [decb]; exact h⟩
  · exact .inr h
  · exact .inl h
end XL
set_option Elab.async false
set_option linter.all false
set_option maxRecDepth 100000
set_option maxHeartbeats 4000000
/-! XCnt: xs.count(x) of data. -/
namespace XL
open PySem PySem.Spec PyProof.Rows L2
theorem _root_.L2.Room.u65 {k : Nat} {A : Around} (r : L2.Room k A) : A.units + 65 < cLine := by have := r.un; omega
def rCntD (K : PySem.W.Frag) : V → List V → Hp → VK → Prop := fun x xs H Q => ∃ (a : Addr) (y : V) (ys : List V) (d : PyData) (ds : List PyData), x = V.ref a ∧ xs = [y] ∧ SqL K H a ys ∧ DpAll K H ys ds ∧ Dp K H y d ∧
  PyData.canLayAll0 ds = true ∧ SeqAt.shaped d = true ∧ Q (.int ((ds.countP fun z => PyData.eqv z d : Nat) : Int)) H
theorem mt_countD {X : Cx} (K : PySem.W.Frag) (hu : X.A.units + 65 < cLine) (h : X.K = K := by rfl) : MtR X "list.count" (rCntD K) := by
  subst h
  intro pins s σ H x xs v us Q I rx rxs h
  obtain ⟨a, y, ys, d, ds, rfl, rfl, hs, ha, hy, hxs, sd, q⟩ := h
  cases rx
  cases rxs with
  | cons ry rt =>
    rename_i uy ut
    cases rt
    obtain ⟨bs, r1⟩ := Dp.reads I d y uy hy ry
    have hroom : X.A.units + 1 + min (PyData.depthAll ds) d.depth < cLine := room_in_shaped sd hu
    obtain ⟨its, rv, ⟨⟨cls, dd, data, sl⟩, n, ho, hc, hdn, hd⟩, hlen⟩ := I.list hs
    simp only at hc hd
    subst hc hd
    obtain ⟨as, h4⟩ := Dp.readsAll I ds _ its ha rv
    have hmap : its.map (SeqAt.readOf s.heap) = ds := SeqAt.readsAll_map ds its as hxs h4
    refine call_meets PySem.F.slot_list_count ⟨_, ho, rfl⟩ PySem.F.entry_list_count (PySem.F.args_list_count_2 _ _)
      (SeqAt.list_countAt a its.toArray n dd sl uy (fun u => PyData.eqv (SeqAt.readOf s.heap u) d)) ⟨ho, SeqAt.items_eqAt (vs := its.toArray) (show ReadsAll s.heap its.toArray.toList ds as from h4) r1 hxs (SeqAt.canLay_of_shaped sd) hroom, ?_⟩
    have ec : its.toArray.toList.countP (fun u => PyData.eqv (SeqAt.readOf s.heap u) d) = ds.countP fun z => PyData.eqv z d := by
      rw [← hmap, List.countP_map]
      rfl
    refine ⟨.int ((ds.countP fun z => PyData.eqv z d : Nat) : Int), H, I.tok _, ⟨s.toks, ?_⟩, q⟩
    show Value.int ((its.toArray.toList.countP (fun u => PyData.eqv (SeqAt.readOf s.heap u) d) : Nat) : Int) s.toks = Value.int ((ds.countP fun z => PyData.eqv z d : Nat) : Int) s.toks
    rw [ec]
end XL
set_option Elab.async false
set_option linter.all false
set_option maxRecDepth 100000
set_option maxHeartbeats 4000000
/-! XPat: tuples that are put together and cut. -/
namespace XL
open PySem PySem.Spec PyProof.Rows L2
section
variable {K : PySem.W.Frag} {G H : Hp} {M : List (Addr × HO)} {a b : Addr} {xs ys : List V} {Q : VK}
theorem op_catAK {X : Cx} (K : PySem.W.Frag) (h : X.K = K := by rfl) : OpR X (binaryOp .Add) (rCatA K) := h ▸ op_catA
theorem cat_ok (S : Sep G M H) (ha : SqT K G a xs) (hb : SqT K G b ys) (hl : xs.length + ys.length ≤ sizeLine) (q : ∀ c G' H', Same G G' → SqT K G' c (xs ++ ys) → Sep G' M H' → Q (.ref c) H') : rCatA K (.ref a) (.ref b) H Q := by
  refine ⟨a, b, xs, ys, rfl, rfl, S.t ha, S.t hb, hl, fun e => ?_, fun _ e => ?_, fun _ _ p np => ?_⟩
  · subst e
    exact q b G H (Same.refl G) hb S
  · subst e
    exact q a G H (Same.refl G) (by rw [List.append_nil]; exact ha) S
  · exact q p _ _ (S.grow np) (SqT.of upd_same) (S.newG np)
theorem cutA_ok {lo hi : Option Int} (S : Sep G M H) (ha : SqT K G a xs) (q : ∀ c G' H', Same G G' → SqT K G' c (cutV xs lo hi) → Sep G' M H' → Q (.ref c) H') : rSlA K (.ref a) lo hi H Q := by
  refine ⟨a, xs, rfl, S.t ha, fun e => ?_, fun _ p np => ?_⟩
  · refine q a G H (Same.refl G) ?_ S
    have : cutV xs lo hi = xs := by
      unfold cutV
      rw [e.1, e.2, Nat.sub_zero, List.drop_zero, List.take_length]
    rw [this]
    exact ha
  · exact q p _ _ (S.grow np) (SqT.of upd_same) (S.newG np)
end
theorem sqT_ty {K : PySem.W.Frag} {H : Hp} {a : Addr} {xs : List V} (h : SqT K H a xs) : TyX K H (.ref a) (.type "tuple") := by
  rcases h with (h | ⟨o, h⟩) | ⟨o, _, _, h, c, _⟩
  · exact .base (.tup h)
  · exact .fTuple h
  · exact .kTuple h c
end XL
set_option Elab.async false
set_option linter.all false
set_option maxRecDepth 100000
set_option maxHeartbeats 4000000
/-! XStatic: staticmethods called through their class; x(*y) with the written part said. -/
namespace XL
open PySem PySem.Spec PyProof.Rows L2
/-- C.m is a staticmethod: its def at g -/
def SMet (K : PySem.W.Frag) (C : Addr) (mc : Value) (m : Str) (g : Addr) : Prop := ∃ p, PySem.W.findCls K (.ref C) mc m = some (.get (.builtin "staticmethod.__get__") (.ref p) .none (.ref C)) ∧ (∃ rest, PySem.W.recIn K p "staticmethod" = some (.ref g :: rest)) ∧ PySem.W.keepIn K (.ref g) = true
section
variable {X : Cx} {CX : CXT} {k : Nat} {C g : Addr} {mc : Value} {fd : FuncData} {ps : List Str} {sp : Sp} {E : XK} {o e : Expr} {es : List Expr} {m : Str} {pos apos : Pos} {ta : TE} {t : TA} {pl : Sem Bool}
theorem pe_smeth (he : PE X o ta) (r : ClX.CRead X.K C mc) (c : SMet X.K C mc m g) (F : FnOk X.prog X.w X.K X.mg X.base CX k g fd ps sp) (hr : Room k X.A) (hb : Binds X.K fd ps []) (hx : Passes CX X E) (ha : PA X (e :: es) t)
    (hst : starEach (e :: es) X.env = (false, eval e X.env) :: starEach es X.env := by rfl) (hpl : (backTo pos (starEach es X.env)).any (·.1) = false := by rfl)
    (ht : eval (.Call (.Attribute o m apos) (e :: es) [] pos) X.env = (do
      let ov ← eval o X.env
      standAt apos.atName
      let (f, first) ← holding [ov] (getMethod ov m pl)
      callWith pos f first (backTo pos (starEach (e :: es) X.env)) (backToKw pos (keywordEach [] X.env))) := by rfl) :
    PE X (.Call (.Attribute o m apos) (e :: es) [] pos) (fun σ H Q => ta σ H fun x H1 => x = .ref C ∧ t σ H1 fun vs H2 => sp vs H2 Q E) := by
  refine ⟨fun pins s σ H Q I h => ?_⟩
  refine PySem.W.methodCall_KW (pl := pl) (thn (he.run pins s σ H _ I h) fun u s1 ⟨x, H1, I1, rx, ex, q⟩ => ?_) ht
  subst ex
  obtain rfl : u = Value.ref C := rx
  obtain ⟨p, h1, ⟨rest, h2⟩, h3⟩ := c
  refine PySem.W.method_cls I1.kIn r.ga ?_
  refine PySem.W.cls_bind I1.kIn r.rd h1 ?_
  refine wpAny_call (PySem.W.sm_get (s := { s1 with toks := s1.toks + 1 }) I1.kIn h2 (PySem.W.handed_on rfl ?_))
  have I2 : L2.Inv X pins σ H1 { s1 with toks := s1.toks + 1 } := I1.tok _
  refine PySem.W.callWith_K (h₀ := X.base) I2.ok.mod.kin h3 (thn (ha.run pos pins _ σ H1 _ I2 q) fun us s3 ⟨vs, H2, I3, r3, q3⟩ => ⟨I3.kIn, ?_⟩) hst hpl
  exact run_fn (us := us) (vs := vs) (dvs := []) F hr hb .nil hx I3 r3 (show sp (vs ++ []) H2 Q E by rw [List.append_nil]; exact q3)
end
section
variable {X : Cx}
theorem sw_trueD {kx vx : Expr} {gs : List Comprehension} {scope : Scope} {pos py : Pos} {y : Str} {l : Nat} {env : Env} (hk : env.scope.kind = .function) (hy : env.scope.names.lookup y = some .local) (hl : (py.line == pos.line) = true)
    (ha : (scope.names.any fun (n, k) => n == y && (k == .local || k == .cell)) = false) : swapsWith (.DictComp kx vx gs scope pos) (some (.Name y py)) l env = pure true := by
  have ky : env.kindOf y = some .local := hy
  have hb : env.blockKind = .function := by unfold Env.blockKind; rw [hk]; rfl
  unfold swapsWith
  simp only [hb, ky, ha, Expr.pos, hl]
  rfl
/-- name = {..} on one line, the name a local -/
theorem ps_setDc {i : Nat} {y : Str} {py : Pos} {kx vx tg iter : Expr} {ifs : List Expr} {scope : Scope} {own : List (Str × Nat)} {pos spos : Pos} {wi : TI} {g : TG} {tt : TT} {tk tv : TE} (hc : X.calm = true) (hN : X.N.Nodup) (hy : X.N[i]? = some y) (hyl : X.env.scope.names.lookup y = some .local)
    (hsw : swapsWith (.DictComp kx vx [⟨tg, iter, ifs, 0⟩] scope pos) (some (.Name y py)) spos.line X.env = pure true) (hi : PI X tg iter wi) (ok : BlkOk X.N X.env.scope scope own)
    (hg : ∀ (s : Shared) (H : Hp) (C : Addr) (cl : List (Str × Addr)) (fp : List Addr), PG (X.blk s H scope (compEnvC scope cl C X.env) fp) tg g) (ht : ∀ (s : Shared) (H : Hp) (C : Addr) (cl : List (Str × Addr)) (fp : List Addr), PTs (X.blk s H scope (compEnvC scope cl C X.env) fp) ifs tt)
    (hk : ∀ (s : Shared) (H : Hp) (C : Addr) (cl : List (Str × Addr)) (fp : List Addr), PE (X.blk s H scope (compEnvC scope cl C X.env) fp) kx tk)
    (he : ∀ (s : Shared) (H : Hp) (C : Addr) (cl : List (Str × Addr)) (fp : List Addr), PE (X.blk s H scope (compEnvC scope cl C X.env) fp) vx tv) (hs : ∀ x, foldedSetIterable iter X.env x = pure x := by intro _; rfl) :
    PS X (.Assign [.Name y py] (.DictComp kx vx [⟨tg, iter, ifs, 0⟩] scope pos) spos) (tAsg (tDc wi g tt tk tv (own.map (·.2))) (gName i)) := by
  refine ⟨fun pins s σ H D I h => ?_⟩
  rw [exec_Assign_Name_used _ _ _ _ hsw]
  refine wpAny_bind (wpAny_standAt (wpAny_bind ?_))
  show wpAny _ X.A (do let _ ← comprehension (.DictComp kx vx [⟨tg, iter, ifs, 0⟩] scope pos) scope X.env (firstIterPos [⟨tg, iter, ifs, 0⟩] pos) newDict false (eval iter X.env) (some (assign (.Name y py) X.env))) _ _ s
  have h : tDc wi g tt tk tv (own.map (·.2)) σ H (fun x H1 => gName i x σ H1 D.nx) := h
  refine wpAny_bind (thn (dc_core (Qf := fun _ s' => SP X pins D .next s') hc hN I hi ok hg ht hk he hs h fun L C s' m H' I' q hn f => ?_) fun _ s' hq => wpAny_pure (wpAny_pure hq))
  show wpAny _ _ (assign (.Name y py) X.env (.ref L)) _ _ _
  refine wpAny_assign_Name (store_ok2 (v := V.ref L) I' hN hy (.inl hyl) rfl (fun s2 I2 ⟨a, sb, ha⟩ => ?_) (.inr hyl))
  obtain ⟨f0, f1, f2, f3, f4, f5⟩ := f
  have haC : C ≠ a := by
    rcases ha with z | z
    · rw [z]; exact f1
    · exact fun e => f4 y a z e.symm
  refine ⟨m, hn.sameBut sb haC, fun h3 sb3 => ?_⟩
  exact ⟨_, H', I2.turned (t' := s2.toks) (fun b o hb e => (sb3.2 b hb).trans e) f0 f1 f3 f4 f5, q⟩
end
section
variable {X : Cx} {CX : CXT} {k : Nat} {f : Addr} {sp : Sp} {E : XK} {x : Str} {p pos sp_ : Pos} {e : Expr} {te : TE}
theorem pe_callS1K (K : PySem.W.Frag) (F : FnR X.prog X.w X.K X.mg X.base CX k f sp) (hr : Room k X.A) (hk : PySem.W.keepIn X.K (.ref f) = true) (hg : Gl X x) (hm : X.mg x = some (.ref f)) (hx : Passes CX X E) (he : PE X e te) (hd : (x == ("__debug__" : Str)) = false := by decide)
    (hst : starEach [.Starred e sp_] X.env = [(true, eval e X.env)] := by rfl) (hK : X.K = K := by rfl) :
    PE X (.Call (.Name x p) [.Starred e sp_] [] pos) (fun σ H Q => te σ H fun y H1 => ∃ a xs, y = V.ref a ∧ (SqT K H1 a xs ∨ SqL K H1 a xs) ∧ sp xs H1 Q E) := hK ▸ StX.pe_callS1 F hr hk hg hm hx he hd hst
end
end XL
set_option Elab.async false
set_option linter.all false
set_option maxRecDepth 100000
set_option maxHeartbeats 4000000
namespace K39
open PySem PySem.Spec PyProof.Rows L2 XL
def topS (i : Nat) : Stmt := PySem.Challenge.pw_drawnanew_k39_whole_schedules.main.body.getD i (.Pass ⟨0, 0, 0, 0⟩)
abbrev s_is_name : Stmt := topS 5
theorem sc_is_name : FnScope ["thing", "sign"] ["thing"] (defScope s_is_name) := ⟨rfl, rfl, rfl, by decide +kernel, rfl, by decide +kernel, by decide +kernel⟩
abbrev s_sized_subsets : Stmt := topS 6
theorem sc_sized_subsets : FnScope ["count", "size", "rows", "step", "longer", "row", "first", "k"] ["count", "size"] (defScope s_sized_subsets) := ⟨rfl, rfl, rfl, by decide +kernel, rfl, by decide +kernel, by decide +kernel⟩
abbrev s_subsets : Stmt := topS 7
theorem sc_subsets : FnScope ["count", "out", "size"] ["count"] (defScope s_subsets) := ⟨rfl, rfl, rfl, by decide +kernel, rfl, by decide +kernel, by decide +kernel⟩
abbrev s_text_shape : Stmt := topS 9
theorem sc_text_shape : FnScope ["form"] ["form"] (defScope s_text_shape) := ⟨rfl, rfl, rfl, by decide +kernel, rfl, by decide +kernel, by decide +kernel⟩
abbrev s_col_shape : Stmt := topS 10
theorem sc_col_shape : FnScope ["parts"] ["parts"] (defScope s_col_shape) := ⟨rfl, rfl, rfl, by decide +kernel, rfl, by decide +kernel, by decide +kernel⟩
abbrev s_good_names : Stmt := topS 13
theorem sc_good_names : FnScope ["names", "at"] ["names"] (defScope s_good_names) := ⟨rfl, rfl, rfl, by decide +kernel, rfl, by decide +kernel, by decide +kernel⟩
abbrev s_in_order : Stmt := topS 14
theorem sc_in_order : FnScope ["names", "changed", "ordered", "one"] ["names", "changed"] (defScope s_in_order) := ⟨rfl, rfl, rfl, by decide +kernel, rfl, by decide +kernel, by decide +kernel⟩
abbrev s_all_sets : Stmt := topS 15
theorem sc_all_sets : FnScope ["names", "places", "at"] ["names"] (defScope s_all_sets) := ⟨rfl, rfl, rfl, by decide +kernel, rfl, by decide +kernel, by decide +kernel⟩
abbrev s_touches : Stmt := topS 16
theorem sc_touches : FnScope ["changed", "needs", "one"] ["changed", "needs"] (defScope s_touches) := ⟨rfl, rfl, rfl, by decide +kernel, rfl, by decide +kernel, by decide +kernel⟩
abbrev s_Schedule_init : Stmt := inClass (topS 17) 0
theorem sc_Schedule_init : FnScope ["self", "names", "sets", "told", "changed", "ordered"] ["self", "names", "sets"] (defScope s_Schedule_init) := ⟨rfl, rfl, rfl, by decide +kernel, rfl, by decide +kernel, by decide +kernel⟩
abbrev s_Schedule_le : Stmt := inClass (topS 17) 3
theorem sc_Schedule_le : FnScope ["self", "other", "changed"] ["self", "other"] (defScope s_Schedule_le) := ⟨rfl, rfl, rfl, by decide +kernel, rfl, by decide +kernel, by decide +kernel⟩
abbrev s_Schedule_missed : Stmt := inClass (topS 17) 5
theorem sc_Schedule_missed : FnScope ["self", "needs", "changed"] ["self", "needs"] (defScope s_Schedule_missed) := ⟨rfl, rfl, rfl, by decide +kernel, rfl, by decide +kernel, by decide +kernel⟩
abbrev s_Schedule_least : Stmt := inClass (topS 17) 6
theorem sc_Schedule_least : FnScope ["names", "needs", "changed"] ["names", "needs"] (defScope s_Schedule_least) := ⟨rfl, rfl, rfl, by decide +kernel, rfl, by decide +kernel, by decide +kernel⟩
abbrev s_spoiling : Stmt := topS 18
theorem sc_spoiling : FnScope ["schedule", "needs", "changed", "texts", "shape", "before", "after", "one"] ["schedule", "needs"] (defScope s_spoiling) := ⟨rfl, rfl, rfl, by decide +kernel, rfl, by decide +kernel, by decide +kernel⟩
abbrev s_mixed : Stmt := topS 20
theorem sc_mixed : FnScope ["_law_number_here", "_law_turn", "_law_first", "_law_second"] ["_law_number_here", "_law_turn"] (defScope s_mixed) := ⟨rfl, rfl, rfl, by decide +kernel, rfl, by decide +kernel, by decide +kernel⟩
abbrev s_bag : Stmt := topS 21
theorem sc_bag : FnScope ["_law_script", "_law_cell", "_law_numbers", "_law_seed", "_law_at"] ["_law_script"] (defScope s_bag) := ⟨rfl, rfl, rfl, by decide +kernel, rfl, by decide +kernel, by decide +kernel⟩
abbrev s_pick : Stmt := topS 22
theorem sc_pick : FnScope ["_law_bag_here", "_law_many", "_law_turn", "_law_cell", "_law_worth"] ["_law_bag_here", "_law_many"] (defScope s_pick) := ⟨rfl, rfl, rfl, by decide +kernel, rfl, by decide +kernel, by decide +kernel⟩
abbrev s_choice : Stmt := topS 23
theorem sc_choice : FnScope ["_law_bag_here", "_law_things"] ["_law_bag_here", "_law_things"] (defScope s_choice) := ⟨rfl, rfl, rfl, by decide +kernel, rfl, by decide +kernel, by decide +kernel⟩
abbrev s_mingled : Stmt := topS 24
theorem sc_mingled : FnScope ["_law_bag_here", "_law_things", "_law_left", "_law_out", "_law_step"] ["_law_bag_here", "_law_things"] (defScope s_mingled) := ⟨rfl, rfl, rfl, by decide +kernel, rfl, by decide +kernel, by decide +kernel⟩
abbrev s_number : Stmt := topS 25
theorem sc_number : FnScope ["_law_thing"] ["_law_thing"] (defScope s_number) := ⟨rfl, rfl, rfl, by decide +kernel, rfl, by decide +kernel, by decide +kernel⟩
abbrev s_new_name : Stmt := topS 26
theorem sc_new_name : FnScope ["_law_bag_here", "_law_used", "_law_letters", "_law_told", "_law_near", "_law_at", "_law_tails", "_law_step", "_law_k", "_law_tail"] ["_law_bag_here", "_law_used"] (defScope s_new_name) := ⟨rfl, rfl, rfl, by decide +kernel, rfl, by decide +kernel, by decide +kernel⟩
abbrev s_form : Stmt := topS 27
theorem sc_form : FnScope ["_law_bag_here", "_law_readable", "_law_levels", "_law_way", "_law_first", "_law_second"] ["_law_bag_here", "_law_readable", "_law_levels"] (defScope s_form) := ⟨rfl, rfl, rfl, by decide +kernel, rfl, by decide +kernel, by decide +kernel⟩
abbrev s_value : Stmt := topS 28
theorem sc_value : FnScope ["_law_form_here", "_law_worths", "_law_word", "_law_first", "_law_second"] ["_law_form_here", "_law_worths"] (defScope s_value) := ⟨rfl, rfl, rfl, by decide +kernel, rfl, by decide +kernel, by decide +kernel⟩
abbrev s_some : Stmt := topS 29
theorem sc_some : FnScope ["_law_bag_here", "_law_things", "_law_thing"] ["_law_bag_here", "_law_things"] (defScope s_some) := ⟨rfl, rfl, rfl, by decide +kernel, rfl, by decide +kernel, by decide +kernel⟩
abbrev s_sets : Stmt := topS 30
theorem sc_sets : FnScope ["_law_names", "_law_out", "_law_places", "_law_at"] ["_law_names"] (defScope s_sets) := ⟨rfl, rfl, rfl, by decide +kernel, rfl, by decide +kernel, by decide +kernel⟩
abbrev s_has : Stmt := topS 31
theorem sc_has : FnScope ["_law_one", "_law_needed", "_law_told"] ["_law_one", "_law_needed"] (defScope s_has) := ⟨rfl, rfl, rfl, by decide +kernel, rfl, by decide +kernel, by decide +kernel⟩
abbrev s_combinations : Stmt := topS 32
theorem sc_combinations : FnScope ["_law_names", "_law_size", "_law_out", "_law_many", "_law_one", "_law_number_here", "_law_left", "_law_setting"] ["_law_names", "_law_size"] (defScope s_combinations) := ⟨rfl, rfl, rfl, by decide +kernel, rfl, by decide +kernel, by decide +kernel⟩
abbrev s_labels : Stmt := topS 33
theorem sc_labels : FnScope ["_law_shape", "_law_setting", "_law_part"] ["_law_shape", "_law_setting"] (defScope s_labels) := ⟨rfl, rfl, rfl, by decide +kernel, rfl, by decide +kernel, by decide +kernel⟩
abbrev s_shown_needs : Stmt := topS 34
theorem sc_shown_needs : FnScope ["_law_shape", "_law_names", "_law_out", "_law_one", "_law_setting", "_law_other"] ["_law_shape", "_law_names"] (defScope s_shown_needs) := ⟨rfl, rfl, rfl, by decide +kernel, rfl, by decide +kernel, by decide +kernel⟩
abbrev s_changing : Stmt := topS 35
theorem sc_changing : FnScope ["_law_form_here", "_law_names", "_law_rows", "_law_row", "_law_worths", "_law_out", "_law_at", "_law_further", "_law_changed", "_law_one"] ["_law_form_here", "_law_names"] (defScope s_changing) := ⟨rfl, rfl, rfl, by decide +kernel, rfl, by decide +kernel, by decide +kernel⟩
abbrev s_settings_told : Stmt := topS 36
theorem sc_settings_told : FnScope ["_law_told", "_law_names", "_law_missed", "_law_setting", "_law_one"] ["_law_told", "_law_names", "_law_missed"] (defScope s_settings_told) := ⟨rfl, rfl, rfl, by decide +kernel, rfl, by decide +kernel, by decide +kernel⟩
abbrev s_triple : Stmt := topS 37
theorem sc_triple : FnScope ["_law_told", "_law_names", "_law_due", "_law_missed"] ["_law_told", "_law_names", "_law_due", "_law_missed"] (defScope s_triple) := ⟨rfl, rfl, rfl, by decide +kernel, rfl, by decide +kernel, by decide +kernel⟩
abbrev s_lot : Stmt := topS 38
theorem sc_lot : FnScope ["_law_names", "_law_needed", "_law_strange", "_law_changing_here", "_law_every", "_law_one", "_law_due", "_law_least", "_law_most", "_law_number_here", "_law_chosen", "_law_schedule", "_law_missed", "_law_told", "_law_at"] ["_law_names", "_law_needed", "_law_strange", "_law_changing_here"] (defScope s_lot) := ⟨rfl, rfl, rfl, by decide +kernel, rfl, by decide +kernel, by decide +kernel⟩
abbrev s_law : Stmt := topS 39
theorem sc_law : FnScope ["_law_script", "_law_bag_here", "_law_used", "_law_names", "_law_form_here", "_law_changing_here", "_law_needed", "_law_strange", "_law_other", "_law_step", "_law_one"] ["_law_script"] (defScope s_law) := ⟨rfl, rfl, rfl, by decide +kernel, rfl, by decide +kernel, by decide +kernel⟩
/-- what the top leaves -/
structure Top (K : PySem.W.Frag) (mg : Str → Option Value) (W : World) where
  m_NotImplemented : mg "NotImplemented" = none
  m_abs : mg "abs" = none
  m_all : mg "all" = none
  m_bool : mg "bool" = none
  m_dict : mg "dict" = none
  m_enumerate : mg "enumerate" = none
  m_int : mg "int" = none
  m_isinstance : mg "isinstance" = none
  m_len : mg "len" = none
  m_list : mg "list" = none
  m_range : mg "range" = none
  m_repr : mg "repr" = none
  m_str : mg "str" = none
  m_tuple : mg "tuple" = none
  v_LETTERS : ∃ t, mg "LETTERS" = some (.str "abcdefghijklmnopqrstuvwxyz" t)
  v_MOST_NAMES : ∃ t, mg "MOST_NAMES" = some (.int 3 t)
  a_is_name : Addr
  d_is_name : FuncData
  F_is_name : Fun K "is_name" "is_name" s_is_name a_is_name d_is_name
  b_is_name : Binds K d_is_name ["thing"] []
  g_is_name : mg "is_name" = some (.ref a_is_name)
  a_sized_subsets : Addr
  d_sized_subsets : FuncData
  F_sized_subsets : Fun K "sized_subsets" "sized_subsets" s_sized_subsets a_sized_subsets d_sized_subsets
  b_sized_subsets : Binds K d_sized_subsets ["count", "size"] []
  g_sized_subsets : mg "sized_subsets" = some (.ref a_sized_subsets)
  a_subsets : Addr
  d_subsets : FuncData
  F_subsets : Fun K "subsets" "subsets" s_subsets a_subsets d_subsets
  b_subsets : Binds K d_subsets ["count"] []
  g_subsets : mg "subsets" = some (.ref a_subsets)
  a_text_shape : Addr
  d_text_shape : FuncData
  F_text_shape : Fun K "text_shape" "text_shape" s_text_shape a_text_shape d_text_shape
  b_text_shape : Binds K d_text_shape ["form"] []
  g_text_shape : mg "text_shape" = some (.ref a_text_shape)
  a_col_shape : Addr
  d_col_shape : FuncData
  F_col_shape : Fun K "col_shape" "col_shape" s_col_shape a_col_shape d_col_shape
  b_col_shape : BindsS d_col_shape [] "parts"
  g_col_shape : mg "col_shape" = some (.ref a_col_shape)
  a_good_names : Addr
  d_good_names : FuncData
  F_good_names : Fun K "good_names" "good_names" s_good_names a_good_names d_good_names
  b_good_names : Binds K d_good_names ["names"] []
  g_good_names : mg "good_names" = some (.ref a_good_names)
  a_in_order : Addr
  d_in_order : FuncData
  F_in_order : Fun K "in_order" "in_order" s_in_order a_in_order d_in_order
  b_in_order : Binds K d_in_order ["names", "changed"] []
  g_in_order : mg "in_order" = some (.ref a_in_order)
  a_all_sets : Addr
  d_all_sets : FuncData
  F_all_sets : Fun K "all_sets" "all_sets" s_all_sets a_all_sets d_all_sets
  b_all_sets : Binds K d_all_sets ["names"] []
  g_all_sets : mg "all_sets" = some (.ref a_all_sets)
  a_touches : Addr
  d_touches : FuncData
  F_touches : Fun K "touches" "touches" s_touches a_touches d_touches
  b_touches : Binds K d_touches ["changed", "needs"] []
  g_touches : mg "touches" = some (.ref a_touches)
  a_Schedule_init : Addr
  d_Schedule_init : FuncData
  F_Schedule_init : Fun K "__init__" "Schedule.__init__" s_Schedule_init a_Schedule_init d_Schedule_init
  b_Schedule_init : Binds K d_Schedule_init ["self", "names", "sets"] []
  a_Schedule_le : Addr
  d_Schedule_le : FuncData
  F_Schedule_le : Fun K "__le__" "Schedule.__le__" s_Schedule_le a_Schedule_le d_Schedule_le
  b_Schedule_le : Binds K d_Schedule_le ["self", "other"] []
  a_Schedule_missed : Addr
  d_Schedule_missed : FuncData
  F_Schedule_missed : Fun K "missed" "Schedule.missed" s_Schedule_missed a_Schedule_missed d_Schedule_missed
  b_Schedule_missed : Binds K d_Schedule_missed ["self", "needs"] []
  a_Schedule_least : Addr
  d_Schedule_least : FuncData
  F_Schedule_least : Fun K "least" "Schedule.least" s_Schedule_least a_Schedule_least d_Schedule_least
  b_Schedule_least : Binds K d_Schedule_least ["names", "needs"] []
  a_spoiling : Addr
  d_spoiling : FuncData
  F_spoiling : Fun K "spoiling" "spoiling" s_spoiling a_spoiling d_spoiling
  b_spoiling : Binds K d_spoiling ["schedule", "needs"] []
  g_spoiling : mg "spoiling" = some (.ref a_spoiling)
  a_mixed : Addr
  d_mixed : FuncData
  F_mixed : Fun K "_law_mixed" "_law_mixed" s_mixed a_mixed d_mixed
  b_mixed : Binds K d_mixed ["_law_number_here", "_law_turn"] []
  g_mixed : mg "_law_mixed" = some (.ref a_mixed)
  a_bag : Addr
  d_bag : FuncData
  F_bag : Fun K "_law_bag" "_law_bag" s_bag a_bag d_bag
  b_bag : Binds K d_bag ["_law_script"] []
  g_bag : mg "_law_bag" = some (.ref a_bag)
  a_pick : Addr
  d_pick : FuncData
  F_pick : Fun K "_law_pick" "_law_pick" s_pick a_pick d_pick
  b_pick : Binds K d_pick ["_law_bag_here", "_law_many"] []
  g_pick : mg "_law_pick" = some (.ref a_pick)
  a_choice : Addr
  d_choice : FuncData
  F_choice : Fun K "_law_choice" "_law_choice" s_choice a_choice d_choice
  b_choice : Binds K d_choice ["_law_bag_here", "_law_things"] []
  g_choice : mg "_law_choice" = some (.ref a_choice)
  a_mingled : Addr
  d_mingled : FuncData
  F_mingled : Fun K "_law_mingled" "_law_mingled" s_mingled a_mingled d_mingled
  b_mingled : Binds K d_mingled ["_law_bag_here", "_law_things"] []
  g_mingled : mg "_law_mingled" = some (.ref a_mingled)
  a_number : Addr
  d_number : FuncData
  F_number : Fun K "_law_number" "_law_number" s_number a_number d_number
  b_number : Binds K d_number ["_law_thing"] []
  g_number : mg "_law_number" = some (.ref a_number)
  a_new_name : Addr
  d_new_name : FuncData
  F_new_name : Fun K "_law_new_name" "_law_new_name" s_new_name a_new_name d_new_name
  b_new_name : Binds K d_new_name ["_law_bag_here", "_law_used"] []
  g_new_name : mg "_law_new_name" = some (.ref a_new_name)
  a_form : Addr
  d_form : FuncData
  F_form : Fun K "_law_form" "_law_form" s_form a_form d_form
  b_form : Binds K d_form ["_law_bag_here", "_law_readable", "_law_levels"] []
  g_form : mg "_law_form" = some (.ref a_form)
  a_value : Addr
  d_value : FuncData
  F_value : Fun K "_law_value" "_law_value" s_value a_value d_value
  b_value : Binds K d_value ["_law_form_here", "_law_worths"] []
  g_value : mg "_law_value" = some (.ref a_value)
  a_some : Addr
  d_some : FuncData
  F_some : Fun K "_law_some" "_law_some" s_some a_some d_some
  b_some : Binds K d_some ["_law_bag_here", "_law_things"] []
  g_some : mg "_law_some" = some (.ref a_some)
  a_sets : Addr
  d_sets : FuncData
  F_sets : Fun K "_law_sets" "_law_sets" s_sets a_sets d_sets
  b_sets : Binds K d_sets ["_law_names"] []
  g_sets : mg "_law_sets" = some (.ref a_sets)
  a_has : Addr
  d_has : FuncData
  F_has : Fun K "_law_has" "_law_has" s_has a_has d_has
  b_has : Binds K d_has ["_law_one", "_law_needed"] []
  g_has : mg "_law_has" = some (.ref a_has)
  a_combinations : Addr
  d_combinations : FuncData
  F_combinations : Fun K "_law_combinations" "_law_combinations" s_combinations a_combinations d_combinations
  b_combinations : Binds K d_combinations ["_law_names", "_law_size"] []
  g_combinations : mg "_law_combinations" = some (.ref a_combinations)
  a_labels : Addr
  d_labels : FuncData
  F_labels : Fun K "_law_labels" "_law_labels" s_labels a_labels d_labels
  b_labels : Binds K d_labels ["_law_shape", "_law_setting"] []
  g_labels : mg "_law_labels" = some (.ref a_labels)
  a_shown_needs : Addr
  d_shown_needs : FuncData
  F_shown_needs : Fun K "_law_shown_needs" "_law_shown_needs" s_shown_needs a_shown_needs d_shown_needs
  b_shown_needs : Binds K d_shown_needs ["_law_shape", "_law_names"] []
  g_shown_needs : mg "_law_shown_needs" = some (.ref a_shown_needs)
  a_changing : Addr
  d_changing : FuncData
  F_changing : Fun K "_law_changing" "_law_changing" s_changing a_changing d_changing
  b_changing : Binds K d_changing ["_law_form_here", "_law_names"] []
  g_changing : mg "_law_changing" = some (.ref a_changing)
  a_settings_told : Addr
  d_settings_told : FuncData
  F_settings_told : Fun K "_law_settings_told" "_law_settings_told" s_settings_told a_settings_told d_settings_told
  b_settings_told : Binds K d_settings_told ["_law_told", "_law_names", "_law_missed"] []
  g_settings_told : mg "_law_settings_told" = some (.ref a_settings_told)
  a_triple : Addr
  d_triple : FuncData
  F_triple : Fun K "_law_triple" "_law_triple" s_triple a_triple d_triple
  b_triple : Binds K d_triple ["_law_told", "_law_names", "_law_due", "_law_missed"] []
  g_triple : mg "_law_triple" = some (.ref a_triple)
  a_lot : Addr
  d_lot : FuncData
  F_lot : Fun K "_law_lot" "_law_lot" s_lot a_lot d_lot
  b_lot : Binds K d_lot ["_law_names", "_law_needed", "_law_strange", "_law_changing_here"] []
  g_lot : mg "_law_lot" = some (.ref a_lot)
  a_law : Addr
  d_law : FuncData
  F_law : Fun K "law" "law" s_law a_law d_law
  b_law : Binds K d_law ["_law_script"] []
  g_law : mg "law" = some (.ref a_law)
  C_Schedule : Addr
  g_Schedule : mg "Schedule" = some (.ref C_Schedule)
  cl_Schedule : Cls K C_Schedule
  na_Schedule_order : NoAttr K C_Schedule "order"
  na_Schedule_sets : NoAttr K C_Schedule "sets"
  mk_Schedule : Mk K C_Schedule a_Schedule_init
  sp_Schedule_le : PySem.W.findIn K (.ref C_Schedule) "__le__" = some (some (.ref a_Schedule_le)) ∧ PySem.W.isFn K (.ref a_Schedule_le) = true
  me_Schedule_missed : Meth K C_Schedule "missed" a_Schedule_missed
  mc_Schedule : Value
  cr_Schedule : ClX.CRead K C_Schedule mc_Schedule
  sm_Schedule_least : SMet K C_Schedule mc_Schedule "least" a_Schedule_least
  ty_Schedule : PySem.W.findIn K (.ref C_Schedule) "__class__" = some (some (.builtin "object.__class__")) ∧ PySem.W.specialIn K (.builtin "object.__class__") "__get__" = some (some (.builtin "getset_descriptor.__get__")) ∧ PySem.W.takesIn K (.builtin "object.__class__") = some true ∧ PySem.W.mroIn K C_Schedule (.type "object") = some true ∧ PySem.W.kitOne K (.ref C_Schedule) (.ref C_Schedule) = some true
/-! ### the bag -/
structure Bag (G : Hp) (o : HO) : Prop where
  ex : ∃ (n : Addr) (ns : List Int) (i g t s : Int), o = .lst [.ref n, .int i, .int g, .int t, .int s] ∧ G n = some (.lst (ns.map V.int)) ∧ 0 ≤ i ∧ 0 ≤ g
theorem Bag.same {G G' : Hp} {o : HO} (e : Same G G') (b : Bag G o) : Bag G' o := by
  obtain ⟨n, ns, i, g, t, s, h1, h2, h3⟩ := b.ex
  exact ⟨n, ns, i, g, t, s, h1, e _ _ h2, h3⟩

section
variable {P : Program} {w : World} {K : PySem.W.Frag} {mg : Str → Option Value} {base : Heap}
def spMixed : Sp := fun vs H Q _ => ∃ n t : Int, vs = [.int n, .int t] ∧ ∀ r : Int, 0 ≤ r → r < 2147483587 → Q (.int r) H
theorem ok_mixed (T : Top K mg w) {k : Nat} : FnOk P w K mg base CX0 (k + 1) T.a_mixed T.d_mixed ["_law_number_here", "_law_turn"] spMixed := by
  refine T.F_mixed.ok sc_mixed (fun vs H Q E h => ?_) (fun cdv A outer s H vs Q E hr h => ?_)
  · obtain ⟨n, t, rfl, _⟩ := h
    rfl
  · obtain ⟨n, t, rfl, q⟩ := h
    refine ⟨_, (pss_cons (ps_set (i := 2) sc_mixed.nd rfl (.inl rfl) (pe_op op_modY (pe_callTy cr_int (by rfl) T.m_int (by decide +kernel) (pa_cons (pe_op op_addY (pe_op op_mulY (pe_op op_addY (xv 0) pe_int) pe_int) (pe_op op_mulY (pe_op op_addY (xv 1) pe_int) pe_int)) pa_nil)) pe_int))
      (pss_cons (ps_set (i := 3) sc_mixed.nd rfl (.inl rfl) (pe_op op_modY (pe_callTy cr_int (by rfl) T.m_int (by decide +kernel) (pa_cons (pe_op op_addY (pe_op op_addY (pe_op op_mulY (xv 2) (xv 2)) (pe_op op_mulY (xv 2) pe_int)) (pe_op op_mulY (pe_op op_addY (xv 1) pe_int) pe_int)) pa_nil)) pe_int))
      (pss_one (ps_ret (pe_op op_modY (pe_callTy cr_int (by rfl) T.m_int (by decide +kernel) (pa_cons (pe_op op_addY (pe_op op_addY (pe_op op_divY (xv 3) pe_int) (pe_op op_mulY (xv 3) pe_int)) (xv 1)) pa_nil)) pe_int))))), ?_⟩
    refine ⟨.inr ⟨by decide, by decide⟩, .inr ⟨by decide, by decide⟩, by decide, fun f _ f0 f1 => ?_⟩
    refine ⟨.inl ⟨by omega, by omega⟩, .inr ⟨by decide, by decide⟩, .inr ⟨by decide, by decide⟩, by decide, fun g _ g0 g1 => ?_⟩
    refine ⟨⟨by decide, by decide⟩, fun d _ _ => ⟨.inr ⟨by decide, by decide⟩, by decide, fun r _ r0 r1 => ?_⟩⟩
    exact q r r0 r1

def spPick : Sp := fun vs H Q _ => ∃ (G : Hp) (M : List (Addr × HO)) (b : Addr) (o : HO) (n : Int), vs = [.ref b, .int n] ∧ Sep G ((b, o) :: M) H ∧ Bag G o ∧ 0 < n ∧ n < 1073741824 ∧
  ∀ (r : Int) (o' : HO) (H' : Hp), 0 ≤ r → r < n → Bag G o' → Sep G ((b, o') :: M) H' → Q (.int r) H'
theorem ok_pick (T : Top K mg w) {k : Nat} (G_mixed : FnOk P w K mg base CX0 (k + 1) T.a_mixed T.d_mixed ["_law_number_here", "_law_turn"] spMixed) :
    FnOk P w K mg base CX0 (k + 2) T.a_pick T.d_pick ["_law_bag_here", "_law_many"] spPick := by
  refine T.F_pick.ok sc_pick (fun vs H Q E h => ?_) (fun cdv A outer s H vs Q E hr h => ?_)
  · obtain ⟨G, M, b, o, n, rfl, _⟩ := h
    rfl
  · obtain ⟨G, M, b, o, n, rfl, S, B, n0, n1, q⟩ := h
    obtain ⟨N, ns, i, g, t, z, rfl, hN, i0, g0⟩ := B.ex
    refine ⟨_, (pss_cons (ps_set (i := 2) sc_pick.nd rfl (.inl rfl) (pe_ix (ix_k K) (xv 0) pe_int (fun _ _ => rfl)))
      (pss_cons (ps_asg (pe_op op_addY (xv 2) pe_int) (pg_sub (xv 0) pe_int set_list))
      (xss_cut (xs_if (PW.pt (xw_and (xt_cmp (op_eqLK K hr.u190) (pe_ix (ix_k K) (xv 0) pe_int (fun _ _ => rfl)) pe_int (nomark _)) (pw_and1 (xt_cmp op_ltY (pe_ix (ix_k K) (xv 0) pe_int (fun _ _ => rfl)) (pe_callB (cr_lenK K) (by rfl) T.m_len (by decide +kernel) (pa_cons (pe_ix (ix_k K) (xv 0) pe_int (fun _ _ => rfl)) pa_nil)) (nomark _)))))
      (pss_cons (ps_set (i := 3) sc_pick.nd rfl (.inl rfl) (pe_ix (ix_k K) (pe_ix (ix_k K) (xv 0) pe_int (fun _ _ => rfl)) (pe_ix (ix_k K) (xv 0) pe_int (fun _ _ => rfl)) (fun _ _ => rfl)))
      (pss_cons (ps_asg (pe_op op_addY (pe_ix (ix_k K) (xv 0) pe_int (fun _ _ => rfl)) pe_int) (pg_sub (xv 0) pe_int set_list))
      (pss_cons (xs_if (xt_cmp op_ltY (pe_callB cr_abs (by rfl) T.m_abs (by decide +kernel) (pa_cons (xv 3) pa_nil)) (pe_op op_powY pe_int pe_int) (nomark _))
      (pss_one (ps_ret (pe_op op_modY (pe_callTy cr_int (by rfl) T.m_int (by decide +kernel) (pa_cons (pe_call G_mixed (hr.mono (by omega)) (by rfl) T.g_mixed T.F_mixed.kp T.b_mixed .nil pass0 (pa_cons (pe_op op_addY (pe_op op_mulY pe_int (pe_callB cr_abs (by rfl) T.m_abs (by decide +kernel) (pa_cons (xv 3) pa_nil))) (pe_cmpR op_ltY (xv 3) pe_int (nomark _))) (pa_cons (xv 2) pa_nil))) pa_nil)) (xv 1))))
      pss_nil)
      (pss_one (ps_asg (pe_callB cr_abs (by rfl) T.m_abs (by decide +kernel) (pa_cons (xv 3) pa_nil)) (pg_sub (xv 0) pe_int set_list))))))
      pss_nil)
      (pss_cons (xs_if (xt_cmp (op_eqLK K hr.u190) (pe_ix (ix_k K) (xv 0) pe_int (fun _ _ => rfl)) pe_int (nomark _))
      (pss_one (ps_ret (pe_op op_modY (pe_callTy cr_int (by rfl) T.m_int (by decide +kernel) (pa_cons (pe_call G_mixed (hr.mono (by omega)) (by rfl) T.g_mixed T.F_mixed.kp T.b_mixed .nil pass0 (pa_cons (pe_ix (ix_k K) (xv 0) pe_int (fun _ _ => rfl)) (pa_cons (xv 2) pa_nil))) pa_nil)) (xv 1))))
      pss_nil)
      (pss_cons (ps_set (i := 4) sc_pick.nd rfl (.inl rfl) (pe_op op_modY (pe_callTy cr_int (by rfl) T.m_int (by decide +kernel) (pa_cons (pe_ix (ix_k K) (xv 0) pe_int (fun _ _ => rfl)) pa_nil)) (xv 1)))
      (pss_cons (ps_asg (pe_op op_divY (pe_ix (ix_k K) (xv 0) pe_int (fun _ _ => rfl)) (xv 1)) (pg_sub (xv 0) pe_int set_list))
      (pss_one (ps_ret (xv 4))))))))), ?_⟩
    -- the turn
    refine ⟨_, _, .inl (SqL.of S.hd), rfl, b, _, _, 3, rfl, rfl, S.hd, rfl, ?_⟩
    have S1 := S.set (o' := .lst [.ref N, .int i, .int g, .int (t + 1), .int z])
    have fin : ∀ (j : Int) (g' : Int) (H2 : Hp), 0 ≤ j → 0 ≤ g' → Sep G ((b, .lst [.ref N, .int j, .int g', .int (t + 1), .int z]) :: M) H2 → (g' = 0 → ∀ r : Int, 0 ≤ r → r < n → Q (.int r) H2) ∧
        (∀ (r d : Int), 0 ≤ r → r < n → 0 ≤ d → Q (.int r) (upd H2 b (.lst [.ref N, .int j, .int d, .int (t + 1), .int z]))) := fun j g' H2 j0 h0 S2 =>
      ⟨fun _ r r0 r1 => q r _ _ r0 r1 ⟨N, ns, j, g', t + 1, z, rfl, hN, j0, h0⟩ S2, fun r d r0 r1 d0 => q r _ _ r0 r1 ⟨N, ns, j, d, t + 1, z, rfl, hN, j0, d0⟩ S2.set⟩
    -- the rest, from a bag on
    refine ⟨fun σ H2 => ∃ (y3 y4 : Option V) (j g' : Int), σ = [some (.ref b), some (.int n), some (.int t), y3, y4] ∧ 0 ≤ j ∧ 0 ≤ g' ∧ Sep G ((b, .lst [.ref N, .int j, .int g', .int (t + 1), .int z]) :: M) H2, ?_, fun σ H2 h => ?_⟩
    · have go : ∃ (y3 y4 : Option V) (j g' : Int), ([some (.ref b), some (.int n), some (.int t), none, none] : List (Option V)) = [some (.ref b), some (.int n), some (.int t), y3, y4] ∧ 0 ≤ j ∧ 0 ≤ g' ∧ Sep G ((b, .lst [.ref N, .int j, .int g', .int (t + 1), .int z]) :: M) _ := ⟨_, _, i, g, rfl, i0, g0, S1⟩
      refine ⟨_, _, .inl (SqL.of S1.hd), rfl, fun e => ⟨_, _, .inl (SqL.of S1.hd), rfl, _, _, .inl (SqL.of S1.hd), rfl, _, .inl (SqL.of (S1.st hN)), fun e => ?_, fun e => go⟩, fun e => ⟨ff, fun _ => go⟩⟩
      have hi : i < (ns.map V.int).length := of_decide_eq_true e
      obtain ⟨v, hv, hm⟩ := atI_in i0 hi
      obtain ⟨c, _, rfl⟩ := List.mem_map.mp hm
      refine ⟨_, _, .inl (SqL.of S1.hd), rfl, _, _, .inl (SqL.of S1.hd), rfl, _, _, .inl (SqL.of (S1.st hN)), hv, ?_⟩
      refine ⟨_, _, .inl (SqL.of S1.hd), rfl, b, _, _, 1, rfl, rfl, S1.hd, rfl, ?_⟩
      have S2 := S1.set (o' := .lst [.ref N, .int (i + 1), .int g, .int (t + 1), .int z])
      refine ⟨⟨by decide, by decide, by decide⟩, fun p _ => ⟨fun e => ?_, fun e => ?_⟩⟩
      · refine ⟨.inl ⟨by decide, by decide⟩, _, _, rfl, fun m _ _ => ⟨n0, fun r _ r0 r1 => ?_⟩⟩
        exact q r _ _ r0 r1 ⟨N, ns, i + 1, g, t + 1, z, rfl, hN, by omega, g0⟩ S2
      · refine ⟨b, _, _, 2, rfl, rfl, S2.hd, rfl, ?_⟩
        exact ⟨_, _, i + 1, c.natAbs, rfl, by omega, by omega, S2.set⟩
    · obtain ⟨y3, y4, j, g', rfl, j0, h0, S2⟩ := h
      obtain ⟨f1, f2⟩ := fin j g' H2 j0 h0 S2
      refine ⟨_, _, .inl (SqL.of S2.hd), rfl, fun e => ?_, fun e => ?_⟩
      · refine ⟨_, _, .inl (SqL.of S2.hd), rfl, _, _, rfl, fun m _ _ => ⟨n0, fun r _ r0 r1 => ?_⟩⟩
        exact f1 (of_decide_eq_true e) r r0 r1
      · refine ⟨_, _, .inl (SqL.of S2.hd), rfl, n0, fun r _ r0 r1 => ?_⟩
        refine ⟨_, _, .inl (SqL.of S2.hd), rfl, ⟨n0, n1⟩, fun d _ d0 => ⟨b, _, _, 2, rfl, rfl, S2.hd, rfl, ?_⟩⟩
        exact f2 r d r0 r1 (d0 h0)

def spBag (K : PySem.W.Frag) : Sp := fun vs H Q _ => ∃ (G : Hp) (M : List (Addr × HO)) (a : Addr) (ns : List Int), vs = [.ref a] ∧ Sep G M H ∧ SqL K G a (ns.map V.int) ∧ ns.length ≤ 63 ∧
  ∀ (b : Addr) (o : HO) (G' H' : Hp), Same G G' → Bag G' o → Sep G' ((b, o) :: M) H' → Q (.ref b) H'
theorem ok_bag (T : Top K mg w) {k : Nat} : FnOk P w K mg base CX0 (k + 1) T.a_bag T.d_bag ["_law_script"] (spBag K) := by
  refine T.F_bag.ok sc_bag (fun vs H Q E h => ?_) (fun cdv A outer s H vs Q E hr h => ?_)
  · obtain ⟨G, M, a, ns, rfl, _⟩ := h
    rfl
  · obtain ⟨G, M, a, ns, rfl, S, hA, hl, q⟩ := h
    refine ⟨_, (pss_cons (ps_setLc (i := 2) (own := [("_law_cell", 1)]) (by rfl) sc_bag.nd rfl rfl (sw_true rfl rfl rfl (by decide +kernel)) (pi_listK K (xv 0)) (blkOk_by (N := ["_law_script", "_law_cell", "_law_numbers", "_law_seed", "_law_at"]) (sc := defScope s_bag) (by decide +kernel)) (fun _ _ _ _ _ => (pg_name (i := 1) sc_bag.nd rfl (.inl rfl))) (fun _ _ _ _ _ => pts_nil) (fun _ _ _ _ _ => (pe_callTy cr_int (by rfl) T.m_int (by decide +kernel) (pa_cons (xv 1) pa_nil))))
      (pss_cons (ps_set (i := 3) sc_bag.nd rfl (.inl rfl) (pe_callB (cr_lenK K) (by rfl) T.m_len (by decide +kernel) (pa_cons (xv 2) pa_nil)))
      (pss_cons (ps_for PassesOwn.never rfl (pi_enum (by rfl) T.m_enumerate (pa_cons (pe_slice (sl_listK K) (xv 2) po_none (po_some pe_int)) pa_nil)) (pg_tupK K 2 (pgs_cons (pg_name (i := 4) sc_bag.nd rfl (.inl rfl)) (pgs_cons (pg_name (i := 1) sc_bag.nd rfl (.inl rfl)) pgs_nil)))
      (pss_one (ps_set (i := 3) sc_bag.nd rfl (.inl rfl) (pe_op op_modY (pe_callTy cr_int (by rfl) T.m_int (by decide +kernel) (pa_cons (pe_op op_addY (pe_op op_addY (pe_op op_mulY (xv 3) pe_int) (pe_op op_modY (pe_callTy cr_int (by rfl) T.m_int (by decide +kernel) (pa_cons (pe_callB cr_abs (by rfl) T.m_abs (by decide +kernel) (pa_cons (xv 1) pa_nil)) pa_nil)) pe_int)) (pe_op op_mulY (pe_op op_addY (xv 4) pe_int) (pe_cmpR op_ltY (xv 1) pe_int (nomark _)))) pa_nil)) pe_int))))
      (pss_one (ps_ret (pe_lst (pa_cons (xv 2) (pa_cons pe_int (pa_cons pe_int (pa_cons pe_int (pa_cons (xv 3) pa_nil))))))))))), ?_⟩
    refine ⟨a, rfl, ⟨_, S.l hA⟩, fun L nL => lc_pre (xs := ns.map V.int) (fun pre H' => Sep G ((L, .lst pre) :: M) H') (S.new nL) (fun pre H' p => p.l hA) (fun _ => rfl) (fun pre x post H' e p => ?_) (fun H' S1 => ?_)⟩
    · obtain ⟨c, _, rfl⟩ := List.mem_map.mp (show x ∈ ns.map V.int by rw [e]; simp)
      have hz : pre.length ≤ 63 := by
        have z := congrArg List.length e
        rw [List.length_map, List.length_append] at z
        omega
      exact ⟨_, p.hd, smallL (by omega), p.set⟩
    · -- the seed
      have S2 := S1.frz
      have hN : upd G L (.lst (ns.map V.int)) L = some (.lst (ns.map V.int)) := upd_same
      refine ⟨_, .inl (SqL.of (S2.st hN)), ?_⟩
      refine ⟨63, rfl, L, _, rfl, SqL.of (S2.st hN), fun c nc => ?_⟩
      have S3 := S2.newG (o := .lst (cutV (ns.map V.int) none (some 63))) nc
      have s3 := S2.grow (o := .lst (cutV (ns.map V.int) none (some 63))) nc
      refine ⟨c, _, rfl, SqL.of (S3.st upd_same), for_enum (xs := cutV (ns.map V.int) none (some 63)) (fun pre σ H' => ∃ (y1 y4 : Option V) (z : Int) (G' : Hp), σ = [some (.ref a), y1, some (.ref L), some (.int z), y4] ∧
        Same (upd (upd G L (.lst (ns.map V.int))) c (.lst (cutV (ns.map V.int) none (some 63)))) G' ∧ Sep G' M H') ⟨_, _, _, _, rfl, Same.refl _, S3⟩ (fun pre σ H' h => ?_) (fun pre x post σ H' W e h nW => ?_) (fun σ H' h => ?_)⟩
      · obtain ⟨_, _, _, G', _, s4, S4⟩ := h
        exact SqL.of (S4.st (s4 _ _ upd_same))
      · obtain ⟨y1, y4, z, G', rfl, s4, S4⟩ := h
        have hx : x ∈ ns.map V.int := by
          have hm : x ∈ cutV (ns.map V.int) none (some 63) := by rw [e]; simp
          exact List.mem_of_mem_drop (List.mem_of_mem_take hm)
        obtain ⟨v, _, rfl⟩ := List.mem_map.mp hx
        have S5 := S4.newG (o := .tup [.int (pre.length : Nat), .int v]) nW
        refine ⟨.inr ⟨by decide, by decide⟩, by decide, fun r _ r0 r1 => ⟨by decide, fun u _ u0 u1 => ?_⟩⟩
        exact ⟨_, _, _, _, rfl, s4.trans (S4.grow nW), S5⟩
      · obtain ⟨y1, y4, z, G', rfl, s4, S4⟩ := h
        refine ⟨sz, fun b nb => ?_⟩
        exact q b _ G' _ ((S1.frzS).trans (s3.trans s4)) ⟨L, ns, 0, 0, 0, z, rfl, s4 _ _ (s3 _ _ hN), by decide, by decide⟩ (S4.new nb)

def spChoice (K : PySem.W.Frag) : Sp := fun vs H Q _ => ∃ (G : Hp) (M : List (Addr × HO)) (b : Addr) (o : HO) (l : Addr) (xs : List V), vs = [.ref b, .ref l] ∧ Sep G ((b, o) :: M) H ∧ Bag G o ∧ SqL K G l xs ∧ 0 < xs.length ∧ xs.length < 100000 ∧
  ∀ (v : V) (o' : HO) (H' : Hp), v ∈ xs → Bag G o' → Sep G ((b, o') :: M) H' → Q v H'
theorem ok_choice (T : Top K mg w) {k : Nat} (G_pick : FnOk P w K mg base CX0 k T.a_pick T.d_pick ["_law_bag_here", "_law_many"] spPick) : FnOk P w K mg base CX0 (k + 1) T.a_choice T.d_choice ["_law_bag_here", "_law_things"] (spChoice K) := by
  refine T.F_choice.ok sc_choice (fun vs H Q E h => ?_) (fun cdv A outer s H vs Q E hr h => ?_)
  · obtain ⟨G, M, b, o, l, xs, rfl, _⟩ := h
    rfl
  · obtain ⟨G, M, b, o, l, xs, rfl, S, B, hl, x0, x1, q⟩ := h
    refine ⟨_, (pss_one (ps_ret (pe_ix (ix_k K) (xv 1) (pe_call G_pick (hr.mono (by omega)) (by rfl) T.g_pick T.F_pick.kp T.b_pick .nil pass0 (pa_cons (xv 0) (pa_cons (pe_callB (cr_lenK K) (by rfl) T.m_len (by decide +kernel) (pa_cons (xv 1) pa_nil)) pa_nil))) (fun _ _ => rfl)))), ?_⟩
    refine ⟨_, .inl (S.l hl), G, M, b, o, _, rfl, S, B, by omega, by omega, fun r o' H' r0 r1 B' S' => ?_⟩
    obtain ⟨v, hv, hm⟩ := atI_in r0 r1
    exact ⟨_, v, .inl (S'.l hl), hv, q v o' H' hm B' S'⟩

def spMingled (K : PySem.W.Frag) : Sp := fun vs H Q _ => ∃ (G : Hp) (M : List (Addr × HO)) (b : Addr) (o : HO) (l : Addr) (xs : List V), vs = [.ref b, .ref l] ∧ Sep G ((b, o) :: M) H ∧ Bag G o ∧ (SqL K G l xs ∨ SqT K G l xs) ∧ xs.length < 100000 ∧
  ∀ (p : Addr) (ys : List V) (o' : HO) (G' H' : Hp), Same G G' → G' p = some (.lst ys) → ys.Perm xs → Bag G' o' → Sep G' ((b, o') :: M) H' → Q (.ref p) H'
theorem ok_mingled (T : Top K mg w) {k : Nat} (G_pick : FnOk P w K mg base CX0 k T.a_pick T.d_pick ["_law_bag_here", "_law_many"] spPick) : FnOk P w K mg base CX0 (k + 1) T.a_mingled T.d_mingled ["_law_bag_here", "_law_things"] (spMingled K) := by
  refine T.F_mingled.ok sc_mingled (fun vs H Q E h => ?_) (fun cdv A outer s H vs Q E hr h => ?_)
  · obtain ⟨G, M, b, o, l, xs, rfl, _⟩ := h
    rfl
  · obtain ⟨G, M, b, o, l, xs, rfl, S, B, hl, x1, q⟩ := h
    refine ⟨_, (pss_cons (ps_set (i := 2) sc_mingled.nd rfl (.inl rfl) (pe_callTy (call_listK K) (by rfl) T.m_list (by decide +kernel) (pa_cons (xv 1) pa_nil)))
      (pss_cons (ps_set (i := 3) sc_mingled.nd rfl (.inl rfl) (pe_lst pa_nil))
      (pss_cons (ps_for PassesOwn.never rfl (pi_range1 (by rfl) T.m_range (pa_cons (pe_callB (cr_lenK K) (by rfl) T.m_len (by decide +kernel) (pa_cons (xv 1) pa_nil)) pa_nil)) (pg_name (i := 4) sc_mingled.nd rfl (.inl rfl))
      (pss_one (ps_expr (pe_bmK K PySem.F.plainAttrs_list PySem.F.slot_list_append PySem.F.type_list_append mt_append (xv 3) (pa_cons (pe_bmK K PySem.F.plainAttrs_list PySem.F.slot_list_pop PySem.F.type_list_pop mt_popAt (xv 2) (pa_cons (pe_call G_pick (hr.mono (by omega)) (by rfl) T.g_pick T.F_pick.kp T.b_pick .nil pass0 (pa_cons (xv 0) (pa_cons (pe_callB (cr_lenK K) (by rfl) T.m_len (by decide +kernel) (pa_cons (xv 2) pa_nil)) pa_nil))) pa_nil)) pa_nil)))))
      (pss_one (ps_ret (xv 3)))))), ?_⟩
    refine ⟨l, xs, rfl, hl.imp S.l S.t, fun L nL => ?_⟩
    have S1 := S.new (o := .lst xs) nL
    refine ⟨sz, fun O nO => ?_⟩
    have S2 := S1.new (o := .lst []) nO
    refine ⟨_, hl.imp S2.l S2.t, _, rfl, by omega, by omega, for_range (lo := 0) (n := (xs.length : Int).toNat) (fun i σ H' => ∃ (y4 : Option V) (o' : HO) (ls os : List V), σ = [some (.ref b), some (.ref l), some (.ref L), some (.ref O), y4] ∧
      Bag G o' ∧ Sep G ((O, .lst os) :: (L, .lst ls) :: (b, o') :: M) H' ∧ ls.length + i = xs.length ∧ os.length = i ∧ (os ++ ls).Perm xs) ?_ (fun i σ H' hi h => ?_) (fun σ H' h => ?_)⟩
    · exact ⟨_, o, xs, [], rfl, B, S2, by omega, rfl, List.Perm.refl _⟩
    · obtain ⟨y4, o', ls, os, rfl, B', S3, e1, e2, pm⟩ := h
      have S4 := (S3.sw).perm (List.Perm.cons _ (List.Perm.swap _ _ _))
      have S5 := S4.sw
      -- out.append(left.pop(pick(bag, len(left))))
      refine ⟨.inl ⟨rfl, _, SqL.of S3.hd⟩, .inl ⟨rfl, _, SqL.of S4.hd⟩, _, .inl (SqL.of S4.hd), G, _, b, o', _, rfl, S5, B', by omega, by omega, fun r o2 H2 r0 r1 B2 S6 => ?_⟩
      have S7 := S6.sw
      obtain ⟨v, hv, hm⟩ := atI_in r0 r1
      have S8 := S7.set (o' := .lst (ls.eraseIdx r.toNat))
      have S9 := (S8.perm (List.Perm.cons _ (List.Perm.swap _ _ _))).sw
      refine ⟨L, ls, r, r.toNat, v, rfl, rfl, S7.hd, by omega, by omega, seqIdx r0 r1, atN r0 hv, O, os, v, rfl, rfl, S9.hd, smallL (by omega), ?_⟩
      refine ⟨_, o2, ls.eraseIdx r.toNat, os ++ [v], rfl, B2, S9.set, ?_, ?_, ?_⟩
      · rw [List.length_eraseIdx_of_lt (by omega)]
        omega
      · rw [List.length_append, e2]
        rfl
      · refine List.Perm.trans ?_ pm
        rw [List.append_assoc, List.singleton_append]
        refine List.Perm.append_left _ ?_
        exact perm_erase (atN r0 hv)
    · obtain ⟨y4, o', ls, os, rfl, B', S3, e1, e2, pm⟩ := h
      have S4 := ((S3.frz).drop)
      exact q O os o' _ _ S3.frzS upd_same (by
        have e3 : ls = [] := List.eq_nil_of_length_eq_zero (by omega)
        rw [e3, List.append_nil] at pm
        exact pm) (B'.same S3.frzS) S4

def spNumber : Sp := fun vs H Q _ => ∃ i : Int, vs = [.int i] ∧ Q (.bl true) H
theorem ok_number (T : Top K mg w) {k : Nat} : FnOk P w K mg base CX0 (k + 1) T.a_number T.d_number ["_law_thing"] spNumber := by
  refine T.F_number.ok sc_number (fun vs H Q E h => ?_) (fun cdv A outer s H vs Q E hr h => ?_)
  · obtain ⟨i, rfl, _⟩ := h
    rfl
  · obtain ⟨i, rfl, q⟩ := h
    refine ⟨_, (pss_one (ps_ret (xe_and (pe_callB (call_isK K) (by rfl) T.m_isinstance (by decide +kernel) (pa_cons (xv 0) (pa_cons (pe_bltn (v := .ty "int") (by rfl) T.m_int (by decide +kernel) rfl) pa_nil))) (pe_one (xe_not (pe_callB (call_isK K) (by rfl) T.m_isinstance (by decide +kernel) (pa_cons (xv 0) (pa_cons (pe_bltn (v := .ty "bool") (by rfl) T.m_bool (by decide +kernel) rfl) pa_nil)))))))), ?_⟩
    refine ⟨_, _, _, _, true, rfl, .ty _, .base (.int _), kit_ty (by decide +kernel), fun _ => ⟨_, _, _, _, false, rfl, .ty _, .base (.int _), kit_ty (by decide +kernel), ?_⟩, fun e => nomatch e⟩
    exact q

end
end K39
set_option Elab.async false
set_option linter.all false
set_option maxRecDepth 100000
set_option maxHeartbeats 4000000
namespace K39
open PySem PySem.Spec PyProof.Rows L2 XL
section
variable {P : Program} {w : World} {K : PySem.W.Frag} {mg : Str → Option Value} {base : Heap}
/-! ### a new name -/
def spNew : Sp := fun vs H Q _ => ∃ (G : Hp) (M : List (Addr × HO)) (b : Addr) (o : HO) (l : Addr) (zs : List Str), vs = [.ref b, .ref l] ∧ Sep G ((b, o) :: (l, .lst (zs.map V.str)) :: M) H ∧ Bag G o ∧ (∀ z ∈ zs, Lt 1 8 z) ∧ zs.length ≤ 100 ∧
  ∀ (z : Str) (o' : HO) (H' : Hp), Lt 1 8 z → z ∉ zs → z ≠ "item" → z ≠ "at" → Bag G o' → Sep G ((b, o') :: (l, .lst ((zs ++ [z]).map V.str)) :: M) H' → Q (.str z) H'
theorem letter_ix {r : Int} (h0 : 0 ≤ r) (h1 : r < 26) : ∃ c, atI LS.cps.toList r = some c ∧ c ∈ LS.cps.toList := by
  obtain ⟨k, rfl⟩ := Int.eq_ofNat_of_zero_le h0
  have z := letter_at (show k < 26 by omega)
  exact ⟨_, atI_nat z, List.mem_of_getElem? z⟩
theorem LS_len : LS.length ≤ sizeLine := by decide +kernel
theorem lt_small {a b : Nat} {z : Str} (h : Lt a b z) (hb : b ≤ 100) : z.length ≤ sizeLine := Nat.le_trans h.hi (Nat.le_trans hb (by decide))
def freshOf (p : Str) (zs : List Str) (ts : List Str) : List Str := (ts.filter fun t => !decide (p ++ t ∈ zs)).map fun t => p ++ t
theorem fresh_snoc (p : Str) (us ts : List Str) (t2 : Str) : freshOf p us (ts ++ [t2]) = freshOf p us ts ++ (if !decide (p ++ t2 ∈ us) then [p ++ t2] else []) := by
  unfold freshOf
  rw [List.filter_append, List.map_append]
  congr 1
  by_cases h : p ++ t2 ∈ us <;> simp [h]
theorem ok_new_name (T : Top K mg w) {k : Nat} (G_pick : FnOk P w K mg base CX0 k T.a_pick T.d_pick ["_law_bag_here", "_law_many"] spPick) : FnOk P w K mg base CX0 (k + 1) T.a_new_name T.d_new_name ["_law_bag_here", "_law_used"] spNew := by
  refine T.F_new_name.ok sc_new_name (fun vs H Q E h => ?_) (fun cdv A outer s H vs Q E hr h => ?_)
  · obtain ⟨G, M, b, o, l, zs, rfl, _⟩ := h
    rfl
  · obtain ⟨G, M, b, o, l, zs, rfl, S, B, hz, zl, q⟩ := h
    refine ⟨_, (pss_cons (ps_set (i := 2) sc_new_name.nd rfl (.inr rfl) pe_str)
      (pss_cons (ps_set (i := 3) sc_new_name.nd rfl (.inr rfl) (pe_join pe_str (pe_lc (own := [("_law_step", 7)]) (by rfl) sc_new_name.nd (pi_range1 (by rfl) T.m_range (pa_cons (pe_op op_addY pe_int (pe_call G_pick (hr.mono (by omega)) (by rfl) T.g_pick T.F_pick.kp T.b_pick .nil pass0 (pa_cons (xv 0) (pa_cons pe_int pa_nil)))) pa_nil)) (blkOk_by (N := ["_law_bag_here", "_law_used", "_law_letters", "_law_told", "_law_near", "_law_at", "_law_tails", "_law_step", "_law_k", "_law_tail"]) (sc := defScope s_new_name) (by decide +kernel)) (fun _ _ _ _ _ => (pg_name (i := 7) sc_new_name.nd rfl (.inl rfl))) (fun _ _ _ _ _ => pts_nil) (fun _ _ _ _ _ => (pe_ix (ix_k K) (xv 2) (pe_call G_pick (hr.mono (by omega)) (by rfl) T.g_pick T.F_pick.kp T.b_pick .nil pass0 (pa_cons (xv 0) (pa_cons pe_int pa_nil))) (fun _ _ => rfl))))))
      (xss_cut (xs_if (PW.pt (xw_and (xt_truK K (xv 1)) (pw_and1 (xt_cmp (op_eqLK K hr.u190) (pe_call G_pick (hr.mono (by omega)) (by rfl) T.g_pick T.F_pick.kp T.b_pick .nil pass0 (pa_cons (xv 0) (pa_cons pe_int pa_nil))) pe_int (nomark _)))))
      (pss_cons (ps_set (i := 4) sc_new_name.nd rfl (.inl rfl) (pe_slice sl_str (pe_ix (ix_k K) (xv 1) (pe_call G_pick (hr.mono (by omega)) (by rfl) T.g_pick T.F_pick.kp T.b_pick .nil pass0 (pa_cons (xv 0) (pa_cons (pe_callB (cr_lenK K) (by rfl) T.m_len (by decide +kernel) (pa_cons (xv 1) pa_nil)) pa_nil))) (fun _ _ => rfl)) po_none (po_some pe_int)))
      (pss_cons (ps_set (i := 5) sc_new_name.nd rfl (.inl rfl) (pe_call G_pick (hr.mono (by omega)) (by rfl) T.g_pick T.F_pick.kp T.b_pick .nil pass0 (pa_cons (xv 0) (pa_cons (pe_callB (cr_lenK K) (by rfl) T.m_len (by decide +kernel) (pa_cons (xv 4) pa_nil)) pa_nil))))
      (pss_one (ps_set (i := 3) sc_new_name.nd rfl (.inr rfl) (pe_op op_addY (pe_op op_addY (pe_slice sl_str (xv 4) po_none (po_some (xv 5))) (pe_ix (ix_k K) (xv 2) (pe_call G_pick (hr.mono (by omega)) (by rfl) T.g_pick T.F_pick.kp T.b_pick .nil pass0 (pa_cons (xv 0) (pa_cons pe_int pa_nil))) (fun _ _ => rfl))) (pe_slice sl_str (xv 4) (po_some (pe_op op_addY (xv 5) pe_int)) po_none))))))
      pss_nil)
      (xss_cut (xs_if (xt_cmp (in_seqK K) (xv 3) (pe_op op_addY (xv 1) (pe_lst (pa_cons pe_str (pa_cons pe_str pa_nil)))) (by rfl))
      (pss_cons (ps_setLc (i := 6) (own := [("_law_k", 8)]) (by rfl) sc_new_name.nd rfl rfl (sw_true rfl rfl rfl (by decide +kernel)) (pi_range1 (by rfl) T.m_range (pa_cons pe_int pa_nil)) (blkOk_by (N := ["_law_bag_here", "_law_used", "_law_letters", "_law_told", "_law_near", "_law_at", "_law_tails", "_law_step", "_law_k", "_law_tail"]) (sc := defScope s_new_name) (by decide +kernel)) (fun _ _ _ _ _ => (pg_name (i := 8) sc_new_name.nd rfl (.inl rfl))) (fun _ _ _ _ _ => pts_nil) (fun _ _ _ _ _ => (pe_op op_addY (pe_ix (ix_k K) (xv 2) (pe_op op_divY (xv 8) pe_int) (fun _ _ => rfl)) (pe_ix (ix_k K) (xv 2) (pe_op op_modY (pe_callTy cr_int (by rfl) T.m_int (by decide +kernel) (pa_cons (xv 8) pa_nil)) pe_int) (fun _ _ => rfl)))))
      (pss_one (ps_set (i := 3) sc_new_name.nd rfl (.inr rfl) (pe_ix (ix_k K) (pe_lc (own := [("_law_tail", 9)]) (by rfl) sc_new_name.nd (pi_listK K (xv 6)) (blkOk_by (N := ["_law_bag_here", "_law_used", "_law_letters", "_law_told", "_law_near", "_law_at", "_law_tails", "_law_step", "_law_k", "_law_tail"]) (sc := defScope s_new_name) (by decide +kernel)) (fun _ _ _ _ _ => (pg_name (i := 9) sc_new_name.nd rfl (.inl rfl))) (fun _ _ _ _ _ => (pts_one (xt_cmp (notin_seqK K) (pe_op op_addY (pe_slice sl_str (xv 3) po_none (po_some pe_int)) (xv 9)) (pe_op op_addY (xv 1) (pe_lst (pa_cons pe_str pa_nil))) (by rfl)))) (fun _ _ _ _ _ => (pe_op op_addY (pe_slice sl_str (xv 3) po_none (po_some pe_int)) (xv 9)))) pe_int (fun _ _ => rfl)))))
      pss_nil)
      (pss_cons (ps_expr (pe_bmK K PySem.F.plainAttrs_list PySem.F.slot_list_append PySem.F.type_list_append mt_append (xv 1) (pa_cons (xv 3) pa_nil)))
      (pss_one (ps_ret (xv 3)))))))), ?_⟩
    -- letters in a row
    refine ⟨⟨_, rfl⟩, G, _, b, o, 6, rfl, S, B, by decide, by decide, fun r1 o1 H1 r10 r11 B1 S1 => ⟨_, rfl, by omega, by omega, fun D nD => lc_range (lo := 0) (n := (1 + r1).toNat) (fun i H' => ∃ (o' : HO) (ys : List Str), Bag G o' ∧ Sep G ((D, .lst (ys.map V.str)) :: (b, o') :: (l, .lst (zs.map V.str)) :: M) H' ∧ ys.length = i ∧ ∀ y ∈ ys, Lt 1 1 y)
      ⟨o1, [], B1, S1.new nD, rfl, fun y hy => absurd hy (by simp)⟩ (fun i H' hi p => ?_) (fun H' p => ?_)⟩⟩
    · obtain ⟨o', ys, B', S', yl, hy⟩ := p
      refine ⟨rfl, G, _, b, o', 26, rfl, S'.sw, B', by decide, by decide, fun r2 o2 H2 r20 r21 B2 S2 => ?_⟩
      obtain ⟨c, hc, hm⟩ := letter_ix r20 r21
      refine ⟨c, LS_len, hc, ys.map V.str, S2.sw.hd, by rw [List.length_map]; exact smallL (by omega), o2, ys ++ [⟨#[c]⟩], B2, ?_, by rw [List.length_append, yl]; rfl, fun y hy' => ?_⟩
      · rw [List.map_append]
        exact S2.sw.set
      · rcases List.mem_append.mp hy' with z | z
        · exact hy y z
        · rw [List.mem_singleton.mp z]
          exact Lt.one hm
    obtain ⟨o2, ys, B2, S2, yl, hy⟩ := p
    refine ⟨_, D, ys, rfl, rfl, .inl (SqL.of S2.hd), ?_, ?_⟩
    · rw [sum_ones hy, show Str.length ("" : Str) = 0 from rfl, Nat.mul_zero]
      omega
    have S3 := S2.drop
    have lt1 : Lt 1 6 (Txt.join "" ys) := (Lt.join hy).wide (by omega) (by omega)
    generalize Txt.join "" ys = t1 at *
    -- near another one
    refine ⟨fun σ H' => ∃ (y4 y5 : Option V) (o' : HO) (t : Str), σ = [some (.ref b), some (.ref l), some (.str LS), some (.str t), y4, y5, none, none, none, none] ∧ Lt 1 6 t ∧ Bag G o' ∧ Sep G ((b, o') :: (l, .lst (zs.map V.str)) :: M) H', ?_, fun σ H4 h => ?_⟩
    · have stay : ∀ (o' : HO) (H' : Hp), Bag G o' → Sep G ((b, o') :: (l, .lst (zs.map V.str)) :: M) H' → ∃ (y4 y5 : Option V) (o' : HO) (t : Str), ([some (.ref b), some (.ref l), some (.str LS), some (.str t1), none, none, none, none, none, none] : List (Option V)) = [some (.ref b), some (.ref l), some (.str LS), some (.str t), y4, y5, none, none, none, none] ∧ Lt 1 6 t ∧ Bag G o' ∧ Sep G ((b, o') :: (l, .lst (zs.map V.str)) :: M) H' :=
        fun o' H' B' S' => ⟨_, _, o', t1, rfl, lt1, B', S'⟩
      refine ⟨_, .inl ⟨_, SqL.of S3.sw.hd, rfl⟩, fun ne => ⟨G, _, b, o2, 3, rfl, S3, B2, by decide, by decide, fun r4 o4 H4 _ _ B4 S4 => ⟨fun _ => ?_, fun _ => stay o4 H4 B4 S4⟩⟩, fun _ => ⟨ff, fun _ => stay o2 _ B2 S3⟩⟩
      have z0 : 0 < zs.length := by
        cases zs with
        | nil => cases ne
        | cons _ _ => simp
      refine ⟨_, .inl (SqL.of S4.sw.hd), G, _, b, o4, _, rfl, S4, B4, by rw [List.length_map]; omega, by rw [List.length_map]; omega, fun r5 o5 H5 r50 r51 B5 S5 => ?_⟩
      obtain ⟨v5, hv5, hm5⟩ := atI_in r50 r51
      obtain ⟨z5, hz5, rfl⟩ := List.mem_map.mp hm5
      have l5 := hz z5 hz5
      refine ⟨_, _, .inl (SqL.of S5.sw.hd), hv5, _, rfl, z5, rfl, lt_small l5 (by decide), ?_⟩
      have ln : Lt 1 6 (cutS z5 none (some (6 : Int))) := (l5.to 6).wide (by decide) (by decide)
      generalize cutS z5 none (some (6 : Int)) = nr at *
      have nlo := ln.lo
      have nhi := ln.hi
      refine ⟨lt_small ln (by decide), G, _, b, o5, _, rfl, S5, B5, by omega, by omega, fun r6 o6 H6 r60 r61 B6 S6 => ?_⟩
      obtain ⟨k6, rfl⟩ := Int.eq_ofNat_of_zero_le r60
      refine ⟨_, rfl, nr, rfl, lt_small ln (by decide), G, _, b, o6, 26, rfl, S6, B6, by decide, by decide, fun r7 o7 H7 r70 r71 B7 S7 => ?_⟩
      obtain ⟨c, hc, hm⟩ := letter_ix r70 r71
      have a1 : (cutS nr none (some (k6 : Int))).length = k6 := by rw [cut_to_len]; omega
      have a2 : (cutS nr (some ((k6 + 1 : Nat) : Int)) none).length = nr.length - (k6 + 1) := cut_from_len nr (k6 + 1) (by omega)
      refine ⟨c, LS_len, hc, ?_, fun t2 et2 => ⟨_, rfl, nr, rfl, lt_small ln (by decide), ?_, fun t3 et3 => ⟨_, _, o7, t3, rfl, ?_, B7, S7⟩⟩⟩
      · rw [a1]
        exact small (by show k6 + 1 ≤ 100000; omega)
      · rw [et2, app_len, a1]
        show k6 + 1 + (cutS nr (some ((k6 + 1 : Nat) : Int)) none).length ≤ sizeLine
        rw [a2]
        exact small (by omega)
      · rw [et3, et2]
        have p1 : Lt k6 k6 (cutS nr none (some (k6 : Int))) := ⟨by omega, by omega, fun d hd => ln.ch d (cut_mem hd)⟩
        have p2 : Lt (nr.length - (k6 + 1)) (nr.length - (k6 + 1)) (cutS nr (some ((k6 + 1 : Nat) : Int)) none) := ⟨by omega, by omega, fun d hd => ln.ch d (cut_mem hd)⟩
        exact ((p1.app (Lt.one hm)).app p2).wide (by omega) (by omega)
    obtain ⟨y4, y5, o4, t, rfl, lt, B4, S4⟩ := h
    -- one that is used
    refine ⟨fun σ H' => ∃ (y6 : Option V) (z : Str), σ = [some (.ref b), some (.ref l), some (.str LS), some (.str z), y4, y5, y6, none, none, none] ∧ Lt 1 8 z ∧ z ∉ zs ∧ z ≠ "item" ∧ z ≠ "at" ∧ Sep G ((b, o4) :: (l, .lst (zs.map V.str)) :: M) H', ?_, fun σ H5 h => ?_⟩
    · refine ⟨sz, fun A1 nA1 => ?_⟩
      have S5 := S4.new (o := .lst [.str "item", .str "at"]) nA1
      refine ⟨l, A1, zs.map V.str, [.str "item", .str "at"], rfl, rfl, S5.at (show (l, HO.lst (zs.map V.str)) ∈ _ by simp), S5.hd, small (by rw [List.length_map]; simp; omega), fun A2 nA2 => ?_⟩
      have e6 : zs.map V.str ++ [V.str "item", .str "at"] = (zs ++ (["item", "at"] : List Str)).map V.str := by rw [List.map_append]; rfl
      rw [e6]
      have S6 := S5.new (o := .lst ((zs ++ (["item", "at"] : List Str)).map V.str)) nA2
      have S7 := S6.drop.drop
      refine ⟨A2, _, rfl, .inl (SqL.of S6.hd), rfl, strs_flat _, fun e1 => ?_, fun e1 => ?_⟩
      · -- its tails
        refine ⟨676, rfl, by decide, by decide, fun D nD => lc_range (lo := 0) (n := (676 : Int).toNat) (fun i H' => Sep G ((D, .lst (((List.range i).map tail2).map V.str)) :: (b, o4) :: (l, .lst (zs.map V.str)) :: M) H') (S7.new nD) (fun i H' hi p => ?_) (fun H8 S8 => ?_)⟩
        · have hi : i < 676 := hi
          rw [Int.zero_add]
          refine ⟨rfl, ⟨by decide, by decide⟩, fun d ed _ => ⟨letter (i / 26), LS_len, ?_, by decide, fun r er r0 r1 => ⟨letter (i % 26), LS_len, ?_, small (by show 1 + 1 ≤ 100000; decide), fun t2 et2 => ⟨_, p.hd, ?_, ?_⟩⟩⟩⟩
          · have z : d = ((i / 26 : Nat) : Int) := by omega
            rw [z]
            exact atI_nat (letter_at (by omega))
          · have z : r = ((i % 26 : Nat) : Int) := by omega
            rw [z]
            exact atI_nat (letter_at (by omega))
          · rw [List.length_map, List.length_map, List.length_range]
            exact smallL (by omega)
          · rw [List.range_succ, List.map_append, List.map_append, et2]
            exact p.set
        have S8 : Sep G ((D, .lst (((List.range 676).map tail2).map V.str)) :: (b, o4) :: (l, .lst (zs.map V.str)) :: M) H8 := S8
        have ltp : Lt 1 6 (cutS t none (some (6 : Int))) := (lt.to 6).wide (by decide) (by decide)
        generalize ep : cutS t none (some (6 : Int)) = p at *
        have tl : ∀ t2 ∈ (List.range 676).map tail2, Lt 2 2 t2 := fun t2 h => by
          obtain ⟨k2, hk2, rfl⟩ := List.mem_map.mp h
          exact tail2_lt (List.mem_range.mp hk2)
        obtain ⟨ts, ets⟩ : ∃ ts, ts = (List.range 676).map tail2 := ⟨_, rfl⟩
        rw [← ets] at tl S8
        have tsl : ts.length = 676 := by rw [ets]; simp
        refine ⟨D, rfl, ⟨_, SqL.of S8.hd⟩, fun F nF => lc_list (xs := ts.map V.str) (fun i H' => Sep G ((F, .lst ((freshOf p (zs ++ (["item"] : List Str)) (ts.take i)).map V.str)) :: (D, .lst (ts.map V.str)) :: (b, o4) :: (l, .lst (zs.map V.str)) :: M) H')
          (S8.new nF) (fun i H' _ p' => SqL.of p'.sw.hd) (fun i x H' hx p' => ?_) (fun H9 S9 => ?_)⟩
        · rw [List.getElem?_map] at hx
          obtain ⟨t2, ht2, rfl⟩ := Option.map_eq_some_iff.mp hx
          have lt2 := tl t2 (List.mem_of_getElem? ht2)
          have il := (List.getElem?_eq_some_iff.mp ht2).1
          have ltb := ltp.app lt2
          have hb := ltb.hi
          rw [app_len] at hb
          have flen : (freshOf p (zs ++ (["item"] : List Str)) (ts.take i)).length ≤ 676 := by
            unfold freshOf
            rw [List.length_map]
            refine Nat.le_trans (List.length_filter_le _ _) ?_
            rw [List.length_take]
            omega
          have fstep : freshOf p (zs ++ (["item"] : List Str)) (ts.take (i + 1)) = freshOf p (zs ++ (["item"] : List Str)) (ts.take i) ++ (if !decide (p ++ t2 ∈ zs ++ (["item"] : List Str)) then [p ++ t2] else []) := by
            rw [XL.take_snoc ht2]
            exact fresh_snoc _ _ _ _
          rw [fstep]
          refine ⟨rfl, _, rfl, t, rfl, lt_small lt (by decide), ?_⟩
          rw [ep]
          refine ⟨small (by omega), fun u1 eu1 => ⟨sz, fun A3 nA3 => ?_⟩⟩
          have Sa := p'.new (o := .lst [.str "item"]) nA3
          refine ⟨l, A3, zs.map V.str, [.str "item"], rfl, rfl, Sa.at (show (l, HO.lst (zs.map V.str)) ∈ _ by simp), Sa.hd, small (by rw [List.length_map]; simp; omega), fun A4 nA4 => ?_⟩
          have e7 : zs.map V.str ++ [V.str "item"] = (zs ++ (["item"] : List Str)).map V.str := by rw [List.map_append]; rfl
          rw [e7]
          have Sb := Sa.new (o := .lst ((zs ++ (["item"] : List Str)).map V.str)) nA4
          refine ⟨A4, _, rfl, .inl (SqL.of Sb.hd), rfl, strs_flat _, ?_⟩
          have e8 : (if true = true then !inV (V.str u1) ((zs ++ (["item"] : List Str)).map V.str) else inV (V.str u1) ((zs ++ (["item"] : List Str)).map V.str)) = !decide (p ++ t2 ∈ zs ++ (["item"] : List Str)) := by rw [if_pos rfl, inV_str, eu1]
          rw [e8]
          have Sc := Sb.drop.drop
          refine tst (fun e9 => ?_) (fun e9 => ?_)
          · rw [if_pos e9]
            refine ⟨_, rfl, t, rfl, lt_small lt (by decide), ?_⟩
            rw [ep]
            refine ⟨small (by omega), fun u2 eu2 => ⟨_, Sc.hd, by rw [List.length_map]; exact smallL (by omega), ?_⟩⟩
            rw [List.map_append, eu2]
            exact Sc.set
          · rw [if_neg (by rw [e9]; exact Bool.false_ne_true), List.append_nil]
            exact Sc
        rw [List.length_map, List.take_length] at S9
        obtain ⟨k0, hk0, no⟩ := unused p (zs ++ (["item"] : List Str)) (by rw [List.length_append]; simp; omega)
        have mem : p ++ tail2 k0 ∈ freshOf p (zs ++ (["item"] : List Str)) ts := by
          unfold freshOf
          refine List.mem_map.mpr ⟨tail2 k0, List.mem_filter.mpr ⟨?_, by simpa using no⟩, rfl⟩
          rw [ets]
          exact List.mem_map.mpr ⟨k0, List.mem_range.mpr hk0, rfl⟩
        cases ef : freshOf p (zs ++ (["item"] : List Str)) ts with
        | nil => rw [ef] at mem; cases mem
        | cons z0 zr =>
          rw [ef] at S9
          have hz0 : z0 ∈ freshOf p (zs ++ (["item"] : List Str)) ts := by rw [ef]; exact List.mem_cons_self
          unfold freshOf at hz0
          obtain ⟨t2, ht2, rfl⟩ := List.mem_map.mp hz0
          obtain ⟨h1, h2⟩ := List.mem_filter.mp ht2
          have no2 : p ++ t2 ∉ zs ++ (["item"] : List Str) := by simpa using h2
          have l2 := ltp.app (tl t2 h1)
          refine ⟨_, .str (p ++ t2), .inl (SqL.of S9.hd), (show atI _ ((0 : Nat) : Int) = some _ from atI_nat rfl), _, p ++ t2, rfl, l2.wide (by decide) (by decide), fun h => no2 (List.mem_append_left _ h), fun h => no2 (List.mem_append_right _ (by rw [h]; simp)), fun h => ?_, S9.drop.drop⟩
          have l3 := l2.lo
          rw [h] at l3
          exact absurd l3 (by decide +kernel)
      · have e2 : inV (.str t) ((zs ++ (["item", "at"] : List Str)).map V.str) = false := e1
        rw [inV_str] at e2
        have no := of_decide_eq_false e2
        exact ⟨_, t, rfl, lt.wide (by decide) (by decide), fun h => no (List.mem_append_left _ h), fun h => no (List.mem_append_right _ (by rw [h]; simp)), fun h => no (List.mem_append_right _ (by rw [h]; simp)), S7⟩
    obtain ⟨y6, z, rfl, ltz, f1, f2, f3, S5⟩ := h
    refine ⟨.inl ⟨rfl, _, SqL.of S5.sw.hd⟩, l, _, _, rfl, rfl, S5.sw.hd, smallL (by rw [List.length_map]; omega), ?_⟩
    refine q z o4 _ ltz f1 f2 f3 B4 ?_
    rw [List.map_append]
    exact (S5.sw.set).sw

end
end K39
set_option Elab.async false
set_option linter.all false
set_option maxRecDepth 100000
set_option maxHeartbeats 4000000
namespace K39
open PySem PySem.Spec PyProof.Rows L2 XL
/-! ### data of a bounded size -/
theorem showAll : ∀ {xs : List PyData}, (∀ x ∈ xs, x.showable = true) → PyData.showableAll xs = true
  | [], _ => by simp only [PyData.showableAll]
  | x :: xs, h => by
    simp only [PyData.showableAll, h x (by simp), showAll (xs := xs) fun y hy => h y (List.mem_cons_of_mem _ hy), Bool.and_self]
theorem layAll : ∀ {xs : List PyData}, (∀ x ∈ xs, x.canLay0 = true) → PyData.canLayAll0 xs = true
  | [], _ => by simp only [PyData.canLayAll0]
  | x :: xs, h => by
    simp only [PyData.canLayAll0, h x (by simp), layAll (xs := xs) fun y hy => h y (List.mem_cons_of_mem _ hy), Bool.and_self]
theorem depthAll_le {n : Nat} : ∀ {xs : List PyData}, (∀ x ∈ xs, x.depth ≤ n) → PyData.depthAll xs ≤ n
  | [], _ => by simp only [PyData.depthAll]; omega
  | x :: xs, h => by
    have h1 := h x (by simp)
    have h2 := depthAll_le (xs := xs) fun y hy => h y (List.mem_cons_of_mem _ hy)
    simp only [PyData.depthAll]
    omega
theorem shortAll {n : Nat} : ∀ {xs : List PyData}, (∀ x ∈ xs, x.leavesShort n = true) → PyData.leavesShortAll n xs = true
  | [], _ => by simp only [PyData.leavesShortAll]
  | x :: xs, h => by
    simp only [PyData.leavesShortAll, h x (by simp), shortAll (xs := xs) fun y hy => h y (List.mem_cons_of_mem _ hy), Bool.and_self]
theorem weightAll_le {n : Nat} : ∀ {xs : List PyData}, (∀ x ∈ xs, x.weight ≤ n) → PyData.weightAll xs ≤ xs.length * (n + 1)
  | [], _ => by simp only [PyData.weightAll]; omega
  | x :: xs, h => by
    have h1 := h x (by simp)
    have h2 := weightAll_le (xs := xs) fun y hy => h y (List.mem_cons_of_mem _ hy)
    simp only [PyData.weightAll, List.length_cons, Nat.add_mul]
    omega
structure Fit (w dp : Nat) (d : PyData) : Prop where
  cl : d.canLay0 = true
  sh : d.showable = true
  ls : d.leavesShort 8 = true
  dp : d.depth ≤ dp
  wt : d.weight ≤ w
theorem Fit.mono {w dp w' dp' : Nat} {d : PyData} (h : Fit w dp d) (h1 : w ≤ w') (h2 : dp ≤ dp') : Fit w' dp' d := ⟨h.cl, h.sh, h.ls, Nat.le_trans h.dp h2, Nat.le_trans h.wt h1⟩
theorem Fit.shaped {w dp : Nat} {d : PyData} (h : Fit w dp d) (h2 : dp ≤ 64) : SeqAt.shaped d = true := by
  unfold SeqAt.shaped
  rw [h.cl, decide_eq_true (Nat.le_trans h.dp h2)]
  rfl
theorem Fit.self {w dp : Nat} {d : PyData} (h : Fit w dp d) : PyData.eqv d d = true := SeqAt.eqv_refl d h.cl
structure Shw (d : PyData) : Prop where
  sh : d.showable = true
  nd : d.hasDict = false
  dp : d.depth ≤ 64
  ln : d.shown.length ≤ sizeLine
theorem Fit.shw {w dp : Nat} {d : PyData} (h : Fit w dp d) (h1 : w ≤ 1048576) (h2 : dp ≤ 64) : Shw d :=
  ⟨h.sh, PyData.hasDict_of_canLay d h.cl, Nat.le_trans h.dp h2, PyData.shown_fits (B := 8) (by decide) (by decide) h.ls (Nat.le_trans h.wt (Nat.le_trans h1 (by decide)))⟩
theorem Fit.tup {w dp : Nat} {ds : List PyData} (hw : PyData.weightAll ds ≤ w) (h : ∀ d ∈ ds, ∃ w', Fit w' dp d) : Fit w (dp + 1) (.tuple ds) := by
  have dl := depthAll_le (n := dp) fun d hd => (h d hd).choose_spec.dp
  refine ⟨?_, ?_, ?_, ?_, ?_⟩
  · simp only [PyData.canLay0]; exact layAll fun d hd => (h d hd).choose_spec.cl
  · simp only [PyData.showable]; exact showAll fun d hd => (h d hd).choose_spec.sh
  · simp only [PyData.leavesShort]; exact shortAll fun d hd => (h d hd).choose_spec.ls
  · simp only [PyData.depth]; omega
  · simp only [PyData.weight]; exact hw
theorem Fit.lst {w dp : Nat} {ds : List PyData} (hw : PyData.weightAll ds ≤ w) (h : ∀ d ∈ ds, ∃ w', Fit w' dp d) : Fit w (dp + 1) (.list ds) := by
  have dl := depthAll_le (n := dp) fun d hd => (h d hd).choose_spec.dp
  refine ⟨?_, ?_, ?_, ?_, ?_⟩
  · simp only [PyData.canLay0]; exact layAll fun d hd => (h d hd).choose_spec.cl
  · simp only [PyData.showable]; exact showAll fun d hd => (h d hd).choose_spec.sh
  · simp only [PyData.leavesShort]; exact shortAll fun d hd => (h d hd).choose_spec.ls
  · simp only [PyData.depth]; omega
  · simp only [PyData.weight]; exact hw
theorem Fit.tups {w dp : Nat} {ds : List PyData} (h : ∀ d ∈ ds, Fit w dp d) : Fit (ds.length * (w + 1)) (dp + 1) (.tuple ds) := .tup (weightAll_le fun d hd => (h d hd).wt) fun d hd => ⟨w, h d hd⟩
theorem Fit.lsts {w dp : Nat} {ds : List PyData} (h : ∀ d ∈ ds, Fit w dp d) : Fit (ds.length * (w + 1)) (dp + 1) (.list ds) := .lst (weightAll_le fun d hd => (h d hd).wt) fun d hd => ⟨w, h d hd⟩
theorem Fit.str {z : Str} {w : Nat} (h : ∀ c ∈ z.cps.toList, c < 1114112) (l : z.length ≤ w) : Fit w 0 (.str z) := by
  refine ⟨?_, by simp only [PyData.showable], ?_, by simp only [PyData.depth]; omega, ?_⟩
  · simp only [PyData.canLay0]
    unfold PyData.strOk
    rw [← Array.all_toList, List.all_eq_true]
    exact fun c hc => decide_eq_true (h c hc)
  · simp only [PyData.leavesShort]
    rw [List.all_eq_true]
    exact fun c hc => decide_eq_true (Nat.lt_trans (h c hc) (by decide))
  · simp only [PyData.weight]
    exact l
theorem LS_low : ∀ c ∈ LS.cps.toList, c < 1114112 := by decide +kernel
theorem Fit.name {z : Str} {a b : Nat} (h : Lt a b z) : Fit b 0 (.str z) := .str (fun c hc => LS_low c (h.ch c hc)) h.hi
theorem dig_short : ∀ n : Nat, n < 10 → (PyData.shown (.int (n : Nat))).length ≤ 8 ∧ PyData.weight (.int (n : Nat)) ≤ 4 ∧ PyData.showable (.int (n : Nat)) = true := by decide +kernel
theorem Fit.digit {n : Int} (h0 : 0 ≤ n) (h1 : n ≤ 9) : Fit 4 0 (.int n) := by
  obtain ⟨k, rfl⟩ := Int.eq_ofNat_of_zero_le h0
  have z := dig_short k (by omega)
  refine ⟨by simp only [PyData.canLay0], z.2.2, ?_, by simp only [PyData.depth]; omega, z.2.1⟩
  simp only [PyData.leavesShort]
  exact decide_eq_true z.1
/-! ### data at a value -/
theorem dp_tup {K : PySem.W.Frag} {G : Hp} {v : V} {ds : List PyData} (h : Dp K G v (.tuple ds)) : ∃ a xs, v = .ref a ∧ SqT K G a xs ∧ DpAll K G xs ds := by
  cases h with
  | tup h1 h2 => exact ⟨_, _, rfl, h1, h2⟩
theorem dpa_cons {K : PySem.W.Frag} {G : Hp} {xs : List V} {d : PyData} {ds : List PyData} (h : DpAll K G xs (d :: ds)) : ∃ x r, xs = x :: r ∧ Dp K G x d ∧ DpAll K G r ds := by
  cases h with
  | cons h1 h2 => exact ⟨_, _, rfl, h1, h2⟩
theorem dpa_nil {K : PySem.W.Frag} {G : Hp} {xs : List V} (h : DpAll K G xs []) : xs = [] := by
  cases h
  rfl
theorem dp_str {K : PySem.W.Frag} {G : Hp} {v : V} {z : Str} (h : Dp K G v (.str z)) : v = .str z := by
  cases h
  rfl
theorem dpa_len {K : PySem.W.Frag} {G : Hp} : ∀ {xs : List V} {ds : List PyData}, DpAll K G xs ds → xs.length = ds.length
  | _, _, .nil => rfl
  | _, _, .cons _ h => congrArg (· + 1) (dpa_len h)
theorem dpa_get {K : PySem.W.Frag} {G : Hp} : ∀ {xs : List V} {ds : List PyData} {i : Nat} {x : V}, DpAll K G xs ds → xs[i]? = some x → ∃ d, ds[i]? = some d ∧ Dp K G x d
  | _, _, _, _, .nil, h => by simp at h
  | _, _, 0, _, .cons h1 _, h => by
    simp at h
    subst h
    exact ⟨_, rfl, h1⟩
  | _, _, i + 1, _, .cons _ h2, h => by
    rw [List.getElem?_cons_succ] at h
    obtain ⟨d, e1, e2⟩ := dpa_get h2 h
    exact ⟨d, by rw [List.getElem?_cons_succ]; exact e1, e2⟩
theorem dpa_app {K : PySem.W.Frag} {G : Hp} : ∀ {xs ys : List V} {ds es : List PyData}, DpAll K G xs ds → DpAll K G ys es → DpAll K G (xs ++ ys) (ds ++ es)
  | _, _, _, _, .nil, h => h
  | _, _, _, _, .cons h1 h2, h => .cons h1 (dpa_app h2 h)
theorem dpa_take {K : PySem.W.Frag} {G : Hp} : ∀ {xs : List V} {ds : List PyData} (n : Nat), DpAll K G xs ds → DpAll K G (xs.take n) (ds.take n)
  | _, _, 0, _ => .nil
  | _, _, _ + 1, .nil => .nil
  | _, _, n + 1, .cons h1 h2 => .cons h1 (dpa_take n h2)
theorem dpa_drop {K : PySem.W.Frag} {G : Hp} : ∀ {xs : List V} {ds : List PyData} (n : Nat), DpAll K G xs ds → DpAll K G (xs.drop n) (ds.drop n)
  | _, _, 0, h => h
  | _, _, _ + 1, .nil => .nil
  | _, _, n + 1, .cons _ h2 => dpa_drop n h2
theorem dpa_one {K : PySem.W.Frag} {G : Hp} {v : V} {d : PyData} (h : Dp K G v d) : DpAll K G [v] [d] := .cons h .nil
theorem Sep.mk {G H : Hp} {M : List (Addr × HO)} {p : Addr} {o : HO} (S : Sep G M H) (h : H p = none) : ∃ G', Same G G' ∧ Sep G' M (upd H p o) ∧ G' p = some o := ⟨_, S.grow h, S.newG h, upd_same⟩

/-! ### fields -/
theorem putF_ne {f g : Str} {v x : V} {r : List (Str × V)} (h : decide (g = f) = false := by decide +kernel) : putF f v ((g, x) :: r) = (g, x) :: putF f v r := by
  show (if g = f then _ else _) = _
  rw [if_neg (of_decide_eq_false h)]
theorem putF_eq {f : Str} {v x : V} {r : List (Str × V)} : putF f v ((f, x) :: r) = (f, v) :: r := by
  show (if f = f then _ else _) = _
  rw [if_pos rfl]
theorem putF_nil {f : Str} {v : V} : putF f v [] = [(f, v)] := rfl
theorem lk_ne {f g : Str} {x : V} {r : List (Str × V)} (h : (f == g) = false := by decide +kernel) : List.lookup f ((g, x) :: r) = List.lookup f r := by simp [List.lookup, h]
theorem lk_eq {f : Str} {x : V} {r : List (Str × V)} : List.lookup f ((f, x) :: r) = some x := by simp [List.lookup]
theorem Sep.keep {G H : Hp} {M : List (Addr × HO)} {p : Addr} {o : HO} (S : Sep G ((p, o) :: M) H) : ∃ G', Same G G' ∧ Sep G' M H ∧ G' p = some o := ⟨_, S.frzS, S.frz, upd_same⟩

/-! ### sets of names -/
def pss : List (List Nat) := [[0], [1], [2], [0, 1], [0, 2], [1, 2], [0, 1, 2]]
def pssN (n : Nat) : List (List Nat) := pss.filter fun p => decide (p.getD (p.length - 1) 0 < n)
def nmd (ns : List Str) (p : List Nat) : List Str := p.map fun i => ns.getD i ""
def sets (ns : List Str) : List (List Str) := (pssN ns.length).map (nmd ns)
def sD (s : List Str) : PyData := .tuple (s.map PyData.str)
structure NsOk (ns : List Str) : Prop where
  lo : 1 ≤ ns.length
  hi : ns.length ≤ 3
  nd : ns.Nodup
  lt : ∀ x ∈ ns, Lt 1 8 x
theorem ns_cases {ns : List Str} (h : NsOk ns) : (∃ a, ns = [a]) ∨ (∃ a b, ns = [a, b] ∧ a ≠ b) ∨ ∃ a b c, ns = [a, b, c] ∧ a ≠ b ∧ a ≠ c ∧ b ≠ c := by
  have h1 := h.lo
  have h2 := h.hi
  have h3 := h.nd
  match ns, h1, h2, h3 with
  | [a], _, _, _ => exact .inl ⟨a, rfl⟩
  | [a, b], _, _, nd => exact .inr (.inl ⟨a, b, rfl, fun e => by subst e; simp at nd⟩)
  | [a, b, c], _, _, nd =>
    simp only [List.nodup_cons, List.mem_cons, List.not_mem_nil, or_false, not_or, List.nodup_nil, and_true, not_false_eq_true] at nd
    exact .inr (.inr ⟨a, b, c, rfl, nd.1.1, nd.1.2, nd.2⟩)
theorem sets1 (a : Str) : sets [a] = [[a]] := rfl
theorem sets2 (a b : Str) : sets [a, b] = [[a], [b], [a, b]] := rfl
theorem sets3 (a b c : Str) : sets [a, b, c] = [[a], [b], [c], [a, b], [a, c], [b, c], [a, b, c]] := rfl
theorem set_fil {ns : List Str} (h : NsOk ns) {c : List Str} (hc : c ∈ sets ns) : ns.filter (fun x => decide (x ∈ c)) = c ∧ c ≠ [] := by
  rcases ns_cases h with ⟨a, rfl⟩ | ⟨a, b, rfl, n1⟩ | ⟨a, b, d, rfl, n1, n2, n3⟩
  · rw [sets1] at hc
    simp only [List.mem_cons, List.not_mem_nil, or_false] at hc
    subst hc
    simp
  · rw [sets2] at hc
    simp only [List.mem_cons, List.not_mem_nil, or_false] at hc
    rcases hc with rfl | rfl | rfl <;> simp [n1, n1.symm]
  · rw [sets3] at hc
    simp only [List.mem_cons, List.not_mem_nil, or_false] at hc
    rcases hc with rfl | rfl | rfl | rfl | rfl | rfl | rfl <;> simp [n1, n1.symm, n2, n2.symm, n3, n3.symm]
theorem fil_set {ns : List Str} (h : NsOk ns) (p : Str → Bool) (ne : ns.filter p ≠ []) : ns.filter p ∈ sets ns := by
  rcases ns_cases h with ⟨a, rfl⟩ | ⟨a, b, rfl, n1⟩ | ⟨a, b, d, rfl, n1, n2, n3⟩
  · rw [sets1]
    cases e1 : p a <;> simp [List.filter, e1] at ne ⊢
  · rw [sets2]
    cases e1 : p a <;> cases e2 : p b <;> simp [List.filter, e1, e2] at ne ⊢
  · rw [sets3]
    cases e1 : p a <;> cases e2 : p b <;> cases e3 : p d <;> simp [List.filter, e1, e2, e3] at ne ⊢
theorem set_mem {ns : List Str} (h : NsOk ns) {c : List Str} (hc : c ∈ sets ns) : ∀ x ∈ c, x ∈ ns := fun x hx => by
  rw [← (set_fil h hc).1] at hx
  exact (List.mem_filter.mp hx).1
theorem set_len {ns : List Str} (h : NsOk ns) {c : List Str} (hc : c ∈ sets ns) : c.length ≤ 3 ∧ 0 < c.length := by
  have e := set_fil h hc
  have l := List.length_filter_le (fun x => decide (x ∈ c)) ns
  rw [e.1] at l
  exact ⟨Nat.le_trans l h.hi, List.length_pos_iff.mpr e.2⟩
theorem sets_len {ns : List Str} (h : NsOk ns) : (sets ns).length ≤ 7 := by
  rcases ns_cases h with ⟨a, rfl⟩ | ⟨a, b, rfl, _⟩ | ⟨a, b, d, rfl, _⟩
  · rw [sets1]; simp
  · rw [sets2]; simp
  · rw [sets3]; simp
theorem one_set {ns : List Str} (h : NsOk ns) {x : Str} (hx : x ∈ ns) : [x] ∈ sets ns := by
  rcases ns_cases h with ⟨a, rfl⟩ | ⟨a, b, rfl, n1⟩ | ⟨a, b, d, rfl, n1, n2, n3⟩
  · rw [sets1]; simpa using hx
  · rw [sets2]; simp only [List.mem_cons, List.not_mem_nil, or_false] at hx; rcases hx with rfl | rfl <;> simp
  · rw [sets3]; simp only [List.mem_cons, List.not_mem_nil, or_false] at hx; rcases hx with rfl | rfl | rfl <;> simp
/-! as data -/
theorem strs_eqv : ∀ a b : List Str, PyData.eqvAll (a.map PyData.str) (b.map PyData.str) = decide (a = b)
  | [], [] => by simp [PyData.eqvAll]
  | [], _ :: _ => by simp [PyData.eqvAll]
  | _ :: _, [] => by simp [PyData.eqvAll]
  | x :: a, y :: b => by
    rw [Bool.eq_iff_iff]
    simp [PyData.eqvAll, PyData.eqv, strs_eqv a b]
theorem sD_eqv (a b : List Str) : PyData.eqv (sD a) (sD b) = decide (a = b) := by
  unfold sD
  rw [PyData.eqv]
  exact strs_eqv a b
theorem sD_any (ss : List (List Str)) (c : List Str) : ((ss.map sD).any fun z => PyData.eqv z (sD c)) = decide (c ∈ ss) := by
  rw [Bool.eq_iff_iff, List.any_eq_true, decide_eq_true_eq]
  constructor
  · rintro ⟨d, hd, e⟩
    obtain ⟨s, hs, rfl⟩ := List.mem_map.mp hd
    rw [sD_eqv, decide_eq_true_eq] at e
    rw [← e]
    exact hs
  · exact fun h => ⟨sD c, List.mem_map_of_mem h, by rw [sD_eqv, decide_eq_true rfl]⟩
theorem sD_fit {c : List Str} (h : ∀ x ∈ c, Lt 1 8 x) : Fit (c.length * 9) 1 (sD c) := by
  have z := Fit.tups (w := 8) (dp := 0) (ds := c.map PyData.str) fun d hd => by
    obtain ⟨x, hx, rfl⟩ := List.mem_map.mp hd
    exact Fit.name (h x hx)
  rw [List.length_map] at z
  exact z
theorem sD_shaped {c : List Str} (h : ∀ x ∈ c, Lt 1 8 x) : SeqAt.shaped (sD c) = true := (sD_fit h).shaped (by decide)
theorem sDs_cl {ss : List (List Str)} (h : ∀ c ∈ ss, ∀ x ∈ c, Lt 1 8 x) : PyData.canLayAll0 (ss.map sD) = true := layAll fun d hd => by
  obtain ⟨c, hc, rfl⟩ := List.mem_map.mp hd
  exact (sD_fit (h c hc)).cl
theorem strs_dp {K : PySem.W.Frag} {G : Hp} : ∀ zs : List Str, DpAll K G (zs.map V.str) (zs.map PyData.str)
  | [] => .nil
  | z :: r => .cons (.str z) (strs_dp r)
theorem dpa_strs {K : PySem.W.Frag} {G : Hp} : ∀ {zs : List Str} {vs : List V}, DpAll K G vs (zs.map PyData.str) → vs = zs.map V.str
  | [], _, h => dpa_nil h
  | z :: r, _, h => by
    obtain ⟨x, t, rfl, h1, h2⟩ := dpa_cons h
    rw [dp_str h1, dpa_strs h2]
    rfl
theorem sD_at {K : PySem.W.Frag} {G : Hp} {v : V} {c : List Str} (h : Dp K G v (sD c)) : ∃ a, v = .ref a ∧ SqT K G a (c.map V.str) := by
  obtain ⟨a, xs, rfl, h1, h2⟩ := dp_tup h
  rw [dpa_strs h2] at h1
  exact ⟨a, rfl, h1⟩
theorem sD_of {K : PySem.W.Frag} {G : Hp} {a : Addr} {c : List Str} (h : SqT K G a (c.map V.str)) : Dp K G (.ref a) (sD c) := .tup h (strs_dp c)
theorem nmd_len (ns : List Str) (p : List Nat) : (nmd ns p).length = p.length := List.length_map _
/-! subsets as the program makes them -/
def fst_ (r : List Nat) : Nat := match r.getLast? with
  | none => 0
  | some x => x + 1
def szd (c : Nat) : Nat → List (List Nat)
  | 0 => [[]]
  | s + 1 => (szd c s).flatMap fun r => (List.range (c - fst_ r)).map fun j => r ++ [fst_ r + j]
def subs (c : Nat) : List (List Nat) := (List.range (c + 1)).flatMap (szd c)
theorem subs_pss : ∀ n : Nat, n ≤ 3 → 1 ≤ n → (subs n).filter (fun p => decide (0 < p.length)) = pssN n := by decide
theorem szd_small : ∀ c : Nat, c ≤ 3 → ∀ s : Nat, s ≤ 3 → (szd c s).length ≤ 3 ∧ ∀ r ∈ szd c s, r.length = s ∧ ∀ i ∈ r, i < c := by decide
theorem subs_small : ∀ c : Nat, c ≤ 3 → (subs c).length ≤ 8 ∧ ∀ r ∈ subs c, r.length ≤ 3 ∧ ∀ i ∈ r, i < c := by decide
theorem cutV_to (xs : List V) (k : Nat) (h : k ≤ xs.length) : cutV xs none (some (k : Int)) = xs.take k := by
  unfold cutV
  rw [HT.sIx_none, HT.sIx_nat, Nat.min_eq_left h, List.drop_zero, Nat.sub_zero]
/-- whether a set has one of the needed names -/
def tch (c nd : List Str) : Bool := c.any fun x => decide (x ∈ nd)
theorem tch_len (c nd : List Str) : decide (0 < (c.filter fun x => decide (x ∈ nd)).length) = tch c nd := by
  rw [Bool.eq_iff_iff, decide_eq_true_eq]
  unfold tch
  rw [List.any_eq_true]
  constructor
  · intro h
    obtain ⟨x, hx⟩ := List.exists_mem_of_length_pos h
    exact ⟨x, (List.mem_filter.mp hx).1, (List.mem_filter.mp hx).2⟩
  · rintro ⟨x, h1, h2⟩
    exact List.length_pos_of_mem (List.mem_filter.mpr ⟨h1, h2⟩)

section
variable {P : Program} {w : World} {K : PySem.W.Frag} {mg : Str → Option Value} {base : Heap}
end
end K39
set_option Elab.async false
set_option linter.all false
set_option maxRecDepth 100000
set_option maxHeartbeats 4000000
namespace K39
open PySem PySem.Spec PyProof.Rows L2 XL
section
variable {P : Program} {w : World} {K : PySem.W.Frag} {mg : Str → Option Value} {base : Heap}
/-! ### names and their sets, as the program makes them -/
def spName : Sp := fun vs H Q _ => ∃ (G : Hp) (M : List (Addr × HO)) (x : Str), vs = [.str x] ∧ Sep G M H ∧ Lt 1 8 x ∧ ∀ G' H', Same G G' → Sep G' M H' → Q (.bl true) H'
theorem ok_is_name (T : Top K mg w) {k : Nat} : FnOk P w K mg base CX0 (k + 1) T.a_is_name T.d_is_name ["thing"] spName := by
  refine T.F_is_name.ok sc_is_name (fun vs H Q E h => ?_) (fun cdv A outer s H vs Q E hr h => ?_)
  · obtain ⟨G, M, x, rfl, _⟩ := h
    rfl
  · obtain ⟨G, M, x, rfl, S, hx, q⟩ := h
    refine ⟨_, (pss_cons (xs_if (PW.pt (xw_or (pt_not (xt_truK K (pe_callB (call_isK K) (by rfl) T.m_isinstance (by decide +kernel) (pa_cons (xv 0) (pa_cons (pe_bltn (v := .ty "str") (by rfl) T.m_str (by decide +kernel) rfl) pa_nil))))) (xw_or (xt_cmp op_ltY (pe_callB (cr_lenK K) (by rfl) T.m_len (by decide +kernel) (pa_cons (xv 0) pa_nil)) pe_int (nomark _)) (pw_or1 (xt_cmp op_gtY (pe_callB (cr_lenK K) (by rfl) T.m_len (by decide +kernel) (pa_cons (xv 0) pa_nil)) pe_int (nomark _))))))
      (pss_one (ps_ret pe_bl))
      pss_nil)
      (pss_one (ps_ret (pe_callB (cr_allK K rfl) (by rfl) T.m_all (by decide +kernel) (pa_cons (pe_lc (own := [("sign", 1)]) (by rfl) sc_is_name.nd (pi_str (xv 0)) (blkOk_by (N := ["thing", "sign"]) (sc := defScope s_is_name) (by decide +kernel)) (fun _ _ _ _ _ => (pg_name (i := 1) sc_is_name.nd rfl (.inl rfl))) (fun _ _ _ _ _ => pts_nil) (fun _ _ _ _ _ => (pe_cmpR op_in_sign (xv 1) (xe_glob (by rfl) T.v_LETTERS) (by rfl)))) pa_nil))))), ?_⟩
    have hl1 := hx.lo
    have hl2 := hx.hi
    have hz : x.length ≤ sizeLine := small (by omega)
    refine ⟨_, _, _, _, true, rfl, .ty _, .base (.str _), kit_ty (by decide +kernel), ff, fun _ => ⟨hz, fun e => ?_, fun _ => ⟨hz, fun e => ?_, fun _ => ?_⟩⟩⟩
    · have z := of_decide_eq_true e
      omega
    · have z : (8 : Int) < x.length := of_decide_eq_true e
      omega
    · refine ⟨x, rfl, fun L nL => lc_it (walk_str (z := x)) (fun i H' => Sep G ((L, .lst (List.replicate i (V.bl true))) :: M) H') (S.new nL) (fun _ _ _ _ => trivial) (fun i v H1 H' hi p y => ?_) (fun H' S1 => ?_)⟩
      · obtain ⟨rfl, c, hc, rfl⟩ := y
        refine ⟨rfl, c, _, rfl, rfl, _, p.hd, ?_, ?_⟩
        · rw [List.length_replicate]
          exact smallL (by have z : x.cps.size = x.length := rfl; omega)
        · have hm : decide (c ∈ ("abcdefghijklmnopqrstuvwxyz" : Str).cps.toList) = true := decide_eq_true (hx.ch c (by
            rw [Array.mem_toList_iff]
            exact Array.mem_of_getElem? hc))
          rw [hm, List.replicate_succ']
          exact p.set
      · refine ⟨L, List.replicate x.cps.size true, rfl, ?_, ?_⟩
        · rw [List.map_replicate]
          exact SqL.of S1.hd
        · have e : (List.replicate x.cps.size true).all id = true := by simp
          rw [e]
          exact q _ _ S1.frzS S1.frz
/-- a tuple of places -/
def PlAt (K : PySem.W.Frag) (G : Hp) (v : V) (r : List Nat) : Prop := ∃ a, v = .ref a ∧ SqT K G a (r.map fun i => V.int (i : Nat))
theorem PlAt.same {G G' : Hp} {v : V} {r : List Nat} (e : Same G G') (h : PlAt K G v r) : PlAt K G' v r := let ⟨a, h1, h2⟩ := h; ⟨a, h1, same_t e h2⟩
theorem pls_same {G G' : Hp} {us : List V} {rs : List (List Nat)} (e : Same G G') (h : Paired (PlAt K G) us rs) : Paired (PlAt K G') us rs := prd_imp (fun _ _ => PlAt.same e) h
def szdTo (c s i : Nat) : List (List Nat) := ((szd c s).take i).flatMap fun r => (List.range (c - fst_ r)).map fun j => r ++ [fst_ r + j]
theorem szdTo_len {c s i : Nat} (hc : c ≤ 3) (hs : s ≤ 3) : (szdTo c s i).length ≤ 9 := by
  have h1 := (szd_small c hc s hs).1
  have : ∀ l : List (List Nat), (l.flatMap fun r => (List.range (c - fst_ r)).map fun j => r ++ [fst_ r + j]).length ≤ 3 * l.length := fun l => by
    induction l with
    | nil => simp
    | cons r t ih =>
      rw [List.flatMap_cons, List.length_append, List.length_map, List.length_range, List.length_cons]
      omega
  have h2 := this ((szd c s).take i)
  rw [List.length_take] at h2
  unfold szdTo
  omega
def spSized (K : PySem.W.Frag) : Sp := fun vs H Q _ => ∃ (G : Hp) (M : List (Addr × HO)) (c s : Nat), vs = [.int (c : Nat), .int (s : Nat)] ∧ Sep G M H ∧ c ≤ 3 ∧ s ≤ 3 ∧
  ∀ (l : Addr) (us : List V) (G' H' : Hp), Same G G' → G' l = some (.lst us) → Paired (PlAt K G') us (szd c s) → Sep G' M H' → Q (.ref l) H'
theorem ok_sized (T : Top K mg w) {k : Nat} : FnOk P w K mg base CX0 (k + 1) T.a_sized_subsets T.d_sized_subsets ["count", "size"] (spSized K) := by
  refine T.F_sized_subsets.ok sc_sized_subsets (fun vs H Q E h => ?_) (fun cdv A outer s H vs Q E hr h => ?_)
  · obtain ⟨G, M, c, s, rfl, _⟩ := h
    rfl
  · obtain ⟨G, M, c, s, rfl, S, hc, hs, q⟩ := h
    refine ⟨_, (pss_cons (ps_set (i := 2) sc_sized_subsets.nd rfl (.inl rfl) (pe_lst (pa_cons (pe_tup pa_nil) pa_nil)))
      (pss_cons (ps_for PassesOwn.never rfl (pi_range1 (by rfl) T.m_range (pa_cons (xv 1) pa_nil)) (pg_name (i := 3) sc_sized_subsets.nd rfl (.inl rfl))
      (pss_cons (ps_set (i := 4) sc_sized_subsets.nd rfl (.inl rfl) (pe_lst pa_nil))
      (pss_cons (ps_for PassesOwn.never rfl (pi_listK K (xv 2)) (pg_name (i := 5) sc_sized_subsets.nd rfl (.inl rfl))
      (xss_cut (ps_set (i := 6) sc_sized_subsets.nd rfl (.inl rfl) (xe_if (xt_truK K (xv 5)) (pe_op op_addY (pe_ix (ix_k K) (xv 5) (pe_op op_subY (pe_callB (cr_lenK K) (by rfl) T.m_len (by decide +kernel) (pa_cons (xv 5) pa_nil)) pe_int) (fun _ _ => rfl)) pe_int) pe_int))
      (pss_one (ps_for PassesOwn.never rfl (pi_range2 (by rfl) T.m_range (pa_cons (xv 6) (pa_cons (xv 0) pa_nil))) (pg_name (i := 7) sc_sized_subsets.nd rfl (.inl rfl))
      (pss_one (ps_expr (pe_bmK K PySem.F.plainAttrs_list PySem.F.slot_list_append PySem.F.type_list_append mt_append (xv 4) (pa_cons (pe_op (op_catAK K) (xv 5) (pe_tup (pa_cons (xv 7) pa_nil))) pa_nil))))))))
      (pss_one (ps_set (i := 2) sc_sized_subsets.nd rfl (.inl rfl) (pe_callTy (call_listK K) (by rfl) T.m_list (by decide +kernel) (pa_cons (xv 4) pa_nil)))))))
      (pss_one (ps_ret (xv 2))))), ?_⟩
    refine ⟨sz, fun e0 ne0 => ⟨sz, fun R nR => ?_⟩⟩
    obtain ⟨G1, s1, S1, he0⟩ := Sep.mk (o := .tup []) S ne0
    obtain ⟨G2, s2, S2, hR⟩ := Sep.mk (o := .lst [.ref e0]) S1 nR
    refine ⟨(s : Nat), rfl, by omega, by omega, for_range (lo := 0) (n := ((s : Nat) : Int).toNat) (fun i σ H' => ∃ (R : Addr) (us : List V) (y3 y4 y5 y6 y7 : Option V) (G' : Hp), σ = [some (.int (c : Nat)), some (.int (s : Nat)), some (.ref R), y3, y4, y5, y6, y7] ∧ Same G G' ∧ G' R = some (.lst us) ∧ Paired (PlAt K G') us (szd c i) ∧ Sep G' M H')
      ⟨R, [.ref e0], _, _, _, _, _, G2, rfl, s1.trans s2, hR, .cons ⟨e0, rfl, SqT.of (s2 _ _ he0)⟩ .nil, S2⟩ (fun i σ H' hi h => ?_) (fun σ H' h => ?_)⟩
    · obtain ⟨R, us, y3, y4, y5, y6, y7, G3, rfl, s3, hR, hus, S3⟩ := h
      have i3 : i < s := by omega
      have sm := szd_small c hc i (by omega)
      have ul := prd_len hus
      refine ⟨sz, fun L nL => ?_⟩
      have S4 := S3.new (o := .lst []) nL
      refine ⟨R, rfl, ⟨_, SqL.of (S4.st hR)⟩, for_list (xs := us) (fun j σ H' => ∃ (ws : List V) (y5 y6 y7 : Option V) (G' : Hp), σ = [some (.int (c : Nat)), some (.int (s : Nat)), some (.ref R), some (.int (0 + (i : Nat))), some (.ref L), y5, y6, y7] ∧ Same G3 G' ∧ Paired (PlAt K G') ws (szdTo c i j) ∧ Sep G' ((L, .lst ws) :: M) H')
        ⟨[], _, _, _, G3, rfl, Same.refl _, .nil, S4⟩ (fun j σ H' _ h => ?_) (fun j y σ H' hy h => ?_) (fun σ H' h => ?_)⟩
      · obtain ⟨_, _, _, _, _, _, s', _, S'⟩ := h
        exact SqL.of (S'.st (s' _ _ hR))
      · obtain ⟨ws, y5, y6, y7, G4, rfl, s4, hws, S5⟩ := h
        obtain ⟨r, hr', ay, rfl, hay⟩ := prd_get (pls_same s4 hus) hy
        have rsm := sm.2 r (List.mem_of_getElem? hr')
        have rl : (r.map fun i => V.int ((i : Nat) : Int)).length = i := by rw [List.length_map]; exact rsm.1
        have wlen := prd_len hws
        have wl9 := szdTo_len (i := j) hc (show i ≤ 3 by omega)
        have ef : szdTo c i (j + 1) = szdTo c i j ++ (List.range (c - fst_ r)).map fun k => r ++ [fst_ r + k] := by
          unfold szdTo
          rw [take_snoc hr', List.flatMap_append]
          simp
        refine ⟨fun σ H5 => σ = [some (.int (c : Nat)), some (.int (s : Nat)), some (.ref R), some (.int (0 + (i : Nat))), some (.ref L), some (.ref ay), some (.int (fst_ r : Nat)), y7] ∧ Sep G4 ((L, .lst ws) :: M) H5, ?_, fun σ H5 hj => ?_⟩
        · refine ⟨_, .inr (.inl ⟨_, S5.t hay, rfl⟩), fun e => ?_, fun e => ?_⟩
          · rcases nil_or_snoc r with rfl | ⟨r', x, rfl⟩
            · exact absurd e (by simp)
            have fe : fst_ (r' ++ [x]) = x + 1 := by simp [fst_]
            have at1 : atI ((r' ++ [x]).map fun i => V.int ((i : Nat) : Int)) (((((r' ++ [x]).map fun i => V.int ((i : Nat) : Int)).length : Nat) : Int) - 1) = some (.int (x : Nat)) := by
              have el : (((((r' ++ [x]).map fun i => V.int ((i : Nat) : Int)).length : Nat) : Int) - 1) = ((r'.length : Nat) : Int) := by
                rw [List.length_map, List.length_append]
                simp only [List.length_cons, List.length_nil]
                omega
              rw [el]
              refine atI_nat ?_
              rw [List.getElem?_map, List.getElem?_append_right (Nat.le_refl _), Nat.sub_self]
              rfl
            refine ⟨_, .inr (S5.t hay), _, _, .inr (S5.t hay), at1, ?_⟩
            refine ⟨?_, S5⟩
            rw [fe, show ((x : Nat) : Int) + 1 = ((x + 1 : Nat) : Int) by omega]
            rfl
          · cases r with
            | cons x t => exact absurd e (by simp)
            | nil => exact ⟨rfl, S5⟩
        obtain ⟨rfl, S6⟩ := hj
        have fb : fst_ r ≤ 4 := by
          rcases nil_or_snoc r with rfl | ⟨r', x, rfl⟩
          · exact Nat.zero_le _
          · have := rsm.2 x (by simp)
            simp [fst_]
            omega
        refine ⟨_, _, rfl, ⟨by omega, by omega, by omega, by omega⟩, for_range (lo := (fst_ r : Nat)) (n := ((c : Int) - (fst_ r : Nat)).toNat) (fun k σ H' => ∃ (vs : List V) (y7 : Option V) (G' : Hp), σ = [some (.int (c : Nat)), some (.int (s : Nat)), some (.ref R), some (.int (0 + (i : Nat))), some (.ref L), some (.ref ay), some (.int (fst_ r : Nat)), y7] ∧ Same G4 G' ∧ Paired (PlAt K G') vs (szdTo c i j ++ (List.range k).map fun k => r ++ [fst_ r + k]) ∧ Sep G' ((L, .lst vs) :: M) H')
          ⟨ws, _, G4, rfl, Same.refl _, by simpa using hws, S6⟩ (fun k σ H' hk h => ?_) (fun σ H' h => ?_)⟩
        · obtain ⟨vs, y7', G5, rfl, s5, hvs, S7⟩ := h
          have vl := prd_len hvs
          rw [List.length_append, List.length_map, List.length_range] at vl
          refine ⟨.inl ⟨rfl, _, SqL.of S7.hd⟩, sz, fun p1 np1 => ?_⟩
          obtain ⟨G6, s6, S8, hp1⟩ := Sep.mk (o := .tup [.int ((fst_ r : Nat) + (k : Nat))]) S7 np1
          refine cat_ok S8 (same_t (s5.trans s6) hay) (SqT.of hp1) (small (by rw [List.length_map, rsm.1]; simp only [List.length_cons, List.length_nil]; omega)) fun c9 G7 H7 s7 hc9 S9 => ?_
          refine ⟨L, _, .ref c9, rfl, rfl, S9.hd, smallL (by omega), vs ++ [.ref c9], _, G7, rfl, s5.trans (s6.trans s7), ?_, S9.set⟩
          rw [List.range_succ, List.map_append, ← List.append_assoc]
          refine prd_app (pls_same (s6.trans s7) hvs) (.cons ⟨c9, rfl, ?_⟩ .nil)
          rw [List.map_append]
          exact hc9
        · obtain ⟨vs, y7', G5, rfl, s5, hvs, S7⟩ := h
          refine ⟨vs, _, _, _, G5, rfl, s4.trans s5, ?_, S7⟩
          rw [ef, show c - fst_ r = ((c : Int) - (fst_ r : Nat)).toNat by omega]
          exact hvs
      · obtain ⟨ws, y5, y6, y7, G4, rfl, s4, hws, S5⟩ := h
        rw [show szdTo c i us.length = szd c (i + 1) by unfold szdTo; rw [ul, List.take_length]; rfl] at hws
        refine ⟨L, ws, rfl, .inl (SqL.of S5.hd), fun R2 nR2 => ?_⟩
        obtain ⟨G6, s6, S6, hR2⟩ := Sep.mk (o := .lst ws) S5 nR2
        exact ⟨R2, ws, _, _, _, _, _, G6, rfl, s3.trans (s4.trans s6), hR2, pls_same s6 hws, S6.drop⟩
    · obtain ⟨R, us, y3, y4, y5, y6, y7, G3, rfl, s3, hR, hus, S3⟩ := h
      exact q R us G3 H' s3 hR (by simpa using hus) S3
def subsTo (c i : Nat) : List (List Nat) := (List.range i).flatMap (szd c)
theorem subsTo_len {c i : Nat} (hc : c ≤ 3) (hi : i ≤ c + 1) : (subsTo c i).length ≤ 20 := by
  have : ∀ j, j ≤ c + 1 → (subsTo c j).length ≤ 3 * j := fun j => by
    induction j with
    | zero => intro _; simp [subsTo]
    | succ j ih =>
      intro hj
      have h1 := ih (by omega)
      have h2 := (szd_small c hc j (by omega)).1
      have e : subsTo c (j + 1) = subsTo c j ++ szd c j := by simp [subsTo, List.range_succ]
      rw [e, List.length_append]
      omega
  have := this i hi
  omega
def spSubs (K : PySem.W.Frag) : Sp := fun vs H Q _ => ∃ (G : Hp) (M : List (Addr × HO)) (c : Nat), vs = [.int (c : Nat)] ∧ Sep G M H ∧ c ≤ 3 ∧
  ∀ (l : Addr) (us : List V) (G' H' : Hp), Same G G' → G' l = some (.lst us) → Paired (PlAt K G') us (subs c) → Sep G' M H' → Q (.ref l) H'
theorem ok_subsets (T : Top K mg w) {k : Nat} (G_sized_subsets : FnOk P w K mg base CX0 k T.a_sized_subsets T.d_sized_subsets ["count", "size"] (spSized K)) : FnOk P w K mg base CX0 (k + 1) T.a_subsets T.d_subsets ["count"] (spSubs K) := by
  refine T.F_subsets.ok sc_subsets (fun vs H Q E h => ?_) (fun cdv A outer s H vs Q E hr h => ?_)
  · obtain ⟨G, M, c, rfl, _⟩ := h
    rfl
  · obtain ⟨G, M, c, rfl, S, hc, q⟩ := h
    refine ⟨_, (pss_cons (ps_set (i := 1) sc_subsets.nd rfl (.inl rfl) (pe_lst pa_nil))
      (pss_cons (ps_for PassesOwn.never rfl (pi_range1 (by rfl) T.m_range (pa_cons (pe_op op_addY (xv 0) pe_int) pa_nil)) (pg_name (i := 2) sc_subsets.nd rfl (.inl rfl))
      (pss_one (ps_expr (pe_bmK K PySem.F.plainAttrs_list PySem.F.slot_list_extend PySem.F.type_list_extend mt_extend (xv 1) (pa_cons (pe_call G_sized_subsets (hr.mono (by omega)) (by rfl) T.g_sized_subsets T.F_sized_subsets.kp T.b_sized_subsets .nil pass0 (pa_cons (xv 0) (pa_cons (xv 2) pa_nil))) pa_nil)))))
      (pss_one (ps_ret (xv 1))))), ?_⟩
    refine ⟨sz, fun O nO => ?_⟩
    have S1 := S.new (o := .lst []) nO
    refine ⟨(c : Nat) + 1, rfl, by omega, by omega, for_range (lo := 0) (n := ((c : Nat) + 1 : Int).toNat) (fun i σ H' => ∃ (us : List V) (y2 : Option V) (G' : Hp), σ = [some (.int (c : Nat)), some (.ref O), y2] ∧ Same G G' ∧ Paired (PlAt K G') us (subsTo c i) ∧ Sep G' ((O, .lst us) :: M) H') ⟨[], _, G, rfl, Same.refl _, .nil, S1⟩ (fun i σ H' hi h => ?_) (fun σ H' h => ?_)⟩
    · obtain ⟨us, y2, G2, rfl, s2, hus, S2⟩ := h
      have ul := prd_len hus
      have u20 := subsTo_len hc (show i ≤ c + 1 by omega)
      refine ⟨.inl ⟨rfl, _, SqL.of S2.hd⟩, G2, _, c, i, by simp, S2, hc, by omega, fun l ws G3 H3 s3 hl hws S3 => ?_⟩
      have wl := prd_len hws
      have w3 := (szd_small c hc i (by omega)).1
      refine ⟨O, l, _, _, rfl, rfl, S3.hd, S3.st hl, small (by omega), us ++ ws, _, G3, rfl, s2.trans s3, ?_, S3.set⟩
      rw [show subsTo c (i + 1) = subsTo c i ++ szd c i by simp [subsTo, List.range_succ]]
      exact prd_app (pls_same s3 hus) hws
    · obtain ⟨us, y2, G2, rfl, s2, hus, S2⟩ := h
      obtain ⟨G3, s3, S3, hO⟩ := Sep.keep S2
      refine q O us G3 H' (s2.trans s3) hO (pls_same s3 ?_) S3
      rw [show ((c : Nat) + 1 : Int).toNat = c + 1 by omega] at hus
      exact hus
/-- sets as data -/
def spAll (K : PySem.W.Frag) : Sp := fun vs H Q _ => ∃ (G : Hp) (M : List (Addr × HO)) (a : Addr) (ns : List Str), vs = [.ref a] ∧ Sep G M H ∧ SqT K G a (ns.map V.str) ∧ NsOk ns ∧
  ∀ (l : Addr) (us : List V) (G' H' : Hp), Same G G' → G' l = some (.lst us) → DpAll K G' us ((sets ns).map sD) → Sep G' M H' → Q (.ref l) H'
theorem ok_all_sets (T : Top K mg w) {k : Nat} (G_subsets : FnOk P w K mg base CX0 k T.a_subsets T.d_subsets ["count"] (spSubs K)) : FnOk P w K mg base CX0 (k + 1) T.a_all_sets T.d_all_sets ["names"] (spAll K) := by
  refine T.F_all_sets.ok sc_all_sets (fun vs H Q E h => ?_) (fun cdv A outer s H vs Q E hr h => ?_)
  · obtain ⟨G, M, a, ns, rfl, _⟩ := h
    rfl
  · obtain ⟨G, M, a, ns, rfl, S, ha, ok, q⟩ := h
    refine ⟨_, (pss_one (ps_ret (pe_lc (own := [("places", 1)]) (by rfl) sc_all_sets.nd (pi_listK K (pe_call G_subsets (hr.mono (by omega)) (by rfl) T.g_subsets T.F_subsets.kp T.b_subsets .nil pass0 (pa_cons (pe_callB (cr_lenK K) (by rfl) T.m_len (by decide +kernel) (pa_cons (xv 0) pa_nil)) pa_nil))) (blkOk_by (N := ["names", "places", "at"]) (sc := defScope s_all_sets) (by decide +kernel)) (fun _ _ _ _ _ => (pg_name (i := 1) sc_all_sets.nd rfl (.inl rfl))) (fun _ _ _ _ _ => (pts_one (xt_cmp op_gtY (pe_callB (cr_lenK K) (by rfl) T.m_len (by decide +kernel) (pa_cons (xv 1) pa_nil)) pe_int (nomark _)))) (fun _ _ _ _ _ => (pe_callTy (call_tupleK K) (by rfl) T.m_tuple (by decide +kernel) (pa_cons (pe_lc (own := [("at", 2)]) (by rfl) sc_all_sets.nd (pi_tupK K (xv 1)) (blkOk_by (N := ["names", "places", "at"]) (sc := _) (by with_unfolding_all rfl)) (fun _ _ _ _ _ => (pg_name (i := 2) sc_all_sets.nd rfl (.inl rfl))) (fun _ _ _ _ _ => pts_nil) (fun _ _ _ _ _ => (pe_ix (ix_k K) (xv 0) (xv 2) (fun _ _ => rfl)))) pa_nil)))))), ?_⟩
    have nl : (ns.map V.str).length = ns.length := List.length_map _
    have n3 := ok.hi
    have n1 := ok.lo
    refine ⟨_, .inr (S.t ha), G, M, ns.length, by rw [nl]; rfl, S, n3, fun l us G1 H1 s1 hl hus S1 => ?_⟩
    have sub8 := subs_small ns.length n3
    have ul := prd_len hus
    refine ⟨l, rfl, ⟨_, SqL.of (S1.st hl)⟩, fun D nD => lc_list (xs := us) (fun i H' => ∃ (ws : List V) (G' : Hp), Same G1 G' ∧ DpAll K G' ws (((((subs ns.length).take i).filter fun p => decide (0 < p.length)).map (nmd ns)).map sD) ∧ Sep G' ((D, .lst ws) :: M) H') ⟨[], G1, Same.refl _, .nil, S1.new nD⟩ (fun i H' _ pv => ?_) (fun i y H' hy pv => ?_) (fun H' pv => ?_)⟩
    · obtain ⟨_, _, s', _, S'⟩ := pv
      exact SqL.of (S'.st (s' _ _ hl))
    · obtain ⟨ws, G2, s2, hws, S2⟩ := pv
      obtain ⟨r, hr', ay, rfl, hay⟩ := prd_get (pls_same s2 hus) hy
      have rsm := sub8.2 r (List.mem_of_getElem? hr')
      have il := (List.getElem?_eq_some_iff.mp hy).1
      have rl : (r.map fun i => V.int ((i : Nat) : Int)).length = r.length := List.length_map _
      have wl := dpa_len hws
      have wl2 : ws.length ≤ 8 := by
        rw [wl, List.length_map, List.length_map]
        refine Nat.le_trans (List.length_filter_le _ _) ?_
        rw [List.length_take]
        omega
      refine ⟨rfl, _, .inr (S2.t hay), tst (fun e => ?_) (fun e => ?_)⟩
      · have e0 : 0 < r.length := by
          have := of_decide_eq_true e
          omega
        refine ⟨ay, rfl, ⟨_, S2.t hay⟩, fun L nL => lc_tup (xs := r.map fun i => V.int ((i : Nat) : Int)) (fun j H' => Sep G2 ((L, .lst ((nmd ns (r.take j)).map V.str)) :: (D, .lst ws) :: M) H') (S2.new nL) (fun j H' _ p => p.t hay) (fun j z H' hz p => ⟨rfl, ?_⟩) (fun H' p => ?_)⟩
        · rw [List.getElem?_map] at hz
          obtain ⟨i0, hi0, rfl⟩ := Option.map_eq_some_iff.mp hz
          have ib := rsm.2 i0 (List.mem_of_getElem? hi0)
          have jl := (List.getElem?_eq_some_iff.mp hi0).1
          have e1 : ns[i0]? = some (ns.getD i0 "") := by rw [List.getD_eq_getElem?_getD, List.getElem?_eq_getElem ib]; rfl
          refine ⟨_, .str (ns.getD i0 ""), .inr (p.t (same_t (s1.trans s2) ha)), atI_nat (by rw [List.getElem?_map, e1]; rfl), _, p.hd, by rw [List.length_map, nmd_len, List.length_take]; exact smallL (by omega), ?_⟩
          rw [take_snoc hi0, nmd, List.map_append, List.map_append]
          exact p.set
        · rw [rl, List.take_length] at p
          refine ⟨L, _, rfl, .inl ⟨SqL.of p.hd, fun t nt => ?_⟩⟩
          obtain ⟨G3, s3, S3, ht⟩ := Sep.mk (o := .tup ((nmd ns r).map V.str)) p.drop nt
          refine ⟨ws, S3.hd, smallL (by omega), ws ++ [.ref t], G3, s2.trans s3, ?_, S3.set⟩
          rw [take_snoc hr', List.filter_append, show ([r].filter fun p => decide (0 < p.length)) = [r] by simp [e0], List.map_append, List.map_append]
          exact dpa_app (dpa_same s3 hws) (dpa_one (sD_of (SqT.of ht)))
      · refine ⟨ws, G2, s2, ?_, S2⟩
        have e0 : ¬ 0 < r.length := by
          have := of_decide_eq_false e
          omega
        rw [take_snoc hr', List.filter_append, show ([r].filter fun p => decide (0 < p.length)) = [] by simp [e0], List.append_nil]
        exact hws
    · obtain ⟨ws, G2, s2, hws, S2⟩ := pv
      obtain ⟨G3, s3, S3, hD⟩ := Sep.keep S2
      refine q D ws G3 H' (s1.trans (s2.trans s3)) hD ?_ S3
      rw [ul, List.take_length, subs_pss ns.length n3 n1] at hws
      exact dpa_same s3 hws

end
end K39
set_option Elab.async false
set_option linter.all false
set_option maxRecDepth 100000
set_option maxHeartbeats 4000000
namespace K39
open PySem PySem.Spec PyProof.Rows L2 XL
section
variable {P : Program} {w : World} {K : PySem.W.Frag} {mg : Str → Option Value} {base : Heap}
/-! ### good names, sets in order -/
def spGood (K : PySem.W.Frag) : Sp := fun vs H Q _ => ∃ (G : Hp) (M : List (Addr × HO)) (a : Addr) (ns : List Str), vs = [.ref a] ∧ Sep G M H ∧ SqT K G a (ns.map V.str) ∧ NsOk ns ∧ ∀ (G' H' : Hp), Same G G' → Sep G' M H' → Q (.bl true) H'
theorem ok_good_names (T : Top K mg w) {k : Nat} (G_is_name : FnOk P w K mg base CX0 k T.a_is_name T.d_is_name ["thing"] spName) : FnOk P w K mg base CX0 (k + 1) T.a_good_names T.d_good_names ["names"] (spGood K) := by
  refine T.F_good_names.ok sc_good_names (fun vs H Q E h => ?_) (fun cdv A outer s H vs Q E hr h => ?_)
  · obtain ⟨G, M, a, ns, rfl, _⟩ := h
    rfl
  · obtain ⟨G, M, a, ns, rfl, S, ha, ok, q⟩ := h
    refine ⟨_, (pss_cons (xs_if (PW.pt (xw_or (pt_not (xt_truK K (pe_callB (call_isK K) (by rfl) T.m_isinstance (by decide +kernel) (pa_cons (xv 0) (pa_cons (pe_bltn (v := .ty "tuple") (by rfl) T.m_tuple (by decide +kernel) rfl) pa_nil))))) (xw_or (xt_cmp op_ltY (pe_callB (cr_lenK K) (by rfl) T.m_len (by decide +kernel) (pa_cons (xv 0) pa_nil)) pe_int (nomark _)) (pw_or1 (xt_cmp op_gtY (pe_callB (cr_lenK K) (by rfl) T.m_len (by decide +kernel) (pa_cons (xv 0) pa_nil)) (xe_globI (by rfl) T.v_MOST_NAMES) (nomark _))))))
      (pss_one (ps_ret pe_bl))
      pss_nil)
      (pss_one (ps_ret (pe_callB (cr_allK K rfl) (by rfl) T.m_all (by decide +kernel) (pa_cons (pe_lc (own := [("at", 1)]) (by rfl) sc_good_names.nd (pi_range1 (by rfl) T.m_range (pa_cons (pe_callB (cr_lenK K) (by rfl) T.m_len (by decide +kernel) (pa_cons (xv 0) pa_nil)) pa_nil)) (blkOk_by (N := ["names", "at"]) (sc := defScope s_good_names) (by decide +kernel)) (fun _ _ _ _ _ => (pg_name (i := 1) sc_good_names.nd rfl (.inl rfl))) (fun _ _ _ _ _ => pts_nil) (fun _ _ _ _ _ => (xe_and (pe_call G_is_name (hr.mono (by omega)) (by rfl) T.g_is_name T.F_is_name.kp T.b_is_name .nil pass0 (pa_cons (pe_ix (ix_k K) (xv 0) (xv 1) (fun _ _ => rfl)) pa_nil)) (pe_one (pe_cmpR (notin_seqK K) (pe_ix (ix_k K) (xv 0) (xv 1) (fun _ _ => rfl)) (pe_slice (sl_tupAK K) (xv 0) po_none (po_some (xv 1))) (by rfl)))))) pa_nil))))), ?_⟩
    have nl : (ns.map V.str).length = ns.length := List.length_map _
    have n3 := ok.hi
    have n1 := ok.lo
    refine ⟨_, _, _, _, true, rfl, .ty _, sqT_ty (S.t ha), kit_ty (by decide +kernel), ff, fun _ => ⟨_, .inr (S.t ha), fun e => ?_, fun _ => ⟨_, .inr (S.t ha), fun e => ?_, fun _ => ?_⟩⟩⟩
    · have := of_decide_eq_true e
      omega
    · have z : (3 : Int) < ((ns.map V.str).length : Nat) := of_decide_eq_true e
      omega
    · refine ⟨_, .inr (S.t ha), _, rfl, by omega, by omega, fun L nL => lc_range (lo := 0) (n := (((ns.map V.str).length : Nat) : Int).toNat) (fun i H' => ∃ (G' : Hp), Same G G' ∧ Sep G' ((L, .lst (List.replicate i (V.bl true))) :: M) H') ⟨G, Same.refl _, S.new nL⟩ (fun i H' hi p => ?_) (fun H' p => ?_)⟩
      · obtain ⟨G1, s1, S1⟩ := p
        have il : i < ns.length := by omega
        have hx : ns[i]? = some ns[i] := List.getElem?_eq_getElem il
        have hat : atI (ns.map V.str) (0 + (i : Nat)) = some (.str ns[i]) := by
          rw [Int.zero_add]
          exact atI_nat (by rw [List.getElem?_map, hx]; rfl)
        refine ⟨rfl, _, _, .inr (S1.t (same_t s1 ha)), hat, G1, _, ns[i], rfl, S1, ok.lt _ (List.getElem_mem il), fun G2 H2 s2 S2 => ⟨fun _ => ?_, tt⟩⟩
        have ha2 := same_t (s1.trans s2) ha
        refine ⟨_, _, .inr (S2.t ha2), hat, _, rfl, cutA_ok S2 ha2 fun c G3 H3 s3 hc S3 => ?_⟩
        rw [Int.zero_add, cutV_to _ _ (by omega), ← List.map_take] at hc
        refine ⟨c, _, rfl, .inr (S3.t hc), rfl, strs_flat _, ?_⟩
        have nin : decide (ns[i] ∈ ns.take i) = false := decide_eq_false fun h => by
          have nd := ok.nd
          rw [← List.take_append_drop i ns, List.nodup_append] at nd
          refine nd.2.2 _ h _ ?_ rfl
          rw [List.drop_eq_getElem_cons il]
          exact List.mem_cons_self
        rw [inV_str, nin]
        refine ⟨_, S3.hd, by rw [List.length_replicate]; exact smallL (by omega), G3, s1.trans (s2.trans s3), ?_⟩
        rw [List.replicate_succ']
        exact S3.set
      · obtain ⟨G1, s1, S1⟩ := p
        refine ⟨L, List.replicate (((ns.map V.str).length : Nat) : Int).toNat true, rfl, ?_, ?_⟩
        · rw [List.map_replicate]
          exact SqL.of S1.hd
        · rw [show (List.replicate (((ns.map V.str).length : Nat) : Int).toNat true).all id = true by simp]
          exact q _ _ (s1.trans S1.frzS) S1.frz
def spOrd (K : PySem.W.Frag) : Sp := fun vs H Q _ => ∃ (G : Hp) (M : List (Addr × HO)) (a b : Addr) (ns c : List Str), vs = [.ref a, .ref b] ∧ Sep G M H ∧ SqT K G a (ns.map V.str) ∧ SqT K G b (c.map V.str) ∧ NsOk ns ∧ c ∈ sets ns ∧
  ∀ (t : Addr) (G' H' : Hp), Same G G' → SqT K G' t (c.map V.str) → Sep G' M H' → Q (.ref t) H'
theorem ok_in_order (T : Top K mg w) {k : Nat} : FnOk P w K mg base CX0 (k + 1) T.a_in_order T.d_in_order ["names", "changed"] (spOrd K) := by
  refine T.F_in_order.ok sc_in_order (fun vs H Q E h => ?_) (fun cdv A outer s H vs Q E hr h => ?_)
  · obtain ⟨G, M, a, b, ns, c, rfl, _⟩ := h
    rfl
  · obtain ⟨G, M, a, b, ns, c, rfl, S, ha, hb, ok, hc, q⟩ := h
    refine ⟨_, (pss_cons (ps_set (i := 2) sc_in_order.nd rfl (.inl rfl) (pe_callTy (call_tupleK K) (by rfl) T.m_tuple (by decide +kernel) (pa_cons (pe_lc (own := [("one", 3)]) (by rfl) sc_in_order.nd (pi_tupK K (xv 0)) (blkOk_by (N := ["names", "changed", "ordered", "one"]) (sc := defScope s_in_order) (by decide +kernel)) (fun _ _ _ _ _ => (pg_name (i := 3) sc_in_order.nd rfl (.inl rfl))) (fun _ _ _ _ _ => (pts_one (xt_cmp (in_seqK K) (xv 3) (xv 1) (by rfl)))) (fun _ _ _ _ _ => (xv 3))) pa_nil)))
      (pss_cons (xs_if (PW.pt (xw_or (xt_cmp (op_eqLK K hr.u190) (pe_callB (cr_lenK K) (by rfl) T.m_len (by decide +kernel) (pa_cons (xv 2) pa_nil)) pe_int (nomark _)) (pw_or1 (xt_cmp (op_neLK K hr.u190) (pe_callB (cr_lenK K) (by rfl) T.m_len (by decide +kernel) (pa_cons (xv 2) pa_nil)) (pe_callB (cr_lenK K) (by rfl) T.m_len (by decide +kernel) (pa_cons (xv 1) pa_nil)) (nomark _)))))
      (pss_one (ps_ret pe_non))
      pss_nil)
      (pss_one (ps_ret (xv 2))))), ?_⟩
    have nl : (ns.map V.str).length = ns.length := List.length_map _
    have cl : (c.map V.str).length = c.length := List.length_map _
    have n3 := ok.hi
    obtain ⟨c1, c2⟩ := set_len ok hc
    refine ⟨a, rfl, ⟨_, S.t ha⟩, fun L nL => lc_tup (xs := ns.map V.str) (fun i H' => Sep G ((L, .lst (((ns.take i).filter fun x => decide (x ∈ c)).map V.str)) :: M) H') (S.new nL) (fun i H' _ p => p.t ha) (fun i y H' hy p => ⟨rfl, ?_⟩) (fun H' p => ?_)⟩
    · rw [List.getElem?_map] at hy
      obtain ⟨x, hx, rfl⟩ := Option.map_eq_some_iff.mp hy
      have il := (List.getElem?_eq_some_iff.mp hx).1
      have ll : (((ns.take i).filter fun x => decide (x ∈ c)).map V.str).length ≤ 3 := by
        rw [List.length_map]
        refine Nat.le_trans (List.length_filter_le _ _) ?_
        rw [List.length_take]
        omega
      refine ⟨b, _, rfl, .inr (p.t hb), rfl, strs_flat _, ?_⟩
      rw [inV_str]
      refine tst (fun e => ?_) (fun e => ?_)
      · have e : decide (x ∈ c) = true := e
        refine ⟨_, p.hd, smallL (by omega), ?_⟩
        rw [take_snoc hx, List.filter_append, List.map_append, show ([x].filter fun x => decide (x ∈ c)) = [x] by simp only [List.filter]; rw [e]]
        exact p.set
      · have e : decide (x ∈ c) = false := e
        rw [take_snoc hx, List.filter_append, show ([x].filter fun x => decide (x ∈ c)) = [] by simp only [List.filter]; rw [e], List.append_nil]
        exact p
    · rw [nl, List.take_length, (set_fil ok hc).1] at p
      refine ⟨L, _, rfl, .inl ⟨SqL.of p.hd, fun t nt => ?_⟩⟩
      obtain ⟨G1, s1, S1, ht⟩ := Sep.mk (o := .tup (c.map V.str)) p.drop nt
      have ht' := SqT.of (K := K) (S1.st ht)
      refine ⟨_, .inr ht', fun e => ?_, fun _ => ⟨_, .inr ht', _, .inr (S1.t (same_t s1 hb)), fun e => ?_, fun _ => ?_⟩⟩
      · have := of_decide_eq_true e
        omega
      · simp at e
      · exact q t G1 _ s1 (SqT.of ht) S1
def spTouch (K : PySem.W.Frag) : Sp := fun vs H Q _ => ∃ (G : Hp) (M : List (Addr × HO)) (a b : Addr) (c nd : List Str), vs = [.ref a, .ref b] ∧ Sep G M H ∧ SqT K G a (c.map V.str) ∧ SqT K G b (nd.map V.str) ∧ c.length ≤ 100 ∧
  ∀ (G' H' : Hp), Same G G' → Sep G' M H' → Q (.bl (tch c nd)) H'
theorem ok_touches (T : Top K mg w) {k : Nat} : FnOk P w K mg base CX0 (k + 1) T.a_touches T.d_touches ["changed", "needs"] (spTouch K) := by
  refine T.F_touches.ok sc_touches (fun vs H Q E h => ?_) (fun cdv A outer s H vs Q E hr h => ?_)
  · obtain ⟨G, M, a, b, c, nd, rfl, _⟩ := h
    rfl
  · obtain ⟨G, M, a, b, c, nd, rfl, S, ha, hb, c1, q⟩ := h
    refine ⟨_, (pss_one (ps_ret (pe_cmpR op_gtY (pe_callB (cr_lenK K) (by rfl) T.m_len (by decide +kernel) (pa_cons (pe_lc (own := [("one", 2)]) (by rfl) sc_touches.nd (pi_tupK K (xv 0)) (blkOk_by (N := ["changed", "needs", "one"]) (sc := defScope s_touches) (by decide +kernel)) (fun _ _ _ _ _ => (pg_name (i := 2) sc_touches.nd rfl (.inl rfl))) (fun _ _ _ _ _ => (pts_one (xt_cmp (in_seqK K) (xv 2) (xv 1) (by rfl)))) (fun _ _ _ _ _ => (xv 2))) pa_nil)) pe_int (nomark _)))), ?_⟩
    have cl : (c.map V.str).length = c.length := List.length_map _
    refine ⟨a, rfl, ⟨_, S.t ha⟩, fun L nL => lc_tup (xs := c.map V.str) (fun i H' => Sep G ((L, .lst (((c.take i).filter fun x => decide (x ∈ nd)).map V.str)) :: M) H') (S.new nL) (fun i H' _ p => p.t ha) (fun i y H' hy p => ⟨rfl, ?_⟩) (fun H' p => ?_)⟩
    · rw [List.getElem?_map] at hy
      obtain ⟨x, hx, rfl⟩ := Option.map_eq_some_iff.mp hy
      have il := (List.getElem?_eq_some_iff.mp hx).1
      have ll : (((c.take i).filter fun x => decide (x ∈ nd)).map V.str).length ≤ 100 := by
        rw [List.length_map]
        refine Nat.le_trans (List.length_filter_le _ _) ?_
        rw [List.length_take]
        omega
      refine ⟨b, _, rfl, .inr (p.t hb), rfl, strs_flat _, ?_⟩
      rw [inV_str]
      refine tst (fun e => ?_) (fun e => ?_)
      · have e : decide (x ∈ nd) = true := e
        refine ⟨_, p.hd, smallL (by omega), ?_⟩
        rw [take_snoc hx, List.filter_append, List.map_append, show ([x].filter fun x => decide (x ∈ nd)) = [x] by simp only [List.filter]; rw [e]]
        exact p.set
      · have e : decide (x ∈ nd) = false := e
        rw [take_snoc hx, List.filter_append, show ([x].filter fun x => decide (x ∈ nd)) = [] by simp only [List.filter]; rw [e], List.append_nil]
        exact p
    · rw [cl, List.take_length] at p
      refine ⟨_, .inl (SqL.of p.hd), ?_⟩
      have e : decide ((0 : Int) < ((((c.filter fun x => decide (x ∈ nd)).map V.str).length : Nat) : Int)) = tch c nd := by
        rw [← tch_len, List.length_map]
        by_cases h : 0 < (c.filter fun x => decide (x ∈ nd)).length
        · rw [decide_eq_true h, decide_eq_true (by omega)]
        · rw [decide_eq_false h, decide_eq_false (by omega)]
      show Q (.bl (decide ((0 : Int) < ((((c.filter fun x => decide (x ∈ nd)).map V.str).length : Nat) : Int)))) H'
      rw [e]
      exact q _ _ (Same.refl _) p.drop

end
end K39
set_option Elab.async false
set_option linter.all false
set_option maxRecDepth 100000
set_option maxHeartbeats 4000000
namespace K39
open PySem PySem.Spec PyProof.Rows L2 XL
section
variable {P : Program} {w : World} {K : PySem.W.Frag} {mg : Str → Option Value} {base : Heap}
/-! ### a schedule -/
def scs (ns : List Str) (ch : List (List Str)) : List (List Str) := (sets ns).filter fun c => decide (c ∈ ch)
structure SchAt (K : PySem.W.Frag) (C : Addr) (G : Hp) (x : Addr) (ns : List Str) (ch : List (List Str)) : Prop where
  ex : ∃ (dx a l : Addr) (us : List V), G x = some (.ins C dx [("order", .ref a), ("sets", .ref l)]) ∧ SqT K G a (ns.map V.str) ∧ G l = some (.lst us) ∧ DpAll K G us ((scs ns ch).map sD)
  ok : NsOk ns
theorem SchAt.same {C : Addr} {G G' : Hp} {x : Addr} {ns : List Str} {ch : List (List Str)} (e : Same G G') (h : SchAt K C G x ns ch) : SchAt K C G' x ns ch := by
  obtain ⟨dx, a, l, us, h1, h2, h3, h4⟩ := h.ex
  exact ⟨⟨dx, a, l, us, e _ _ h1, same_t e h2, e _ _ h3, dpa_same e h4⟩, h.ok⟩
theorem scs_mem {ns : List Str} {ch : List (List Str)} {c : List Str} : c ∈ scs ns ch ↔ c ∈ sets ns ∧ c ∈ ch := by
  unfold scs
  rw [List.mem_filter, decide_eq_true_eq]
theorem scs_len {ns : List Str} (h : NsOk ns) (ch : List (List Str)) : (scs ns ch).length ≤ 7 := Nat.le_trans (List.length_filter_le _ _) (sets_len h)
theorem scs_lt {ns : List Str} (h : NsOk ns) (ch : List (List Str)) : ∀ c ∈ scs ns ch, ∀ x ∈ c, Lt 1 8 x := fun c hc x hx => h.lt x (set_mem h (scs_mem.mp hc).1 x hx)
theorem sets_lt {ns : List Str} (h : NsOk ns) : ∀ c ∈ sets ns, ∀ x ∈ c, Lt 1 8 x := fun c hc x hx => h.lt x (set_mem h hc x hx)
def spSInit (K : PySem.W.Frag) (C : Addr) : Sp := fun vs H Q _ => ∃ (G : Hp) (M : List (Addr × HO)) (x dx a l : Addr) (us : List V) (ns : List Str) (ch : List (List Str)), vs = [.ref x, .ref a, .ref l] ∧ Sep G ((x, .ins C dx []) :: M) H ∧ SqT K G a (ns.map V.str) ∧ NsOk ns ∧ G l = some (.lst us) ∧ DpAll K G us (ch.map sD) ∧ (∀ c ∈ ch, c ∈ sets ns) ∧ ch.length ≤ 1000 ∧
  ∀ (G' H' : Hp), Same G G' → SchAt K C G' x ns ch → Sep G' M H' → Q .non H'
theorem ok_Schedule_init (T : Top K mg w) {k : Nat} (G_good_names : FnOk P w K mg base CX0 k T.a_good_names T.d_good_names ["names"] (spGood K)) (G_in_order : FnOk P w K mg base CX0 k T.a_in_order T.d_in_order ["names", "changed"] (spOrd K)) (G_all_sets : FnOk P w K mg base CX0 k T.a_all_sets T.d_all_sets ["names"] (spAll K)) :
    FnOk P w K mg base CX0 (k + 1) T.a_Schedule_init T.d_Schedule_init ["self", "names", "sets"] (spSInit K T.C_Schedule) := by
  refine T.F_Schedule_init.ok sc_Schedule_init (fun vs H Q E h => ?_) (fun cdv A outer s H vs Q E hr h => ?_)
  · obtain ⟨G, M, x, dx, a, l, us, ns, ch, rfl, _⟩ := h
    rfl
  · obtain ⟨G, M, x, dx, a, l, us, ns, ch, rfl, S, ha, ok, hl, hus, hch, ch1, q⟩ := h
    refine ⟨_, (pss_cons (xs_if (pt_not (xt_truK K (pe_call G_good_names (hr.mono (by omega)) (by rfl) T.g_good_names T.F_good_names.kp T.b_good_names .nil pass0 (pa_cons (xv 1) pa_nil))))
      (pss_one ps_never)
      pss_nil)
      (pss_cons (ps_set (i := 3) sc_Schedule_init.nd rfl (.inr rfl) (pe_lst pa_nil))
      (pss_cons (ps_for PassesOwn.never rfl (pi_listK K (xv 2)) (pg_name (i := 4) sc_Schedule_init.nd rfl (.inl rfl))
      (pss_cons (ps_set (i := 5) sc_Schedule_init.nd rfl (.inl rfl) (pe_call G_in_order (hr.mono (by omega)) (by rfl) T.g_in_order T.F_in_order.kp T.b_in_order .nil pass0 (pa_cons (xv 1) (pa_cons (xv 4) pa_nil))))
      (pss_cons (xs_if (xt_cmp op_isN (xv 5) pe_non (nomark _))
      (pss_one ps_never)
      pss_nil)
      (pss_one (ps_expr (pe_bmK K PySem.F.plainAttrs_list PySem.F.slot_list_append PySem.F.type_list_append mt_append (xv 3) (pa_cons (xv 5) pa_nil)))))))
      (pss_cons (ps_fld (xv 0) (xv 1) rfl)
      (pss_one (ps_fld (xv 0) (pe_lc (own := [("changed", 4)]) (by rfl) sc_Schedule_init.nd (pi_listK K (pe_call G_all_sets (hr.mono (by omega)) (by rfl) T.g_all_sets T.F_all_sets.kp T.b_all_sets .nil pass0 (pa_cons (xv 1) pa_nil))) (blkOk_by (N := ["self", "names", "sets", "told", "changed", "ordered"]) (sc := defScope s_Schedule_init) (by decide +kernel)) (fun _ _ _ _ _ => (pg_name (i := 4) sc_Schedule_init.nd rfl (.inl rfl))) (fun _ _ _ _ _ => (pts_one (xt_cmp (in_deepK K (u65 hr)) (xv 4) (xv 3) (by rfl)))) (fun _ _ _ _ _ => (xv 4))) rfl)))))), ?_⟩
    have ul := dpa_len hus
    rw [List.length_map] at ul
    refine ⟨G, _, a, ns, rfl, S, ha, ok, fun G1 H1 s1 S1 => ⟨ff, fun _ => ⟨sz, fun R nR => ?_⟩⟩⟩
    have S2 := S1.new (o := .lst []) nR
    have hl1 := s1 _ _ hl
    refine ⟨l, rfl, ⟨_, SqL.of (S2.st hl1)⟩, for_list (xs := us) (fun i σ H' => ∃ (y4 y5 : Option V) (ws : List V) (G' : Hp), σ = [some (.ref x), some (.ref a), some (.ref l), some (.ref R), y4, y5] ∧ Same G1 G' ∧ DpAll K G' ws ((ch.take i).map sD) ∧ Sep G' ((R, .lst ws) :: (x, .ins T.C_Schedule dx []) :: M) H') ⟨_, _, [], G1, rfl, Same.refl _, .nil, S2⟩ (fun i σ H' _ h => ?_) (fun i u σ H' hu h => ?_) (fun σ H' h => ?_)⟩
    · obtain ⟨_, _, _, _, _, s', _, S'⟩ := h
      exact SqL.of (S'.st (s' _ _ hl1))
    · obtain ⟨y4, y5, ws, G2, rfl, s2, hws, S3⟩ := h
      obtain ⟨d, hd, hud⟩ := dpa_get (dpa_same (s1.trans s2) hus) hu
      rw [List.getElem?_map] at hd
      obtain ⟨c, hc, rfl⟩ := Option.map_eq_some_iff.mp hd
      obtain ⟨b, rfl, hb⟩ := sD_at hud
      have il := (List.getElem?_eq_some_iff.mp hc).1
      have wl := dpa_len hws
      rw [List.length_map, List.length_take] at wl
      refine ⟨G2, _, a, b, ns, c, rfl, S3, same_t (s1.trans s2) ha, hb, ok, hch c (List.mem_of_getElem? hc), fun t G3 H3 s3 ht S4 => ?_⟩
      refine ⟨rfl, fun e => absurd e (by simp), fun _ => ?_⟩
      refine ⟨.inl ⟨rfl, _, SqL.of S4.hd⟩, R, _, .ref t, rfl, rfl, S4.hd, smallL (by omega), _, _, ws ++ [.ref t], G3, rfl, s2.trans s3, ?_, S4.set⟩
      rw [take_snoc hc, List.map_append]
      exact dpa_app (dpa_same s3 hws) (dpa_one (sD_of ht))
    · obtain ⟨y4, y5, ws, G2, rfl, s2, hws, S3⟩ := h
      rw [ul, List.take_length] at hws
      have SX := S3.sw
      refine ⟨x, T.C_Schedule, dx, [], rfl, SX.hd, T.cl_Schedule, T.na_Schedule_order, by decide, ?_⟩
      rw [putF_nil]
      have X1 := SX.set (o' := .ins T.C_Schedule dx [("order", .ref a)])
      have ha2 := same_t (s1.trans s2) ha
      refine ⟨G2, _, a, ns, rfl, X1, ha2, ok, fun l2 us2 G3 H3 s3 hl2 hus2 S4 => ?_⟩
      have u2l := dpa_len hus2
      rw [List.length_map] at u2l
      have s7 := sets_len ok
      have hws3 := dpa_same s3 hws
      refine ⟨l2, rfl, ⟨_, SqL.of (S4.st hl2)⟩, fun D nD => lc_list (xs := us2) (fun i H' => ∃ (vs : List V), DpAll K G3 vs ((((sets ns).take i).filter fun c => decide (c ∈ ch)).map sD) ∧ vs.length ≤ i ∧ Sep G3 ((D, .lst vs) :: (x, .ins T.C_Schedule dx [("order", .ref a)]) :: (R, .lst ws) :: M) H') ⟨[], .nil, Nat.le_refl _, S4.new nD⟩ (fun i H' _ pv => ?_) (fun i y H' hy pv => ?_) (fun H' pv => ?_)⟩
      · obtain ⟨_, _, _, S'⟩ := pv
        exact SqL.of (S'.st hl2)
      · obtain ⟨vs, hvs, vl, S5⟩ := pv
        obtain ⟨d, hd, hyd⟩ := dpa_get hus2 hy
        rw [List.getElem?_map] at hd
        obtain ⟨c, hc, rfl⟩ := Option.map_eq_some_iff.mp hd
        have il := (List.getElem?_eq_some_iff.mp hc).1
        have cm := List.mem_of_getElem? hc
        refine ⟨rfl, sD c, ch.map sD, dp_same S5.1 hyd, .inl (.lst (SqL.of (S5.at (a := R) (o := .lst ws) (by simp))) (dpa_same S5.1 hws3)), sD_shaped (sets_lt ok c cm), sDs_cl (fun c' h' x hx => sets_lt ok c' (hch c' h') x hx), ?_⟩
        rw [sD_any]
        refine tst (fun e => ?_) (fun e => ?_)
        · have e : decide (c ∈ ch) = true := e
          refine ⟨vs, S5.hd, smallL (by omega), vs ++ [y], ?_, by rw [List.length_append]; exact Nat.succ_le_succ vl, S5.set⟩
          rw [take_snoc hc, List.filter_append, List.map_append, show ([c].filter fun c => decide (c ∈ ch)) = [c] by simp only [List.filter]; rw [e]]
          exact dpa_app hvs (dpa_one hyd)
        · have e : decide (c ∈ ch) = false := e
          refine ⟨vs, ?_, by omega, S5⟩
          rw [take_snoc hc, List.filter_append, show ([c].filter fun c => decide (c ∈ ch)) = [] by simp only [List.filter]; rw [e], List.append_nil]
          exact hvs
      · obtain ⟨vs, hvs, vl, S5⟩ := pv
        rw [u2l, List.take_length] at hvs
        have S6 := S5.sw
        refine ⟨x, T.C_Schedule, dx, _, rfl, S6.hd, T.cl_Schedule, T.na_Schedule_sets, by simp, ?_⟩
        rw [putF_ne, putF_nil]
        have X2 := S6.set (o' := .ins T.C_Schedule dx [("order", .ref a), ("sets", .ref D)])
        obtain ⟨Ga, sa, Sa, ea⟩ := Sep.keep X2
        obtain ⟨Gb, sb, Sb, eb⟩ := Sep.keep Sa
        have s3b := sa.trans sb
        exact q Gb _ (s1.trans (s2.trans (s3.trans s3b))) ⟨⟨dx, a, D, vs, sb _ _ ea, same_t (s3.trans s3b) ha2, eb, dpa_same s3b hvs⟩, ok⟩ Sb.drop
/-- the one is a part of the other -/
def spSLe (K : PySem.W.Frag) (C : Addr) : Sp := fun vs H Q _ => ∃ (G : Hp) (M : List (Addr × HO)) (x y : Addr) (ns : List Str) (c1 c2 : List (List Str)), vs = [.ref x, .ref y] ∧ Sep G M H ∧ SchAt K C G x ns c1 ∧ SchAt K C G y ns c2 ∧
  ∀ (G' H' : Hp), Same G G' → Sep G' M H' → Q (.bl ((scs ns c1).all fun c => decide (c ∈ scs ns c2))) H'
theorem ok_Schedule_le (T : Top K mg w) {k : Nat} : FnOk P w K mg base CX0 (k + 1) T.a_Schedule_le T.d_Schedule_le ["self", "other"] (spSLe K T.C_Schedule) := by
  refine T.F_Schedule_le.ok sc_Schedule_le (fun vs H Q E h => ?_) (fun cdv A outer s H vs Q E hr h => ?_)
  · obtain ⟨G, M, x, y, ns, c1, c2, rfl, _⟩ := h
    rfl
  · obtain ⟨G, M, x, y, ns, c1, c2, rfl, S, hx, hy, q⟩ := h
    obtain ⟨dx, a1, l1, us1, x1, x2, x3, x4⟩ := hx.ex
    obtain ⟨dy, a2, l2, us2, y1, y2, y3, y4⟩ := hy.ex
    have ok := hx.ok
    refine ⟨_, (pss_cons (xs_if (pt_not (xt_truK K (pe_callB (call_isK K) (by rfl) T.m_isinstance (by decide +kernel) (pa_cons (xv 1) (pa_cons (pe_glob (v := .ref T.C_Schedule) (by rfl) T.g_Schedule rfl) pa_nil)))))
      (pss_one ps_never)
      pss_nil)
      (pss_one (ps_ret (pe_callB (cr_allK K rfl) (by rfl) T.m_all (by decide +kernel) (pa_cons (pe_lc (own := [("changed", 2)]) (by rfl) sc_Schedule_le.nd (pi_listK K (pe_fldK K (xv 0))) (blkOk_by (N := ["self", "other", "changed"]) (sc := defScope s_Schedule_le) (by decide +kernel)) (fun _ _ _ _ _ => (pg_name (i := 2) sc_Schedule_le.nd rfl (.inl rfl))) (fun _ _ _ _ _ => pts_nil) (fun _ _ _ _ _ => (pe_cmpR (in_deepK K (u65 hr)) (xv 2) (pe_fldK K (xv 1)) (by rfl)))) pa_nil))))), ?_⟩
    have u1 := dpa_len x4
    rw [List.length_map] at u1
    have l7 := scs_len ok c1
    refine ⟨_, _, _, _, true, rfl, .own _, .base (.ins (S.st y1) T.cl_Schedule T.ty_Schedule.1 T.ty_Schedule.2.1 T.ty_Schedule.2.2.1 T.ty_Schedule.2.2.2.1), T.ty_Schedule.2.2.2.2, ff, fun _ => ?_⟩
    refine ⟨x, T.C_Schedule, dx, _, _, rfl, S.st x1, T.cl_Schedule, T.na_Schedule_sets, (by rw [lk_ne, lk_eq]), l1, rfl, ⟨_, SqL.of (S.st x3)⟩, fun L nL => lc_list (xs := us1) (fun i H' => Sep G ((L, .lst ((((scs ns c1).take i).map fun c => decide (c ∈ scs ns c2)).map V.bl)) :: M) H') (S.new nL) (fun i H' _ p => SqL.of (p.st x3)) (fun i z H' hz p => ?_) (fun H' p => ?_)⟩
    · obtain ⟨d, hd, hzd⟩ := dpa_get x4 hz
      rw [List.getElem?_map] at hd
      obtain ⟨c, hc, rfl⟩ := Option.map_eq_some_iff.mp hd
      have il := (List.getElem?_eq_some_iff.mp hc).1
      refine ⟨rfl, y, T.C_Schedule, dy, _, _, rfl, p.st y1, T.cl_Schedule, T.na_Schedule_sets, (by rw [lk_ne, lk_eq]), ?_⟩
      refine ⟨sD c, (scs ns c2).map sD, dp_same p.1 hzd, .inl (.lst (SqL.of (p.st y3)) (dpa_same p.1 y4)), sD_shaped (scs_lt ok c1 c (List.mem_of_getElem? hc)), sDs_cl (scs_lt ok c2), ?_⟩
      rw [sD_any]
      refine ⟨_, p.hd, by rw [List.length_map, List.length_map, List.length_take]; exact smallL (by omega), ?_⟩
      rw [take_snoc hc, List.map_append, List.map_append]
      exact p.set
    · rw [u1, List.take_length] at p
      refine ⟨L, (scs ns c1).map fun c => decide (c ∈ scs ns c2), rfl, SqL.of p.hd, ?_⟩
      rw [show (((scs ns c1).map fun c => decide (c ∈ scs ns c2)).all id) = ((scs ns c1).all fun c => decide (c ∈ scs ns c2)) by rw [List.all_map]; rfl]
      exact q _ _ (Same.refl _) p.drop
/-- the first set that is missed -/
def mis (ns : List Str) (ch : List (List Str)) (nd : List Str) : Option (List Str) := (sets ns).find? fun c => tch c nd && !decide (c ∈ scs ns ch)
def spMissed (K : PySem.W.Frag) (C : Addr) : Sp := fun vs H Q _ => ∃ (G : Hp) (M : List (Addr × HO)) (x b : Addr) (ns : List Str) (ch : List (List Str)) (nd : List Str), vs = [.ref x, .ref b] ∧ Sep G M H ∧ SchAt K C G x ns ch ∧ SqT K G b (nd.map V.str) ∧
  ∀ (G' H' : Hp), Same G G' → Sep G' M H' → (mis ns ch nd = none → Q .non H') ∧ (∀ c, mis ns ch nd = some c → ∀ t, SqT K G' t (c.map V.str) → Q (.ref t) H')
theorem find_take {α : Type} {p : α → Bool} {l : List α} {i : Nat} {x : α} (hx : l[i]? = some x) (hn : ∀ y ∈ l.take i, p y = false) : (p x = true → l.find? p = some x) ∧ (p x = false → ∀ y ∈ l.take (i + 1), p y = false) := by
  refine ⟨fun e => ?_, fun e y hy => ?_⟩
  · rw [(take_pre hx).1, List.find?_append]
    rw [List.find?_eq_none.mpr fun y hy => by rw [hn y hy]; decide]
    simp [e]
  · rw [take_snoc hx] at hy
    rcases List.mem_append.mp hy with h | h
    · exact hn y h
    · rw [List.mem_singleton.mp h]
      exact e
theorem ok_Schedule_missed (T : Top K mg w) {k : Nat} (G_all_sets : FnOk P w K mg base CX0 k T.a_all_sets T.d_all_sets ["names"] (spAll K)) (G_touches : FnOk P w K mg base CX0 k T.a_touches T.d_touches ["changed", "needs"] (spTouch K)) : FnOk P w K mg base CX0 (k + 1) T.a_Schedule_missed T.d_Schedule_missed ["self", "needs"] (spMissed K T.C_Schedule) := by
  refine T.F_Schedule_missed.ok sc_Schedule_missed (fun vs H Q E h => ?_) (fun cdv A outer s H vs Q E hr h => ?_)
  · obtain ⟨G, M, x, b, ns, ch, nd, rfl, _⟩ := h
    rfl
  · obtain ⟨G, M, x, b, ns, ch, nd, rfl, S, hx, hb, q⟩ := h
    obtain ⟨dx, a1, l1, us1, x1, x2, x3, x4⟩ := hx.ex
    have ok := hx.ok
    refine ⟨_, (pss_cons (ps_for PassesOwn.never rfl (pi_listK K (pe_call G_all_sets (hr.mono (by omega)) (by rfl) T.g_all_sets T.F_all_sets.kp T.b_all_sets .nil pass0 (pa_cons (pe_fldK K (xv 0)) pa_nil))) (pg_name (i := 2) sc_Schedule_missed.nd rfl (.inl rfl))
      (pss_one (xs_if (PW.pt (xw_and (xt_truK K (pe_call G_touches (hr.mono (by omega)) (by rfl) T.g_touches T.F_touches.kp T.b_touches .nil pass0 (pa_cons (xv 2) (pa_cons (xv 1) pa_nil)))) (pw_and1 (xt_cmp (notin_deepK K (u65 hr)) (xv 2) (pe_fldK K (xv 0)) (by rfl)))))
      (pss_one (ps_ret (xv 2)))
      pss_nil)))
      (pss_one (ps_ret pe_non))), ?_⟩
    refine ⟨x, T.C_Schedule, dx, _, _, rfl, S.st x1, T.cl_Schedule, T.na_Schedule_order, lk_eq, G, M, a1, ns, rfl, S, x2, ok, fun l us G1 H1 s1 hl hus S1 => ?_⟩
    have ul := dpa_len hus
    rw [List.length_map] at ul
    refine ⟨l, rfl, ⟨_, SqL.of (S1.st hl)⟩, for_list (xs := us) (fun i σ H' => ∃ (y2 : Option V) (G' : Hp), σ = [some (.ref x), some (.ref b), y2] ∧ Same G1 G' ∧ (∀ c ∈ (sets ns).take i, (tch c nd && !decide (c ∈ scs ns ch)) = false) ∧ Sep G' M H') ⟨_, G1, rfl, Same.refl _, by simp, S1⟩ (fun i σ H' _ h => ?_) (fun i u σ H' hu h => ?_) (fun σ H' h => ?_)⟩
    · obtain ⟨_, _, _, s', _, S'⟩ := h
      exact SqL.of (S'.st (s' _ _ hl))
    · obtain ⟨y2, G2, rfl, s2, hn, S2⟩ := h
      obtain ⟨d, hd, hud⟩ := dpa_get (dpa_same s2 hus) hu
      rw [List.getElem?_map] at hd
      obtain ⟨c, hc, rfl⟩ := Option.map_eq_some_iff.mp hd
      obtain ⟨t, rfl, ht⟩ := sD_at hud
      have cm := List.mem_of_getElem? hc
      obtain ⟨f1, f2⟩ := find_take hc hn
      have s12 := s1.trans s2
      refine ⟨G2, M, t, b, c, nd, rfl, S2, ht, same_t s12 hb, Nat.le_trans (set_len ok cm).1 (by decide), fun G3 H3 s3 S3 => ⟨fun e1 => ?_, fun e1 => ?_⟩⟩
      · refine ⟨x, T.C_Schedule, dx, _, _, rfl, S3.st ((s12.trans s3) _ _ x1), T.cl_Schedule, T.na_Schedule_sets, (by rw [lk_ne, lk_eq]), ?_⟩
        refine ⟨sD c, (scs ns ch).map sD, dp_same (s3.trans S3.1) hud, .inl (.lst (SqL.of (S3.st ((s12.trans s3) _ _ x3))) (dpa_same ((s12.trans s3).trans S3.1) x4)), sD_shaped (sets_lt ok c cm), sDs_cl (scs_lt ok ch), ?_⟩
        rw [sD_any]
        refine ⟨fun e => ?_, fun e => ?_⟩
        · have e : (!decide (c ∈ scs ns ch)) = true := e
          exact (q G3 H3 (s12.trans s3) S3).2 c (f1 (by rw [e1, e]; rfl)) t (same_t s3 ht)
        · have e : (!decide (c ∈ scs ns ch)) = false := e
          exact ⟨_, G3, rfl, s2.trans s3, f2 (by rw [e1, e]; rfl), S3⟩
      · exact ⟨ff, fun _ => ⟨_, G3, rfl, s2.trans s3, f2 (by rw [e1]; rfl), S3⟩⟩
    · obtain ⟨y2, G2, rfl, s2, hn, S2⟩ := h
      rw [ul, List.take_length] at hn
      refine (q G2 H' (s1.trans s2) S2).1 ?_
      unfold mis
      rw [List.find?_eq_none]
      intro c hc
      rw [hn c hc]
      decide
/-- the least schedule -/
def spLeast (K : PySem.W.Frag) (C : Addr) : Sp := fun vs H Q _ => ∃ (G : Hp) (M : List (Addr × HO)) (a b : Addr) (ns nd : List Str), vs = [.ref a, .ref b] ∧ Sep G M H ∧ SqT K G a (ns.map V.str) ∧ SqT K G b (nd.map V.str) ∧ NsOk ns ∧
  ∀ (x : Addr) (G' H' : Hp), Same G G' → SchAt K C G' x ns ((sets ns).filter fun c => tch c nd) → Sep G' M H' → Q (.ref x) H'
theorem ok_Schedule_least (T : Top K mg w) {k : Nat} (G_good_names : FnOk P w K mg base CX0 k T.a_good_names T.d_good_names ["names"] (spGood K)) (G_all_sets : FnOk P w K mg base CX0 k T.a_all_sets T.d_all_sets ["names"] (spAll K)) (G_touches : FnOk P w K mg base CX0 k T.a_touches T.d_touches ["changed", "needs"] (spTouch K))
    (G_Schedule_init : FnOk P w K mg base CX0 k T.a_Schedule_init T.d_Schedule_init ["self", "names", "sets"] (spSInit K T.C_Schedule)) : FnOk P w K mg base CX0 (k + 2) T.a_Schedule_least T.d_Schedule_least ["names", "needs"] (spLeast K T.C_Schedule) := by
  refine T.F_Schedule_least.ok sc_Schedule_least (fun vs H Q E h => ?_) (fun cdv A outer s H vs Q E hr h => ?_)
  · obtain ⟨G, M, a, b, ns, nd, rfl, _⟩ := h
    rfl
  · obtain ⟨G, M, a, b, ns, nd, rfl, S, ha, hb, ok, q⟩ := h
    refine ⟨_, (pss_cons (xs_if (pt_not (xt_truK K (pe_call G_good_names (hr.mono (by omega)) (by rfl) T.g_good_names T.F_good_names.kp T.b_good_names .nil pass0 (pa_cons (xv 0) pa_nil))))
      (pss_one ps_never)
      pss_nil)
      (pss_one (ps_ret (pe_make T.mk_Schedule G_Schedule_init (hr.mono (by omega)) (by rfl) T.g_Schedule T.b_Schedule_init .nil pass0 (pa_cons (xv 0) (pa_cons (pe_lc (own := [("changed", 2)]) (by rfl) sc_Schedule_least.nd (pi_listK K (pe_call G_all_sets (hr.mono (by omega)) (by rfl) T.g_all_sets T.F_all_sets.kp T.b_all_sets .nil pass0 (pa_cons (xv 0) pa_nil))) (blkOk_by (N := ["names", "needs", "changed"]) (sc := defScope s_Schedule_least) (by decide +kernel)) (fun _ _ _ _ _ => (pg_name (i := 2) sc_Schedule_least.nd rfl (.inl rfl))) (fun _ _ _ _ _ => (pts_one (xt_truK K (pe_call G_touches (hr.mono (by omega)) (by rfl) T.g_touches T.F_touches.kp T.b_touches .nil pass0 (pa_cons (xv 2) (pa_cons (xv 1) pa_nil)))))) (fun _ _ _ _ _ => (xv 2))) pa_nil)))))), ?_⟩
    refine ⟨G, _, a, ns, rfl, S, ha, ok, fun G1 H1 s1 S1 => ⟨ff, fun _ => ?_⟩⟩
    refine ⟨G1, M, a, ns, rfl, S1, same_t s1 ha, ok, fun l us G2 H2 s2 hl hus S2 => ?_⟩
    have ul := dpa_len hus
    rw [List.length_map] at ul
    have s7 := sets_len ok
    refine ⟨l, rfl, ⟨_, SqL.of (S2.st hl)⟩, fun D nD => lc_list (xs := us) (fun i H' => ∃ (vs : List V) (G' : Hp), Same G2 G' ∧ DpAll K G' vs ((((sets ns).take i).filter fun c => tch c nd).map sD) ∧ vs.length ≤ i ∧ Sep G' ((D, .lst vs) :: M) H') ⟨[], G2, Same.refl _, .nil, Nat.le_refl _, S2.new nD⟩ (fun i H' _ pv => ?_) (fun i y H' hy pv => ?_) (fun H' pv => ?_)⟩
    · obtain ⟨_, _, s', _, _, S'⟩ := pv
      exact SqL.of (S'.st (s' _ _ hl))
    · obtain ⟨vs, G3, s3, hvs, vl, S3⟩ := pv
      obtain ⟨d, hd, hyd⟩ := dpa_get (dpa_same s3 hus) hy
      rw [List.getElem?_map] at hd
      obtain ⟨c, hc, rfl⟩ := Option.map_eq_some_iff.mp hd
      obtain ⟨t, rfl, ht⟩ := sD_at hyd
      have il := (List.getElem?_eq_some_iff.mp hc).1
      have cm := List.mem_of_getElem? hc
      refine ⟨rfl, G3, _, t, b, c, nd, rfl, S3, ht, same_t (s1.trans (s2.trans s3)) hb, Nat.le_trans (set_len ok cm).1 (by decide), fun G4 H4 s4 S4 => ?_⟩
      refine tst (fun e => ?_) (fun e => ?_)
      · refine ⟨vs, S4.hd, smallL (by omega), vs ++ [.ref t], G4, s3.trans s4, ?_, by rw [List.length_append]; exact Nat.succ_le_succ vl, S4.set⟩
        rw [take_snoc hc, List.filter_append, List.map_append, show ([c].filter fun c => tch c nd) = [c] by simp only [List.filter]; rw [e]]
        exact dpa_app (dpa_same s4 hvs) (dpa_one (dp_same s4 hyd))
      · refine ⟨vs, G4, s3.trans s4, ?_, by omega, S4⟩
        rw [take_snoc hc, List.filter_append, show ([c].filter fun c => tch c nd) = [] by simp only [List.filter]; rw [e], List.append_nil]
        exact dpa_same s4 hvs
    · obtain ⟨vs, G3, s3, hvs, vl, S3⟩ := pv
      rw [ul, List.take_length] at hvs
      obtain ⟨G4, s4, S4, hD⟩ := Sep.keep S3
      refine fun x dx nx ndx ne => ⟨G4, _, x, dx, a, D, vs, ns, (sets ns).filter fun c => tch c nd, rfl, S4.new2 nx ndx ne, same_t (s1.trans (s2.trans (s3.trans s4))) ha, ok, hD, dpa_same s4 hvs, fun c hc => (List.mem_filter.mp hc).1, ?_, fun G5 H5 s5 hx S5 => ⟨rfl, ?_⟩⟩
      · exact Nat.le_trans (List.length_filter_le _ _) (by omega)
      · exact q x G5 _ (s1.trans (s2.trans (s3.trans (s4.trans s5)))) hx S5.drop

end
end K39
set_option Elab.async false
set_option linter.all false
set_option maxRecDepth 100000
set_option maxHeartbeats 4000000
namespace K39
open PySem PySem.Spec PyProof.Rows L2 XL
/-! ### dicts by name -/
def dk (ns : List Str) (e : Str → Int) : List (Key × V) := ns.map fun x => (Sum.inr x, V.int (e x))
theorem dk_keys (ns : List Str) (e : Str → Int) : (dk ns e).map (fun kv => kV kv.1) = ns.map V.str := by
  unfold dk
  rw [List.map_map]
  rfl
theorem dk_len (ns : List Str) (e : Str → Int) : (dk ns e).length = ns.length := List.length_map _
theorem dk_val {e : Str → Int} {x : Str} : ∀ {ns : List Str}, x ∈ ns → valV (dk ns e) (Sum.inr x) = some (.int (e x))
  | y :: r, h => by
    unfold dk valV
    rw [List.map_cons, List.find?_cons]
    by_cases hy : y = x
    · subst hy
      simp
    · have h2 : x ∈ r := by
        rcases List.mem_cons.mp h with h | h
        · exact absurd h.symm hy
        · exact h
      have := dk_val (e := e) h2
      unfold dk valV at this
      simp only [Sum.inr.injEq, hy, decide_false]
      exact this
theorem dk_none {e : Str → Int} {x : Str} : ∀ {ns : List Str}, x ∉ ns → valV (dk ns e) (Sum.inr x) = none
  | [], _ => rfl
  | y :: r, h => by
    unfold dk valV
    rw [List.map_cons, List.find?_cons]
    have hy : ¬ y = x := fun hy => h (by rw [hy]; exact List.mem_cons_self)
    have := dk_none (e := e) (ns := r) (x := x) fun h2 => h (List.mem_cons_of_mem _ h2)
    unfold dk valV at this
    simp only [Sum.inr.injEq, hy, decide_false]
    exact this
theorem dk_put {ns : List Str} {e : Str → Int} {x : Str} {i : Nat} (nd : ns.Nodup) (hx : ns[i]? = some x) : putK (dk (ns.take i) e) (Sum.inr x) (.int (e x)) = dk (ns.take (i + 1)) e := by
  have nin : x ∉ ns.take i := fun h => by
    rw [(take_pre hx).1, List.nodup_append] at nd
    exact nd.2.2 _ h _ List.mem_cons_self rfl
  rw [putK_new _ (dk_none nin), take_snoc hx]
  simp [dk]
def ups (e : Str → Int) (y : Str) (v : Int) : Str → Int := fun x => if x = y then v else e x
theorem dk_set {ns : List Str} {e : Str → Int} {y : Str} {v : Int} (hy : y ∈ ns) : putK (dk ns e) (Sum.inr y) (.int v) = dk ns (ups e y v) := by
  unfold putK
  rw [valV_any, dk_val hy, Option.isSome_some, if_pos rfl]
  unfold dk
  rw [List.map_map]
  refine List.map_congr_left fun x hx => ?_
  simp only [Function.comp_apply, Sum.inr.injEq, ups]
  by_cases h : x = y
  · rw [if_pos h, if_pos h]
  · rw [if_neg h, if_neg h]
theorem dk_congr {ns : List Str} {e e' : Str → Int} (h : ∀ x ∈ ns, e x = e' x) : dk ns e = dk ns e' := by
  unfold dk
  exact List.map_congr_left fun x hx => by rw [h x hx]
/-! ### shapes of texts -/
def txD (x : Str) : PyData := .tuple [.str "text", .tuple [.str "get", .str x]]
def coD (nn : List Str) : PyData := .tuple [.str "col", .tuple (nn.map txD)]
/-- col(text(get x), ..) -/
structure ShAt (K : PySem.W.Frag) (G : Hp) (v : V) (nn : List Str) : Prop where
  dp : Dp K G v (coD nn)
theorem sh_at {K : PySem.W.Frag} {G : Hp} {v : V} {nn : List Str} (h : Dp K G v (coD nn)) : ∃ a b us, v = .ref a ∧ SqT K G a [.str "col", .ref b] ∧ SqT K G b us ∧ DpAll K G us (nn.map txD) := by
  obtain ⟨a, xs, rfl, h1, h2⟩ := dp_tup h
  obtain ⟨x1, r1, rfl, h3, h4⟩ := dpa_cons h2
  obtain ⟨x2, r2, rfl, h5, h6⟩ := dpa_cons h4
  cases h6
  rw [dp_str h3] at h1
  obtain ⟨b, us, rfl, h7, h8⟩ := dp_tup h5
  exact ⟨a, b, us, rfl, h1, h7, h8⟩
theorem tx_at {K : PySem.W.Frag} {G : Hp} {v : V} {x : Str} (h : Dp K G v (txD x)) : ∃ a b, v = .ref a ∧ SqT K G a [.str "text", .ref b] ∧ SqT K G b [.str "get", .str x] := by
  obtain ⟨a, xs, rfl, h1, h2⟩ := dp_tup h
  obtain ⟨x1, r1, rfl, h3, h4⟩ := dpa_cons h2
  obtain ⟨x2, r2, rfl, h5, h6⟩ := dpa_cons h4
  cases h6
  rw [dp_str h3] at h1
  obtain ⟨b, us, rfl, h7, h8⟩ := dp_tup h5
  obtain ⟨y1, s1, rfl, g3, g4⟩ := dpa_cons h8
  obtain ⟨y2, s2, rfl, g5, g6⟩ := dpa_cons g4
  cases g6
  rw [dp_str g3, dp_str g5] at h7
  exact ⟨a, b, rfl, h1, h7⟩

section
variable {P : Program} {w : World} {K : PySem.W.Frag} {mg : Str → Option Value} {base : Heap}
def spText (K : PySem.W.Frag) : Sp := fun vs H Q _ => ∃ (G : Hp) (M : List (Addr × HO)) (v : V), vs = [v] ∧ Sep G M H ∧ ∀ (q : Addr) (G' H' : Hp), Same G G' → G' q = some (.tup [.str "text", v]) → Sep G' M H' → Q (.ref q) H'
theorem ok_text_shape (T : Top K mg w) {k : Nat} : FnOk P w K mg base CX0 (k + 1) T.a_text_shape T.d_text_shape ["form"] (spText K) := by
  refine T.F_text_shape.ok sc_text_shape (fun vs H Q E h => ?_) (fun cdv A outer s H vs Q E hr h => ?_)
  · obtain ⟨G, M, v, rfl, _⟩ := h
    rfl
  · obtain ⟨G, M, v, rfl, S, q⟩ := h
    refine ⟨_, (pss_one (ps_ret (pe_tup (pa_cons pe_str (pa_cons (xv 0) pa_nil))))), sz, fun p np => ?_⟩
    obtain ⟨G1, s1, S1, h1⟩ := Sep.mk (o := .tup [.str "text", v]) S np
    exact q p G1 _ s1 h1 S1
def spCol (K : PySem.W.Frag) : Sp := fun vs H Q _ => ∃ (G : Hp) (M : List (Addr × HO)) (v : V), vs = [v] ∧ Sep G M H ∧ ∀ (q : Addr) (G' H' : Hp), Same G G' → G' q = some (.tup [.str "col", v]) → Sep G' M H' → Q (.ref q) H'
theorem ok_col_shape (T : Top K mg w) {k : Nat} : FnR P w K mg base CX0 (k + 1) T.a_col_shape (spS 0 (spCol K)) := by
  refine okS (ps := []) T.F_col_shape sc_col_shape T.b_col_shape (fun cdv A outer s H vs Q E hr h => ?_)
  obtain ⟨G, M, v, rfl, S, q⟩ := h
  refine ⟨_, (pss_one (ps_ret (pe_tup (pa_cons pe_str (pa_cons (xv 0) pa_nil))))), sz, fun p np => ?_⟩
  obtain ⟨G1, s1, S1, h1⟩ := Sep.mk (o := .tup [.str "col", v]) S np
  exact q p G1 _ s1 h1 S1
/-- the triple that spoils -/
def e0 : Str → Int := fun _ => 0
def e1 (c : List Str) : Str → Int := fun x => if x ∈ c then 1 else 0
def spSpoil (K : PySem.W.Frag) (C : Addr) : Sp := fun vs H Q _ => ∃ (G : Hp) (M : List (Addr × HO)) (x b : Addr) (ns : List Str) (ch : List (List Str)) (nd : List Str), vs = [.ref x, .ref b] ∧ Sep G M H ∧ SchAt K C G x ns ch ∧ SqT K G b (nd.map V.str) ∧
  (mis ns ch nd = none → ∀ (G' H' : Hp), Same G G' → Sep G' M H' → Q .non H') ∧
  (∀ c, mis ns ch nd = some c → ∀ (t v d1 d2 : Addr) (G' H' : Hp), Same G G' → G' t = some (.tup [.ref v, .ref d1, .ref d2]) → Dp K G' (.ref v) (coD (ns.filter fun x => decide (x ∈ nd))) → Sep G' ((d1, .dK (dk ns e0)) :: (d2, .dK (dk ns (e1 c))) :: M) H' → Q (.ref t) H')
theorem ok_spoiling (T : Top K mg w) {k : Nat} (G_Schedule_missed : FnOk P w K mg base CX0 k T.a_Schedule_missed T.d_Schedule_missed ["self", "needs"] (spMissed K T.C_Schedule)) (G_text_shape : FnOk P w K mg base CX0 k T.a_text_shape T.d_text_shape ["form"] (spText K)) (G_col_shape : FnR P w K mg base CX0 k T.a_col_shape (spS 0 (spCol K))) : FnOk P w K mg base CX0 (k + 1) T.a_spoiling T.d_spoiling ["schedule", "needs"] (spSpoil K T.C_Schedule) := by
  refine T.F_spoiling.ok sc_spoiling (fun vs H Q E h => ?_) (fun cdv A outer s H vs Q E hr h => ?_)
  · obtain ⟨G, M, x, b, ns, ch, nd, rfl, _⟩ := h
    rfl
  · obtain ⟨G, M, x, b, ns, ch, nd, rfl, S, hx, hb, q1, q2⟩ := h
    obtain ⟨dx, a, l1, us1, x1, x2, x3, x4⟩ := hx.ex
    have ok := hx.ok
    have n3 := ok.hi
    have nl : (ns.map V.str).length = ns.length := List.length_map _
    refine ⟨_, (pss_cons (ps_set (i := 2) sc_spoiling.nd rfl (.inr rfl) (pe_meth (xv 0) T.cl_Schedule T.me_Schedule_missed G_Schedule_missed (hr.mono (by omega)) T.b_Schedule_missed .nil pass0 (pa_cons (xv 1) pa_nil)))
      (pss_cons (xs_if (xt_cmp op_isN (xv 2) pe_non (nomark _))
      (pss_one (ps_ret pe_non))
      pss_nil)
      (pss_cons (ps_setLc (i := 3) (own := [("one", 7)]) (by rfl) sc_spoiling.nd rfl rfl (sw_true rfl rfl rfl (by decide +kernel)) (pi_tupK K (pe_fldK K (xv 0))) (blkOk_by (N := ["schedule", "needs", "changed", "texts", "shape", "before", "after", "one"]) (sc := defScope s_spoiling) (by decide +kernel)) (fun _ _ _ _ _ => (pg_name (i := 7) sc_spoiling.nd rfl (.inl rfl))) (fun _ _ _ _ _ => (pts_one (xt_cmp (in_seqK K) (xv 7) (xv 1) (by rfl)))) (fun _ _ _ _ _ => (pe_call G_text_shape (hr.mono (by omega)) (by rfl) T.g_text_shape T.F_text_shape.kp T.b_text_shape .nil pass0 (pa_cons (pe_tup (pa_cons pe_str (pa_cons (xv 7) pa_nil))) pa_nil))))
      (pss_cons (ps_set (i := 4) sc_spoiling.nd rfl (.inl rfl) (pe_callS1K K G_col_shape (hr.mono (by omega)) T.F_col_shape.kp (by rfl) T.g_col_shape pass0 (xv 3)))
      (pss_cons (ps_setDc (i := 5) (own := [("one", 7)]) (by rfl) sc_spoiling.nd rfl rfl (sw_trueD rfl rfl rfl (by decide +kernel)) (pi_tupK K (pe_fldK K (xv 0))) (blkOk_by (N := ["schedule", "needs", "changed", "texts", "shape", "before", "after", "one"]) (sc := defScope s_spoiling) (by decide +kernel)) (fun _ _ _ _ _ => (pg_name (i := 7) sc_spoiling.nd rfl (.inl rfl))) (fun _ _ _ _ _ => pts_nil) (fun _ _ _ _ _ => (xv 7)) (fun _ _ _ _ _ => pe_int))
      (pss_cons (ps_setDc (i := 6) (own := [("one", 7)]) (by rfl) sc_spoiling.nd rfl rfl (sw_trueD rfl rfl rfl (by decide +kernel)) (pi_tupK K (pe_fldK K (xv 0))) (blkOk_by (N := ["schedule", "needs", "changed", "texts", "shape", "before", "after", "one"]) (sc := defScope s_spoiling) (by decide +kernel)) (fun _ _ _ _ _ => (pg_name (i := 7) sc_spoiling.nd rfl (.inl rfl))) (fun _ _ _ _ _ => pts_nil) (fun _ _ _ _ _ => (xv 7)) (fun _ _ _ _ _ => (xe_if (xt_cmp (in_seqK K) (xv 7) (xv 2) (by rfl)) pe_int pe_int)))
      (pss_one (ps_ret (pe_tup (pa_cons (xv 4) (pa_cons (xv 5) (pa_cons (xv 6) pa_nil)))))))))))), ?_⟩
    refine ⟨x, dx, _, rfl, S.st x1, (by rw [lk_ne, lk_ne]; rfl), G, M, x, b, ns, ch, nd, rfl, S, hx, hb, fun G1 H1 s1 S1 => ⟨fun em => ?_, fun c ec t ht => ?_⟩⟩
    · exact ⟨rfl, fun _ => q1 em G1 H1 s1 S1, fun e => absurd e (by simp)⟩
    refine ⟨rfl, fun e => absurd e (by simp), fun _ => ?_⟩
    -- texts
    refine ⟨x, T.C_Schedule, dx, _, _, rfl, S1.st (s1 _ _ x1), T.cl_Schedule, T.na_Schedule_order, lk_eq, a, rfl, ⟨_, S1.t (same_t s1 x2)⟩, fun L nL => lc_tup (xs := ns.map V.str) (fun i H' => ∃ (vs : List V) (G' : Hp), Same G1 G' ∧ DpAll K G' vs (((ns.take i).filter fun x => decide (x ∈ nd)).map txD) ∧ vs.length ≤ i ∧ Sep G' ((L, .lst vs) :: M) H') ⟨[], G1, Same.refl _, .nil, Nat.le_refl _, S1.new nL⟩ (fun i H' _ p => ?_) (fun i y H' hy p => ⟨rfl, ?_⟩) (fun H' p => ?_)⟩
    · obtain ⟨_, _, s', _, _, S'⟩ := p
      exact S'.t (same_t (s1.trans s') x2)
    · obtain ⟨vs, G2, s2, hvs, vl, S2⟩ := p
      rw [List.getElem?_map] at hy
      obtain ⟨z, hz, rfl⟩ := Option.map_eq_some_iff.mp hy
      have il := (List.getElem?_eq_some_iff.mp hz).1
      refine ⟨b, _, rfl, .inr (S2.t (same_t (s1.trans s2) hb)), rfl, strs_flat _, ?_⟩
      rw [inV_str]
      refine tst (fun e => ?_) (fun e => ?_)
      · have e : decide (z ∈ nd) = true := e
        refine ⟨sz, fun p2 np2 => ?_⟩
        obtain ⟨G3, s3, S3, hp2⟩ := Sep.mk (o := .tup [.str "get", .str z]) S2 np2
        refine ⟨G3, _, .ref p2, rfl, S3, fun q G4 H4 s4 hq S4 => ?_⟩
        refine ⟨vs, S4.hd, smallL (by omega), vs ++ [.ref q], G4, s2.trans (s3.trans s4), ?_, by rw [List.length_append]; exact Nat.succ_le_succ vl, S4.set⟩
        rw [take_snoc hz, List.filter_append, List.map_append, show ([z].filter fun x => decide (x ∈ nd)) = [z] by simp only [List.filter]; rw [e]]
        exact dpa_app (dpa_same (s3.trans s4) hvs) (dpa_one (.tup (SqT.of hq) (.cons (.str _) (.cons (.tup (SqT.of (s4 _ _ hp2)) (.cons (.str _) (.cons (.str _) .nil))) .nil))))
      · have e : decide (z ∈ nd) = false := e
        refine ⟨vs, G2, s2, ?_, by omega, S2⟩
        rw [take_snoc hz, List.filter_append, show ([z].filter fun x => decide (x ∈ nd)) = [] by simp only [List.filter]; rw [e], List.append_nil]
        exact hvs
    obtain ⟨vs, G2, s2, hvs, vl, S2⟩ := p
    rw [nl, List.take_length] at hvs
    obtain ⟨G3, s3, S3, hL⟩ := Sep.keep S2
    refine ⟨L, vs, rfl, .inr (SqL.of (S3.st hL)), [], vs, rfl, rfl, small (by omega), fun p4 np4 => ?_⟩
    obtain ⟨G4, s4, S4, hp4⟩ := Sep.mk (o := .tup vs) S3 np4
    refine ⟨G4, M, .ref p4, rfl, S4, fun v G5 H5 s5 hv S5 => ?_⟩
    have s15 := s2.trans (s3.trans (s4.trans s5))
    have hdv : Dp K G5 (.ref v) (coD (ns.filter fun x => decide (x ∈ nd))) := .tup (SqT.of hv) (.cons (.str _) (.cons (.tup (SqT.of (s5 _ _ hp4)) (dpa_same (s3.trans (s4.trans s5)) hvs)) .nil))
    have x15 := (s1.trans s15) _ _ x1
    have x25 := same_t (s1.trans s15) x2
    -- the dicts
    refine ⟨x, T.C_Schedule, dx, _, _, rfl, S5.st x15, T.cl_Schedule, T.na_Schedule_order, lk_eq, a, rfl, ⟨_, S5.t x25⟩, fun d1 nd1 => dc_tup (xs := ns.map V.str) (fun i H' => Sep G5 ((d1, .dK (dk (ns.take i) e0)) :: M) H') (S5.new nd1) (fun i H' _ p => p.t x25) (fun i y H' hy p => ⟨rfl, ?_⟩) (fun H' p => ?_)⟩
    · rw [List.getElem?_map] at hy
      obtain ⟨z, hz, rfl⟩ := Option.map_eq_some_iff.mp hy
      have il := (List.getElem?_eq_some_iff.mp hz).1
      refine ⟨_, Sum.inr z, rfl, p.hd, by rw [dk_len, List.length_take]; exact smallL (by omega), ?_⟩
      rw [← dk_put (e := e0) ok.nd hz]
      exact p.set
    rw [nl, List.take_length] at p
    refine ⟨x, T.C_Schedule, dx, _, _, rfl, p.st x15, T.cl_Schedule, T.na_Schedule_order, lk_eq, a, rfl, ⟨_, p.t x25⟩, fun d2 nd2 => dc_tup (xs := ns.map V.str) (fun i H' => Sep G5 ((d2, .dK (dk (ns.take i) (e1 c))) :: (d1, .dK (dk ns e0)) :: M) H') (p.new nd2) (fun i H' _ p => p.t x25) (fun i y H' hy p => ⟨rfl, ?_⟩) (fun H' p2 => ?_)⟩
    · rw [List.getElem?_map] at hy
      obtain ⟨z, hz, rfl⟩ := Option.map_eq_some_iff.mp hy
      have il := (List.getElem?_eq_some_iff.mp hz).1
      have fin : ∀ v : Int, v = e1 c z → ∃ kvs k, V.str z = kV k ∧ H' d2 = some (.dK kvs) ∧ kvs.length < sizeLine ∧ Sep G5 ((d2, .dK (dk (ns.take (i + 1)) (e1 c))) :: (d1, .dK (dk ns e0)) :: M) (upd H' d2 (.dK (putK kvs k (.int v)))) := fun v ev => by
        refine ⟨_, Sum.inr z, rfl, p.hd, by rw [dk_len, List.length_take]; exact smallL (by omega), ?_⟩
        rw [← dk_put (e := e1 c) ok.nd hz, ← ev]
        exact p.set
      refine ⟨t, _, rfl, .inr (p.t (same_t s15 ht)), rfl, strs_flat _, ?_⟩
      rw [inV_str]
      refine ⟨fun e => fin 1 ?_, fun e => fin 0 ?_⟩
      · have e : decide (z ∈ c) = true := e
        exact (if_pos (of_decide_eq_true e)).symm
      · have e : decide (z ∈ c) = false := e
        exact (if_neg (of_decide_eq_false e)).symm
    rw [nl, List.take_length] at p2
    refine ⟨sz, fun y ny => ?_⟩
    obtain ⟨G6, s6, S6, hy⟩ := Sep.mk (o := .tup [.ref v, .ref d1, .ref d2]) p2 ny
    exact q2 c ec y v d1 d2 G6 _ (s1.trans (s15.trans s6)) hy (dp_same s6 hdv) S6.sw

end
end K39
set_option Elab.async false
set_option linter.all false
set_option maxRecDepth 100000
set_option maxHeartbeats 4000000
namespace K39
open PySem PySem.Spec PyProof.Rows L2 XL
/-! ### forms by name -/
inductive Gm where
  | is (n : Int)
  | get (x : Str)
  | sum (a b : Gm)
  | same (a b : Gm)
  | pick (a b c : Gm)
def Gm.dep : Gm → Nat
  | .is _ => 1
  | .get _ => 1
  | .sum a b => max a.dep b.dep + 1
  | .same a b => max a.dep b.dep + 1
  | .pick a b c => max a.dep (max b.dep c.dep) + 1
def Gm.val (e : Str → Int) : Gm → Int
  | .is n => n
  | .get x => e x
  | .sum a b => (a.val e + b.val e) % 10
  | .same a b => if a.val e = b.val e then 1 else 0
  | .pick a b c => if a.val e = 0 then c.val e else b.val e
def Gm.ok (ns : List Str) : Gm → Prop
  | .is n => 0 ≤ n ∧ n ≤ 9
  | .get x => x ∈ ns
  | .sum a b => a.ok ns ∧ b.ok ns
  | .same a b => a.ok ns ∧ b.ok ns
  | .pick a b c => a.ok ns ∧ b.ok ns ∧ c.ok ns
theorem Gm.dep_pos (f : Gm) : 0 < f.dep := by cases f <;> simp [Gm.dep]
theorem Gm.val_congr {ns : List Str} {e e' : Str → Int} (h : ∀ x ∈ ns, e x = e' x) : ∀ f : Gm, f.ok ns → f.val e = f.val e'
  | .is n, _ => rfl
  | .get x, ok => h x ok
  | .sum a b, ok => by rw [Gm.val, Gm.val, Gm.val_congr h a ok.1, Gm.val_congr h b ok.2]
  | .same a b, ok => by rw [Gm.val, Gm.val, Gm.val_congr h a ok.1, Gm.val_congr h b ok.2]
  | .pick a b c, ok => by rw [Gm.val, Gm.val, Gm.val_congr h a ok.1, Gm.val_congr h b ok.2.1, Gm.val_congr h c ok.2.2]
theorem Gm.val_ok {ns : List Str} {e : Str → Int} (h : ∀ x ∈ ns, 0 ≤ e x ∧ e x ≤ 9) : ∀ f : Gm, f.ok ns → 0 ≤ f.val e ∧ f.val e ≤ 9
  | .is n, ok => ok
  | .get x, ok => h x ok
  | .sum a b, _ => by rw [Gm.val]; omega
  | .same a b, _ => by rw [Gm.val]; split <;> omega
  | .pick a b c, ok => by
    rw [Gm.val]
    split
    · exact Gm.val_ok h c ok.2.2
    · exact Gm.val_ok h b ok.2.1
inductive GmAt (K : PySem.W.Frag) (G : Hp) : V → Gm → Prop where
  | is {p : Addr} {n : Int} (h : SqT K G p [.str "is", .int n]) : GmAt K G (.ref p) (.is n)
  | get {p : Addr} {x : Str} (h : SqT K G p [.str "get", .str x]) : GmAt K G (.ref p) (.get x)
  | sum {p : Addr} {u v : V} {a b : Gm} (h : SqT K G p [.str "sum", u, v]) (h2 : GmAt K G u a) (h3 : GmAt K G v b) : GmAt K G (.ref p) (.sum a b)
  | same {p : Addr} {u v : V} {a b : Gm} (h : SqT K G p [.str "same", u, v]) (h2 : GmAt K G u a) (h3 : GmAt K G v b) : GmAt K G (.ref p) (.same a b)
  | pick {p : Addr} {u v w : V} {a b c : Gm} (h : SqT K G p [.str "pick", u, v, w]) (h2 : GmAt K G u a) (h3 : GmAt K G v b) (h4 : GmAt K G w c) : GmAt K G (.ref p) (.pick a b c)
theorem GmAt.same' {K : PySem.W.Frag} {G G' : Hp} (e : Same G G') {v : V} {f : Gm} (h : GmAt K G v f) : GmAt K G' v f := by
  induction h with
  | is h => exact .is (same_t e h)
  | get h => exact .get (same_t e h)
  | sum h _ _ h2 h3 => exact .sum (same_t e h) h2 h3
  | same h _ _ h2 h3 => exact .same (same_t e h) h2 h3
  | pick h _ _ _ h2 h3 h4 => exact .pick (same_t e h) h2 h3 h4
theorem wd {a b : Str} {A : Prop} (h : decide (a = b) = true) (n : decide (a = b) = false := by decide +kernel) : A := by rw [n] at h; cases h
theorem we {a : Str} {A : Prop} (h : decide (a = a) = false) : A := by rw [decide_eq_true rfl] at h; cases h
/-- a dict by name at an address -/
def DkAt (H : Hp) (d : Addr) (ns : List Str) (e : Str → Int) : Prop := H d = some (.dK (dk ns e))
theorem dk_get {H : Hp} {d : Addr} {ns : List Str} {e : Str → Int} {x : Str} (h : H d = some (.dK (dk ns e))) (hx : x ∈ ns) : DGet H d (.str x) (some (.int (e x))) := by
  rw [← dk_val hx]
  exact DGet.k (k := Sum.inr x) h

section
variable {P : Program} {w : World} {K : PySem.W.Frag} {mg : Str → Option Value} {base : Heap}
theorem fn_false {P : Program} {w : World} {K : PySem.W.Frag} {mg : Str → Option Value} {base : Heap} {CX : CXT} {k : Nat} {f : Addr} {fd : FuncData} {ps : List Str} {sp : Sp} (h : ∀ vs H Q E, sp vs H Q E → False) : FnOk P w K mg base CX k f fd ps sp :=
  ⟨fun vs H Q E q => (h vs H Q E q).elim, fun A outer s H args us vs Q E hr he hb hv q => (h vs H Q E q).elim⟩
def spForm (K : PySem.W.Frag) (d : Nat) : Sp := fun vs H Q _ => ∃ (G : Hp) (M : List (Addr × HO)) (b : Addr) (o : HO) (l : Addr) (ns : List Str) (n : Int), vs = [.ref b, .ref l, .int n] ∧ Sep G ((b, o) :: M) H ∧ Bag G o ∧ G l = some (.lst (ns.map V.str)) ∧ 0 < ns.length ∧ ns.length ≤ 100 ∧ 1 ≤ n ∧ n ≤ d ∧
  ∀ (v : V) (f : Gm) (o' : HO) (G' H' : Hp), Same G G' → GmAt K G' v f → f.ok ns → f.dep ≤ n → Bag G' o' → Sep G' ((b, o') :: M) H' → Q v H'
theorem ok_form (T : Top K mg w) {k : Nat} (G_pick : FnOk P w K mg base CX0 k T.a_pick T.d_pick ["_law_bag_here", "_law_many"] spPick) (G_choice : FnOk P w K mg base CX0 k T.a_choice T.d_choice ["_law_bag_here", "_law_things"] (spChoice K)) :
    ∀ d : Nat, FnOk P w K mg base CX0 (k + 1 + d) T.a_form T.d_form ["_law_bag_here", "_law_readable", "_law_levels"] (spForm K d)
  | 0 => fn_false fun vs H Q E h => by
    obtain ⟨G, M, b, o, l, xs, n, _, _, _, _, _, _, h1, h2, _⟩ := h
    omega
  | d + 1 => by
    have G_form := ok_form T G_pick G_choice d
    refine T.F_form.ok sc_form (fun vs H Q E h => ?_) (fun cdv A outer s H vs Q E hr h => ?_)
    · obtain ⟨G, M, b, o, l, xs, n, rfl, _⟩ := h
      rfl
    · obtain ⟨G, M, b, o, l, ns, n, rfl, S, B, hl, x0, x1, n1, n2, q⟩ := h
      have hr : Room (k + 1 + d) (A.deeper (envOfC (Str.ofString "_law_form") (defScope s_form) s.heap.objs.size T.a_form cdv)) := hr
      refine ⟨_, (pss_cons (ps_set (i := 3) sc_form.nd rfl (.inl rfl) (pe_call G_pick (hr.mono (by omega)) (by rfl) T.g_pick T.F_pick.kp T.b_pick .nil pass0 (pa_cons (xv 0) (pa_cons pe_int pa_nil))))
      (pss_cons (xs_if (PW.pt (xw_or (xt_cmp op_leY (xv 2) pe_int (nomark _)) (pw_or1 (xt_cmp op_ltY (xv 3) pe_int (nomark _)))))
      (pss_cons (xs_if (PW.pt (xw_or (pt_not (xt_truK K (xv 1))) (pw_or1 (PW.pt (xw_and (xt_cmp (op_eqLK K hr.u190) (xv 3) pe_int (nomark _)) (pw_and1 (xt_cmp (op_eqLK K hr.u190) (pe_call G_pick (hr.mono (by omega)) (by rfl) T.g_pick T.F_pick.kp T.b_pick .nil pass0 (pa_cons (xv 0) (pa_cons pe_int pa_nil))) pe_int (nomark _))))))))
      (pss_one (ps_ret (pe_tup (pa_cons pe_str (pa_cons (pe_call G_pick (hr.mono (by omega)) (by rfl) T.g_pick T.F_pick.kp T.b_pick .nil pass0 (pa_cons (xv 0) (pa_cons pe_int pa_nil))) pa_nil)))))
      pss_nil)
      (pss_one (ps_ret (pe_tup (pa_cons pe_str (pa_cons (pe_call G_choice (hr.mono (by omega)) (by rfl) T.g_choice T.F_choice.kp T.b_choice .nil pass0 (pa_cons (xv 0) (pa_cons (xv 1) pa_nil))) pa_nil))))))
      pss_nil)
      (pss_cons (ps_set (i := 4) sc_form.nd rfl (.inl rfl) (pe_call G_form (hr.mono (by omega)) (by rfl) T.g_form T.F_form.kp T.b_form .nil pass0 (pa_cons (xv 0) (pa_cons (xv 1) (pa_cons (pe_op op_subY (xv 2) pe_int) pa_nil)))))
      (pss_cons (ps_set (i := 5) sc_form.nd rfl (.inl rfl) (pe_call G_form (hr.mono (by omega)) (by rfl) T.g_form T.F_form.kp T.b_form .nil pass0 (pa_cons (xv 0) (pa_cons (xv 1) (pa_cons (pe_op op_subY (xv 2) pe_int) pa_nil)))))
      (pss_cons (xs_if (xt_cmp op_ltY (xv 3) pe_int (nomark _))
      (pss_one (ps_ret (pe_tup (pa_cons (pe_ix (ix_k K) (pe_lst (pa_cons pe_str (pa_cons pe_str (pa_cons pe_str pa_nil)))) (pe_op op_subY (xv 3) pe_int) (fun _ _ => rfl)) (pa_cons (xv 4) (pa_cons (xv 5) pa_nil))))))
      pss_nil)
      (pss_one (ps_ret (pe_tup (pa_cons pe_str (pa_cons (xv 4) (pa_cons (xv 5) (pa_cons (pe_call G_form (hr.mono (by omega)) (by rfl) T.g_form T.F_form.kp T.b_form .nil pass0 (pa_cons (xv 0) (pa_cons (xv 1) (pa_cons (pe_op op_subY (xv 2) pe_int) pa_nil)))) pa_nil)))))))))))), ?_⟩
      have nml : (ns.map V.str).length = ns.length := List.length_map _
      refine ⟨G, M, b, o, 8, rfl, S, B, by decide, by decide, fun w1 o1 H1 w0 w8 B1 S1 => ?_⟩
      have isQ : ∀ o2 H2, Bag G o2 → Sep G ((b, o2) :: M) H2 → ∀ r : Int, 0 ≤ r → r < 10 → ∀ t, H2 t = none → Q (.ref t) (upd H2 t (.tup [.str "is", .int r])) := fun o2 H2 B2 S2 r r0 r1 t nt =>
        q _ (.is r) o2 _ _ (S2.grow nt) (.is (SqT.of upd_same)) ⟨r0, by omega⟩ n1 (B2.same (S2.grow nt)) (S2.newG nt)
      refine ⟨fun e1 => ⟨fun _ => ?_, tt⟩, fun e1 => ⟨fun e2 => ?_, fun e2 => ?_⟩⟩
      rotate_left 2
      · have n2' : ¬ n ≤ 1 := of_decide_eq_false e1
        have w3 : ¬ w1 < 3 := of_decide_eq_false e2
        refine ⟨G, M, b, o1, l, ns, n - 1, rfl, S1, B1, hl, x0, x1, by omega, by omega, fun v1 f1 o2 G2 H2 s2 hf1 ok1 d1 B2 S2 => ?_⟩
        refine ⟨G2, M, b, o2, l, ns, n - 1, rfl, S2, B2, s2 _ _ hl, x0, x1, by omega, by omega, fun v2 f2 o3 G3 H3 s3 hf2 ok2 d2 B3 S3 => ⟨fun e3 => ?_, fun e3 => ?_⟩⟩
        · have w6 : w1 < 6 := of_decide_eq_true e3
          refine ⟨sz, fun t0 nt0 => ?_⟩
          have S4 := S3.newG (o := .lst [.str "sum", .str "sum", .str "same"]) nt0
          have s4 := S3.grow (o := .lst [.str "sum", .str "sum", .str "same"]) nt0
          obtain rfl | rfl | rfl : w1 = 3 ∨ w1 = 4 ∨ w1 = 5 := by omega
          · refine ⟨_, _, .inl (SqL.of upd_same), rfl, sz, fun t nt => ?_⟩
            have s5 := s4.trans (S4.grow (o := .tup [.str "sum", v1, v2]) nt)
            exact q _ (.sum f1 f2) o3 _ _ (s2.trans (s3.trans s5)) (.sum (SqT.of upd_same) (hf1.same' (s3.trans s5)) (hf2.same' s5)) ⟨ok1, ok2⟩ (by simp only [Gm.dep]; omega) (B3.same s5) (S4.newG nt)
          · refine ⟨_, _, .inl (SqL.of upd_same), rfl, sz, fun t nt => ?_⟩
            have s5 := s4.trans (S4.grow (o := .tup [.str "sum", v1, v2]) nt)
            exact q _ (.sum f1 f2) o3 _ _ (s2.trans (s3.trans s5)) (.sum (SqT.of upd_same) (hf1.same' (s3.trans s5)) (hf2.same' s5)) ⟨ok1, ok2⟩ (by simp only [Gm.dep]; omega) (B3.same s5) (S4.newG nt)
          · refine ⟨_, _, .inl (SqL.of upd_same), rfl, sz, fun t nt => ?_⟩
            have s5 := s4.trans (S4.grow (o := .tup [.str "same", v1, v2]) nt)
            exact q _ (.same f1 f2) o3 _ _ (s2.trans (s3.trans s5)) (.same (SqT.of upd_same) (hf1.same' (s3.trans s5)) (hf2.same' s5)) ⟨ok1, ok2⟩ (by simp only [Gm.dep]; omega) (B3.same s5) (S4.newG nt)
        · refine ⟨G3, M, b, o3, l, ns, n - 1, rfl, S3, B3, (s2.trans s3) _ _ hl, x0, x1, by omega, by omega, fun v3 f3 o4 G4 H4 s4 hf3 ok3 d3 B4 S4 => ⟨sz, fun t nt => ?_⟩⟩
          have s5 := S4.grow (o := .tup [.str "pick", v1, v2, v3]) nt
          exact q _ (.pick f1 f2 f3) o4 _ _ (s2.trans (s3.trans (s4.trans s5))) (.pick (SqT.of upd_same) (hf1.same' (s3.trans (s4.trans s5))) (hf2.same' (s4.trans s5)) (hf3.same' s5)) ⟨ok1, ok2, ok3⟩ (by simp only [Gm.dep]; omega) (B4.same s5) (S4.newG nt)
      all_goals
        have getQ : ∀ o2 H2, Bag G o2 → Sep G ((b, o2) :: M) H2 → ∀ v, v ∈ ns.map V.str → ∀ t, H2 t = none → Q (.ref t) (upd H2 t (.tup [.str "get", v])) := fun o2 H2 B2 S2 v hv t nt => by
          obtain ⟨z, hz, rfl⟩ := List.mem_map.mp hv
          exact q _ (.get z) o2 _ _ (S2.grow nt) (.get (SqT.of upd_same)) hz n1 (B2.same (S2.grow nt)) (S2.newG nt)
        have ne : (!!(ns.map V.str).isEmpty) = false := by
          cases ns with
          | nil => simp at x0
          | cons _ _ => rfl
        refine ⟨!(ns.map V.str).isEmpty, .inl ⟨_, SqL.of (S1.st hl), rfl⟩, fun e => absurd e (by rw [ne]; decide), fun _ => ⟨fun _ => ?_, fun _ => ⟨ff, fun _ => ?_⟩⟩⟩
        · refine ⟨G, M, b, o1, 2, rfl, S1, B1, by decide, by decide, fun r2 o2 H2 _ _ B2 S2 => ⟨fun _ => ?_, fun _ => ?_⟩⟩
          · exact ⟨G, M, b, o2, 10, rfl, S2, B2, by decide, by decide, fun r3 o3 H3 r30 r31 B3 S3 => ⟨sz, fun t nt => isQ o3 H3 B3 S3 r3 r30 r31 t nt⟩⟩
          · exact ⟨G, M, b, o2, l, _, rfl, S2, B2, SqL.of hl, by omega, by omega, fun v o3 H3 hv B3 S3 => ⟨sz, fun t nt => getQ o3 H3 B3 S3 v hv t nt⟩⟩
        · exact ⟨G, M, b, o1, l, _, rfl, S1, B1, SqL.of hl, by omega, by omega, fun v o3 H3 hv B3 S3 => ⟨sz, fun t nt => getQ o3 H3 B3 S3 v hv t nt⟩⟩
def spValue (K : PySem.W.Frag) (d : Nat) : Sp := fun vs H Q _ => ∃ (v : V) (f : Gm) (a : Addr) (ns : List Str) (e : Str → Int), vs = [v, .ref a] ∧ GmAt K H v f ∧ f.ok ns ∧ f.dep ≤ d ∧ H a = some (.dK (dk ns e)) ∧ Q (.int (f.val e)) H
theorem ok_value (T : Top K mg w) : ∀ d : Nat, FnOk P w K mg base CX0 (d + 1) T.a_value T.d_value ["_law_form_here", "_law_worths"] (spValue K d)
  | 0 => fn_false fun vs H Q E h => by
    obtain ⟨v, f, a, ns, e, _, _, _, hd, _⟩ := h
    have := f.dep_pos
    omega
  | d + 1 => by
    have G_value := ok_value T d
    refine T.F_value.ok sc_value (fun vs H Q E h => ?_) (fun cdv A outer s H vs Q E hr h => ?_)
    · obtain ⟨v, f, a, ns, e, rfl, _⟩ := h
      rfl
    · obtain ⟨v, f, a, ns, e, rfl, hf, ok, hd, he, q⟩ := h
      refine ⟨_, (pss_cons (ps_set (i := 2) sc_value.nd rfl (.inl rfl) (pe_ix (ix_k K) (xv 0) pe_int (fun _ _ => rfl)))
      (pss_cons (xs_if (PW.pt (xw_or (xt_cmp (op_eqLK K hr.u190) (xv 2) pe_str (nomark _)) (pw_or1 (xt_cmp (op_eqLK K hr.u190) (xv 2) pe_str (nomark _)))))
      (pss_one (ps_ret (xe_if (xt_cmp (op_eqLK K hr.u190) (xv 2) pe_str (nomark _)) (pe_ix (ix_k K) (xv 0) pe_int (fun _ _ => rfl)) (pe_dget (hu_of hr) (xv 1) (pe_ix (ix_k K) (xv 0) pe_int (fun _ _ => rfl)) (fun _ _ => rfl)))))
      pss_nil)
      (pss_cons (ps_set (i := 3) sc_value.nd rfl (.inl rfl) (pe_call G_value (hr.mono (by omega)) (by rfl) T.g_value T.F_value.kp T.b_value .nil pass0 (pa_cons (pe_ix (ix_k K) (xv 0) pe_int (fun _ _ => rfl)) (pa_cons (xv 1) pa_nil))))
      (pss_cons (xs_if (xt_cmp (op_eqLK K hr.u190) (xv 2) pe_str (nomark _))
      (pss_one (ps_ret (pe_call G_value (hr.mono (by omega)) (by rfl) T.g_value T.F_value.kp T.b_value .nil pass0 (pa_cons (xe_if (xt_cmp (op_neLK K hr.u190) (xv 3) pe_int (nomark _)) (pe_ix (ix_k K) (xv 0) pe_int (fun _ _ => rfl)) (pe_ix (ix_k K) (xv 0) pe_int (fun _ _ => rfl))) (pa_cons (xv 1) pa_nil)))))
      pss_nil)
      (pss_cons (ps_set (i := 4) sc_value.nd rfl (.inl rfl) (pe_call G_value (hr.mono (by omega)) (by rfl) T.g_value T.F_value.kp T.b_value .nil pass0 (pa_cons (pe_ix (ix_k K) (xv 0) pe_int (fun _ _ => rfl)) (pa_cons (xv 1) pa_nil))))
      (pss_one (ps_ret (xe_if (xt_cmp (op_eqLK K hr.u190) (xv 2) pe_str (nomark _)) (pe_op op_modY (pe_callTy cr_int (by rfl) T.m_int (by decide +kernel) (pa_cons (pe_op op_addY (xv 3) (xv 4)) pa_nil)) pe_int) (pe_callTy cr_int (by rfl) T.m_int (by decide +kernel) (pa_cons (pe_cmpR (op_eqLK K hr.u190) (xv 3) (xv 4) (nomark _)) pa_nil)))))))))), ?_⟩
      cases hf with
      | is h1 => exact ⟨_, _, .inr h1, rfl, fun _ => ⟨fun _ => ⟨fun _ => ⟨_, _, .inr h1, rfl, q⟩, we⟩, tt⟩, we⟩
      | @get p x h1 =>
        exact ⟨_, _, .inr h1, rfl, fun e => wd e, fun _ => ⟨fun _ => ⟨fun e => wd e, fun _ => ⟨_, _, .inr h1, rfl, a, _, rfl, dk_get he ok, q⟩⟩, we⟩⟩
      | sum h1 h2 h3 =>
        have e1 : (Gm.sum _ _).dep ≤ d + 1 := hd
        simp only [Gm.dep] at e1
        refine ⟨_, _, .inr h1, rfl, fun e => wd e, fun _ => ⟨fun e => wd e, fun _ => ?_⟩⟩
        refine ⟨_, _, .inr h1, rfl, _, _, a, ns, e, rfl, h2, ok.1, by omega, he, fun e => wd e, fun _ => ?_⟩
        refine ⟨_, _, .inr h1, rfl, _, _, a, ns, e, rfl, h3, ok.2, by omega, he, ?_⟩
        exact ⟨fun _ => ⟨by decide, fun r hr _ _ => hr ▸ q⟩, we⟩
      | same h1 h2 h3 =>
        have e1 : (Gm.same _ _).dep ≤ d + 1 := hd
        simp only [Gm.dep] at e1
        refine ⟨_, _, .inr h1, rfl, fun e => wd e, fun _ => ⟨fun e => wd e, fun _ => ?_⟩⟩
        refine ⟨_, _, .inr h1, rfl, _, _, a, ns, e, rfl, h2, ok.1, by omega, he, fun e => wd e, fun _ => ?_⟩
        refine ⟨_, _, .inr h1, rfl, _, _, a, ns, e, rfl, h3, ok.2, by omega, he, ?_⟩
        refine ⟨fun e => wd e, fun _ => ?_⟩
        simp only [Gm.val] at q
        have e2 : ∀ x y : Int, (if decide (x = y) = true then (1 : Int) else 0) = if x = y then 1 else 0 := fun x y => by by_cases h : x = y <;> simp [h]
        rw [← e2] at q
        exact q
      | pick h1 h2 h3 h4 =>
        have e1 : (Gm.pick _ _ _).dep ≤ d + 1 := hd
        simp only [Gm.dep] at e1
        refine ⟨_, _, .inr h1, rfl, fun e => wd e, fun _ => ⟨fun e => wd e, fun _ => ?_⟩⟩
        refine ⟨_, _, .inr h1, rfl, _, _, a, ns, e, rfl, h2, ok.1, by omega, he, fun _ => ?_, we⟩
        refine ⟨fun e2 => ?_, fun e2 => ?_⟩
        · refine ⟨_, _, .inr h1, rfl, _, _, a, ns, e, rfl, h3, ok.2.1, by omega, he, ?_⟩
          simp only [Gm.val] at q
          rw [if_neg (by simpa using e2)] at q
          exact q
        · refine ⟨_, _, .inr h1, rfl, _, _, a, ns, e, rfl, h4, ok.2.2, by omega, he, ?_⟩
          simp only [Gm.val] at q
          rw [if_pos (by simpa using e2)] at q
          exact q

end
end K39
set_option Elab.async false
set_option linter.all false
set_option maxRecDepth 100000
set_option maxHeartbeats 4000000
namespace K39
open PySem PySem.Spec PyProof.Rows L2 XL
section
variable {P : Program} {w : World} {K : PySem.W.Frag} {mg : Str → Option Value} {base : Heap}
/-! ### the law's sets, settings and labels -/
def spSome (K : PySem.W.Frag) : Sp := fun vs H Q _ => ∃ (G : Hp) (M : List (Addr × HO)) (b : Addr) (o : HO) (l : Addr) (zs : List Str), vs = [.ref b, .ref l] ∧ Sep G ((b, o) :: M) H ∧ Bag G o ∧ G l = some (.lst (zs.map V.str)) ∧ zs.length ≤ 100 ∧
  ∀ (p : Addr) (ys : List Str) (o' : HO) (G' H' : Hp), Same G G' → ys.Sublist zs → G' p = some (.lst (ys.map V.str)) → Bag G' o' → Sep G' ((b, o') :: M) H' → Q (.ref p) H'
theorem ok_some (T : Top K mg w) {k : Nat} (G_pick : FnOk P w K mg base CX0 k T.a_pick T.d_pick ["_law_bag_here", "_law_many"] spPick) : FnOk P w K mg base CX0 (k + 1) T.a_some T.d_some ["_law_bag_here", "_law_things"] (spSome K) := by
  refine T.F_some.ok sc_some (fun vs H Q E h => ?_) (fun cdv A outer s H vs Q E hr h => ?_)
  · obtain ⟨G, M, b, o, l, zs, rfl, _⟩ := h
    rfl
  · obtain ⟨G, M, b, o, l, zs, rfl, S, B, hl, z1, q⟩ := h
    refine ⟨_, (pss_one (ps_ret (pe_lc (own := [("_law_thing", 2)]) (by rfl) sc_some.nd (pi_listK K (xv 1)) (blkOk_by (N := ["_law_bag_here", "_law_things", "_law_thing"]) (sc := defScope s_some) (by decide +kernel)) (fun _ _ _ _ _ => (pg_name (i := 2) sc_some.nd rfl (.inl rfl))) (fun _ _ _ _ _ => (pts_one (xt_cmp (op_eqLK K hr.u190) (pe_call G_pick (hr.mono (by omega)) (by rfl) T.g_pick T.F_pick.kp T.b_pick .nil pass0 (pa_cons (xv 0) (pa_cons pe_int pa_nil))) pe_int (nomark _)))) (fun _ _ _ _ _ => (xv 2))))), ?_⟩
    have zl : (zs.map V.str).length = zs.length := List.length_map _
    refine ⟨l, rfl, ⟨_, SqL.of (S.st hl)⟩, fun D nD => lc_list (xs := zs.map V.str) (fun i H' => ∃ (ys : List Str) (o' : HO), ys.Sublist (zs.take i) ∧ Bag G o' ∧ Sep G ((D, .lst (ys.map V.str)) :: (b, o') :: M) H') ⟨[], o, List.nil_sublist _, B, S.new nD⟩ (fun i H' _ p => ?_) (fun i y H' hy p => ⟨rfl, ?_⟩) (fun H' p => ?_)⟩
    · obtain ⟨_, _, _, _, S'⟩ := p
      exact SqL.of (S'.st hl)
    · obtain ⟨ys, o1, hs, B1, S1⟩ := p
      rw [List.getElem?_map] at hy
      obtain ⟨z, hz, rfl⟩ := Option.map_eq_some_iff.mp hy
      have il := (List.getElem?_eq_some_iff.mp hz).1
      have yl := hs.length_le
      rw [List.length_take] at yl
      refine ⟨G, _, b, o1, 2, rfl, S1.sw, B1, by decide, by decide, fun r o2 H2 r0 r1 B2 S2 => tst (fun e => ?_) (fun e => ?_)⟩
      · refine ⟨_, S2.sw.hd, by rw [List.length_map]; exact smallL (by omega), ys ++ [z], o2, ?_, B2, ?_⟩
        · rw [take_snoc hz]
          exact hs.append (List.Sublist.refl _)
        · rw [List.map_append]
          exact S2.sw.set
      · refine ⟨ys, o2, ?_, B2, S2.sw⟩
        rw [take_snoc hz]
        exact hs.trans (List.sublist_append_left _ _)
    · obtain ⟨ys, o1, hs, B1, S1⟩ := p
      rw [zl, List.take_length] at hs
      obtain ⟨G1, s1, S2, hD⟩ := Sep.keep S1
      exact q D ys o1 G1 H' s1 hs hD (B1.same s1) S2
theorem ok_sets (T : Top K mg w) {k : Nat} : FnOk P w K mg base CX0 (k + 1) T.a_sets T.d_sets ["_law_names"] (spAll K) := by
  refine T.F_sets.ok sc_sets (fun vs H Q E h => ?_) (fun cdv A outer s H vs Q E hr h => ?_)
  · obtain ⟨G, M, a, ns, rfl, _⟩ := h
    rfl
  · obtain ⟨G, M, a, ns, rfl, S, ha, ok, q⟩ := h
    refine ⟨_, (pss_cons (ps_set (i := 1) sc_sets.nd rfl (.inl rfl) (pe_lst pa_nil))
      (pss_cons (ps_for PassesOwn.never rfl (pi_listK K (pe_lst (pa_cons (pe_tup (pa_cons pe_int pa_nil)) (pa_cons (pe_tup (pa_cons pe_int pa_nil)) (pa_cons (pe_tup (pa_cons pe_int pa_nil)) (pa_cons (pe_tup (pa_cons pe_int (pa_cons pe_int pa_nil))) (pa_cons (pe_tup (pa_cons pe_int (pa_cons pe_int pa_nil))) (pa_cons (pe_tup (pa_cons pe_int (pa_cons pe_int pa_nil))) (pa_cons (pe_tup (pa_cons pe_int (pa_cons pe_int (pa_cons pe_int pa_nil)))) pa_nil))))))))) (pg_name (i := 2) sc_sets.nd rfl (.inl rfl))
      (pss_one (xs_if (xt_cmp op_ltY (pe_ix (ix_k K) (xv 2) (pe_op op_subY (pe_callB (cr_lenK K) (by rfl) T.m_len (by decide +kernel) (pa_cons (xv 2) pa_nil)) pe_int) (fun _ _ => rfl)) (pe_callB (cr_lenK K) (by rfl) T.m_len (by decide +kernel) (pa_cons (xv 0) pa_nil)) (nomark _))
      (pss_one (ps_expr (pe_bmK K PySem.F.plainAttrs_list PySem.F.slot_list_append PySem.F.type_list_append mt_append (xv 1) (pa_cons (pe_callTy (call_tupleK K) (by rfl) T.m_tuple (by decide +kernel) (pa_cons (pe_lc (own := [("_law_at", 3)]) (by rfl) sc_sets.nd (pi_tupK K (xv 2)) (blkOk_by (N := ["_law_names", "_law_out", "_law_places", "_law_at"]) (sc := defScope s_sets) (by decide +kernel)) (fun _ _ _ _ _ => (pg_name (i := 3) sc_sets.nd rfl (.inl rfl))) (fun _ _ _ _ _ => pts_nil) (fun _ _ _ _ _ => (pe_ix (ix_k K) (xv 0) (xv 3) (fun _ _ => rfl)))) pa_nil)) pa_nil))))
      pss_nil)))
      (pss_one (ps_ret (xv 1))))), ?_⟩
    have nl : (ns.map V.str).length = ns.length := List.length_map _
    have n3 := ok.hi
    refine ⟨sz, fun O nO => ?_⟩
    have S0 := S.new (o := .lst []) nO
    refine ⟨sz, fun t1 n1 => ?_⟩
    obtain ⟨G1, s1, S1, h1⟩ := Sep.mk (o := .tup [.int 0]) S0 n1
    refine ⟨sz, fun t2 n2 => ?_⟩
    obtain ⟨G2, s2, S2, h2⟩ := Sep.mk (o := .tup [.int 1]) S1 n2
    refine ⟨sz, fun t3 n3' => ?_⟩
    obtain ⟨G3, s3, S3, h3⟩ := Sep.mk (o := .tup [.int 2]) S2 n3'
    refine ⟨sz, fun t4 n4 => ?_⟩
    obtain ⟨G4, s4, S4, h4⟩ := Sep.mk (o := .tup [.int 0, .int 1]) S3 n4
    refine ⟨sz, fun t5 n5 => ?_⟩
    obtain ⟨G5, s5, S5, h5⟩ := Sep.mk (o := .tup [.int 0, .int 2]) S4 n5
    refine ⟨sz, fun t6 n6 => ?_⟩
    obtain ⟨G6, s6, S6, h6⟩ := Sep.mk (o := .tup [.int 1, .int 2]) S5 n6
    refine ⟨sz, fun t7 n7 => ?_⟩
    obtain ⟨G7, s7, S7, h7⟩ := Sep.mk (o := .tup [.int 0, .int 1, .int 2]) S6 n7
    refine ⟨sz, fun L nL => ?_⟩
    obtain ⟨G8, s8, S8, hL⟩ := Sep.mk (o := .lst [.ref t1, .ref t2, .ref t3, .ref t4, .ref t5, .ref t6, .ref t7]) S7 nL
    have s78 := s8
    have s68 := s7.trans s78
    have s58 := s6.trans s68
    have s48 := s5.trans s58
    have s38 := s4.trans s48
    have s28 := s3.trans s38
    have s18 := s2.trans s28
    have hps : Paired (PlAt K G8) [.ref t1, .ref t2, .ref t3, .ref t4, .ref t5, .ref t6, .ref t7] pss :=
      .cons ⟨t1, rfl, SqT.of (s18 _ _ h1)⟩ (.cons ⟨t2, rfl, SqT.of (s28 _ _ h2)⟩ (.cons ⟨t3, rfl, SqT.of (s38 _ _ h3)⟩ (.cons ⟨t4, rfl, SqT.of (s48 _ _ h4)⟩ (.cons ⟨t5, rfl, SqT.of (s58 _ _ h5)⟩ (.cons ⟨t6, rfl, SqT.of (s68 _ _ h6)⟩ (.cons ⟨t7, rfl, SqT.of (s78 _ _ h7)⟩ .nil))))))
    have ha8 := same_t (s1.trans s18) ha
    refine ⟨L, rfl, ⟨_, SqL.of (S8.st hL)⟩, for_list (xs := [.ref t1, .ref t2, .ref t3, .ref t4, .ref t5, .ref t6, .ref t7]) (fun i σ H' => ∃ (y2 : Option V) (ws : List V) (G' : Hp), σ = [some (.ref a), some (.ref O), y2, none] ∧ Same G8 G' ∧ DpAll K G' ws ((((pss.take i).filter fun p => decide (p.getD (p.length - 1) 0 < ns.length)).map (nmd ns)).map sD) ∧ ws.length ≤ i ∧ Sep G' ((O, .lst ws) :: M) H') ⟨_, [], G8, rfl, Same.refl _, .nil, Nat.le_refl _, S8⟩ (fun i σ H' _ h => ?_) (fun i y σ H' hy h => ?_) (fun σ H' h => ?_)⟩
    · obtain ⟨_, _, _, _, s', _, _, S'⟩ := h
      exact SqL.of (S'.st (s' _ _ hL))
    · obtain ⟨y2, ws, G9, rfl, s9, hws, wl, S9⟩ := h
      obtain ⟨r, hr', ay, rfl, hay⟩ := prd_get (pls_same s9 hps) hy
      have rm := List.mem_of_getElem? hr'
      have r0 : 0 < r.length ∧ r.length ≤ 3 := by
        have : ∀ r ∈ pss, 0 < r.length ∧ r.length ≤ 3 := by decide
        exact this r rm
      have rl : (r.map fun i => V.int ((i : Nat) : Int)).length = r.length := List.length_map _
      have il := (List.getElem?_eq_some_iff.mp hr').1
      have i7 : i < 7 := il
      have lastv : (r.map fun i => V.int ((i : Nat) : Int))[r.length - 1]? = some (.int ((r.getD (r.length - 1) 0 : Nat) : Int)) := by
        rw [List.getElem?_map, List.getD_eq_getElem?_getD, List.getElem?_eq_getElem (by omega)]
        rfl
      have hat : atI (r.map fun i => V.int ((i : Nat) : Int)) ((((r.map fun i => V.int ((i : Nat) : Int)).length : Nat) : Int) - 1) = some (.int ((r.getD (r.length - 1) 0 : Nat) : Int)) := by
        rw [rl, show ((r.length : Nat) : Int) - 1 = ((r.length - 1 : Nat) : Int) by omega]
        exact atI_nat lastv
      refine ⟨_, .inr (S9.t hay), _, _, .inr (S9.t hay), hat, _, .inr (S9.t (same_t s9 ha8)), fun e => ?_, fun e => ?_⟩
      · have e9 : r.getD (r.length - 1) 0 < ns.length := by
          have := of_decide_eq_true e
          omega
        have inc : ∀ i ∈ r, i ≤ r.getD (r.length - 1) 0 := by
          have : ∀ r ∈ pss, ∀ i ∈ r, i ≤ r.getD (r.length - 1) 0 := by decide
          exact this r rm
        refine ⟨.inl ⟨rfl, _, SqL.of S9.hd⟩, ay, rfl, ⟨_, S9.t hay⟩, fun D nD => lc_tup (xs := r.map fun i => V.int ((i : Nat) : Int)) (fun j H' => Sep G9 ((D, .lst ((nmd ns (r.take j)).map V.str)) :: (O, .lst ws) :: M) H') (S9.new nD) (fun j H' _ p => p.t hay) (fun j z H' hz p => ⟨rfl, ?_⟩) (fun H' p => ?_)⟩
        · rw [List.getElem?_map] at hz
          obtain ⟨i0, hi0, rfl⟩ := Option.map_eq_some_iff.mp hz
          have ib := inc i0 (List.mem_of_getElem? hi0)
          have jl := (List.getElem?_eq_some_iff.mp hi0).1
          have e1 : ns[i0]? = some (ns.getD i0 "") := by rw [List.getD_eq_getElem?_getD, List.getElem?_eq_getElem (by omega)]; rfl
          refine ⟨_, .str (ns.getD i0 ""), .inr (p.t (same_t s9 ha8)), atI_nat (by rw [List.getElem?_map, e1]; rfl), _, p.hd, by rw [List.length_map, nmd_len, List.length_take]; exact smallL (by omega), ?_⟩
          rw [take_snoc hi0, nmd, List.map_append, List.map_append]
          exact p.set
        · rw [rl, List.take_length] at p
          refine ⟨D, _, rfl, .inl ⟨SqL.of p.hd, fun t nt => ?_⟩⟩
          obtain ⟨Ga, sa, Sa, ht⟩ := Sep.mk (o := .tup ((nmd ns r).map V.str)) p.drop nt
          refine ⟨O, _, .ref t, rfl, rfl, Sa.hd, smallL (by omega), _, ws ++ [.ref t], Ga, rfl, s9.trans sa, ?_, by rw [List.length_append]; exact Nat.succ_le_succ wl, Sa.set⟩
          rw [take_snoc hr', List.filter_append, show ([r].filter fun p => decide (p.getD (p.length - 1) 0 < ns.length)) = [r] by simp only [List.filter]; rw [decide_eq_true e9], List.map_append, List.map_append]
          exact dpa_app (dpa_same sa hws) (dpa_one (sD_of (SqT.of ht)))
      · have e9 : ¬ r.getD (r.length - 1) 0 < ns.length := by
          have := of_decide_eq_false e
          omega
        refine ⟨_, ws, G9, rfl, s9, ?_, by omega, S9⟩
        rw [take_snoc hr', List.filter_append, show ([r].filter fun p => decide (p.getD (p.length - 1) 0 < ns.length)) = [] by simp only [List.filter]; rw [decide_eq_false e9], List.append_nil]
        exact hws
    · obtain ⟨y2, ws, G9, rfl, s9, hws, wl, S9⟩ := h
      obtain ⟨Ga, sa, Sa, hO⟩ := Sep.keep S9
      exact q O ws Ga H' (s1.trans (s18.trans (s9.trans sa))) hO (dpa_same sa hws) Sa
theorem ok_has (T : Top K mg w) {k : Nat} : FnOk P w K mg base CX0 (k + 1) T.a_has T.d_has ["_law_one", "_law_needed"] (spTouch K) := by
  refine T.F_has.ok sc_has (fun vs H Q E h => ?_) (fun cdv A outer s H vs Q E hr h => ?_)
  · obtain ⟨G, M, a, b, c, nd, rfl, _⟩ := h
    rfl
  · obtain ⟨G, M, a, b, c, nd, rfl, S, ha, hb, c1, q⟩ := h
    refine ⟨_, (pss_one (ps_ret (pe_cmpR op_gtY (pe_callB (cr_lenK K) (by rfl) T.m_len (by decide +kernel) (pa_cons (pe_lc (own := [("_law_told", 2)]) (by rfl) sc_has.nd (pi_tupK K (xv 0)) (blkOk_by (N := ["_law_one", "_law_needed", "_law_told"]) (sc := defScope s_has) (by decide +kernel)) (fun _ _ _ _ _ => (pg_name (i := 2) sc_has.nd rfl (.inl rfl))) (fun _ _ _ _ _ => (pts_one (xt_cmp (in_seqK K) (xv 2) (xv 1) (by rfl)))) (fun _ _ _ _ _ => (xv 2))) pa_nil)) pe_int (nomark _)))), ?_⟩
    have cl : (c.map V.str).length = c.length := List.length_map _
    refine ⟨a, rfl, ⟨_, S.t ha⟩, fun L nL => lc_tup (xs := c.map V.str) (fun i H' => Sep G ((L, .lst (((c.take i).filter fun x => decide (x ∈ nd)).map V.str)) :: M) H') (S.new nL) (fun i H' _ p => p.t ha) (fun i y H' hy p => ⟨rfl, ?_⟩) (fun H' p => ?_)⟩
    · rw [List.getElem?_map] at hy
      obtain ⟨x, hx, rfl⟩ := Option.map_eq_some_iff.mp hy
      have il := (List.getElem?_eq_some_iff.mp hx).1
      have ll : (((c.take i).filter fun x => decide (x ∈ nd)).map V.str).length ≤ 100 := by
        rw [List.length_map]
        refine Nat.le_trans (List.length_filter_le _ _) ?_
        rw [List.length_take]
        omega
      refine ⟨b, _, rfl, .inr (p.t hb), rfl, strs_flat _, ?_⟩
      rw [inV_str]
      refine tst (fun e => ?_) (fun e => ?_)
      · have e : decide (x ∈ nd) = true := e
        refine ⟨_, p.hd, smallL (by omega), ?_⟩
        rw [take_snoc hx, List.filter_append, List.map_append, show ([x].filter fun x => decide (x ∈ nd)) = [x] by simp only [List.filter]; rw [e]]
        exact p.set
      · have e : decide (x ∈ nd) = false := e
        rw [take_snoc hx, List.filter_append, show ([x].filter fun x => decide (x ∈ nd)) = [] by simp only [List.filter]; rw [e], List.append_nil]
        exact p
    · rw [cl, List.take_length] at p
      refine ⟨_, .inl (SqL.of p.hd), ?_⟩
      have e : decide ((0 : Int) < ((((c.filter fun x => decide (x ∈ nd)).map V.str).length : Nat) : Int)) = tch c nd := by
        rw [← tch_len, List.length_map]
        by_cases h : 0 < (c.filter fun x => decide (x ∈ nd)).length
        · rw [decide_eq_true h, decide_eq_true (by omega)]
        · rw [decide_eq_false h, decide_eq_false (by omega)]
      show Q (.bl (decide ((0 : Int) < ((((c.filter fun x => decide (x ∈ nd)).map V.str).length : Nat) : Int)))) H'
      rw [e]
      exact q _ _ (Same.refl _) p.drop

end
end K39
set_option Elab.async false
set_option linter.all false
set_option maxRecDepth 100000
set_option maxHeartbeats 4000000
namespace K39
open PySem PySem.Spec PyProof.Rows L2 XL
/-! ### settings by number -/
def posn (x : Str) : List Str → Nat
  | [] => 0
  | y :: r => if y = x then 0 else posn x r + 1
theorem posn_at {x : Str} : ∀ {ns : List Str} {i : Nat}, ns.Nodup → ns[i]? = some x → posn x ns = i
  | y :: r, 0, _, h => by
    simp at h
    rw [posn, if_pos h]
  | y :: r, i + 1, nd, h => by
    rw [List.getElem?_cons_succ] at h
    have hm := List.mem_of_getElem? h
    rw [List.nodup_cons] at nd
    rw [posn, if_neg (fun e => nd.1 (by rw [e]; exact hm)), posn_at nd.2 h]
def dg (s : Nat) (ns : List Str) (k : Nat) : Str → Int := fun x => ((k / s ^ posn x ns % s : Nat) : Int)
theorem dg_at {s k i : Nat} {ns : List Str} {x : Str} (nd : ns.Nodup) (h : ns[i]? = some x) : dg s ns k x = ((k / s ^ i % s : Nat) : Int) := by
  unfold dg
  rw [posn_at nd h]
theorem dg_lt {s k : Nat} {ns : List Str} {x : Str} (hs : 0 < s) : 0 ≤ dg s ns k x ∧ dg s ns k x < s := by
  unfold dg
  have := Nat.mod_lt (k / s ^ posn x ns) hs
  omega
/-- a label -/
def lb (e : Str → Int) (x : Str) : Str := ("text " : Str) ++ (toString (e x) : Str)
theorem lb_fit0 : ∀ n : Nat, n < 10 → ((("text " : Str) ++ (toString ((n : Nat) : Int) : Str)).length ≤ 6 ∧ (("text " : Str) ++ (toString ((n : Nat) : Int) : Str)).cps.toList.all (fun c => decide (c < 128)) = true) ∧ ((toString ((n : Nat) : Int) : Str)).length ≤ 1 := by decide +kernel
theorem lb_inj0 : ∀ m : Nat, m < 10 → ∀ n : Nat, n < 10 → (("text " : Str) ++ (toString ((m : Nat) : Int) : Str)) = ("text " : Str) ++ (toString ((n : Nat) : Int) : Str) → m = n := by decide +kernel
structure Dig (e : Str → Int) (nn : List Str) : Prop where
  dg : ∀ x ∈ nn, 0 ≤ e x ∧ e x ≤ 9
theorem lb_fit {e : Str → Int} {x : Str} (h : 0 ≤ e x ∧ e x ≤ 9) : Fit 6 0 (.str (lb e x)) ∧ (lb e x).length ≤ 6 ∧ ((toString (e x) : Str)).length ≤ 1 := by
  unfold lb
  obtain ⟨n, hn⟩ := Int.eq_ofNat_of_zero_le h.1
  rw [hn]
  obtain ⟨⟨h1, h2⟩, h3⟩ := lb_fit0 n (by omega)
  exact ⟨Fit.str (fun c hc => Nat.lt_trans (of_decide_eq_true (List.all_eq_true.mp h2 c hc)) (by decide)) h1, h1, h3⟩
theorem lb_inj {e e' : Str → Int} {x : Str} (h : 0 ≤ e x ∧ e x ≤ 9) (h' : 0 ≤ e' x ∧ e' x ≤ 9) (hl : lb e x = lb e' x) : e x = e' x := by
  unfold lb at hl
  obtain ⟨m, hm⟩ := Int.eq_ofNat_of_zero_le h.1
  obtain ⟨n, hn⟩ := Int.eq_ofNat_of_zero_le h'.1
  rw [hm, hn] at hl ⊢
  rw [lb_inj0 m (by omega) n (by omega) hl]
theorem lbs_ne {e e' : Str → Int} {nn : List Str} (h : ∀ x ∈ nn, 0 ≤ e x ∧ e x ≤ 9) (h' : ∀ x ∈ nn, 0 ≤ e' x ∧ e' x ≤ 9) : decide (nn.map (lb e) = nn.map (lb e')) = decide (∀ x ∈ nn, e x = e' x) := by
  rw [decide_eq_decide]
  constructor
  · intro hl x hx
    have := List.map_inj_left.mp hl x hx
    exact lb_inj (h x hx) (h' x hx) this
  · intro hl
    refine List.map_inj_left.mpr fun x hx => ?_
    unfold lb
    rw [hl x hx]
theorem lst_eqv (a b : List Str) : PyData.eqv (.list (a.map PyData.str)) (.list (b.map PyData.str)) = decide (a = b) := by
  rw [PyData.eqv]
  exact strs_eqv a b
theorem lst_fit {zs : List Str} {w : Nat} (h : ∀ z ∈ zs, Fit w 0 (.str z)) : (PyData.list (zs.map PyData.str)).canLay0 = true ∧ (PyData.list (zs.map PyData.str)).depth ≤ 190 := by
  have f := Fit.lsts (w := w) (dp := 0) (ds := zs.map PyData.str) fun d hd => by
    obtain ⟨z, hz, rfl⟩ := List.mem_map.mp hd
    exact h z hz
  exact ⟨f.cl, Nat.le_trans f.dp (by decide)⟩

section
variable {P : Program} {w : World} {K : PySem.W.Frag} {mg : Str → Option Value} {base : Heap}
def spComb (K : PySem.W.Frag) : Sp := fun vs H Q _ => ∃ (G : Hp) (M : List (Addr × HO)) (a : Addr) (ns : List Str) (s : Nat), vs = [.ref a, .int (s : Nat)] ∧ Sep G M H ∧ SqT K G a (ns.map V.str) ∧ NsOk ns ∧ 1 ≤ s ∧ s ≤ 3 ∧
  ∀ (l : Addr) (ds : List Addr) (G' H' : Hp), Same G G' → G' l = some (.lst (ds.map V.ref)) → ds.length = s ^ ns.length → (∀ (k : Nat) (d : Addr), ds[k]? = some d → G' d = some (.dK (dk ns (dg s ns k)))) → Sep G' M H' → Q (.ref l) H'
theorem pow_small {s n : Nat} (h1 : 1 ≤ s) (hs : s ≤ 3) (hn : n ≤ 3) : 1 ≤ s ^ n ∧ s ^ n ≤ 27 := by
  have : ∀ s : Nat, s ≤ 3 → 1 ≤ s → ∀ n : Nat, n ≤ 3 → 1 ≤ s ^ n ∧ s ^ n ≤ 27 := by decide
  exact this s hs h1 n hn
theorem ok_combinations (T : Top K mg w) {k : Nat} : FnOk P w K mg base CX0 (k + 1) T.a_combinations T.d_combinations ["_law_names", "_law_size"] (spComb K) := by
  refine T.F_combinations.ok sc_combinations (fun vs H Q E h => ?_) (fun cdv A outer s H vs Q E hr h => ?_)
  · obtain ⟨G, M, a, ns, z, rfl, _⟩ := h
    rfl
  · obtain ⟨G, M, a, ns, z, rfl, S, ha, ok, z1, z3, q⟩ := h
    refine ⟨_, (pss_cons (ps_set (i := 2) sc_combinations.nd rfl (.inl rfl) (pe_lst pa_nil))
      (pss_cons (ps_set (i := 3) sc_combinations.nd rfl (.inl rfl) pe_int)
      (pss_cons (ps_for PassesOwn.never rfl (pi_tupK K (xv 0)) (pg_name (i := 4) sc_combinations.nd rfl (.inl rfl))
      (pss_one (ps_set (i := 3) sc_combinations.nd rfl (.inl rfl) (pe_op op_mulY (xv 3) (xv 1)))))
      (pss_cons (ps_for PassesOwn.never rfl (pi_range1 (by rfl) T.m_range (pa_cons (xv 3) pa_nil)) (pg_name (i := 5) sc_combinations.nd rfl (.inl rfl))
      (pss_cons (ps_set (i := 6) sc_combinations.nd rfl (.inl rfl) (xv 5))
      (pss_cons (ps_set (i := 7) sc_combinations.nd rfl (.inl rfl) pe_dnewK)
      (pss_cons (ps_for PassesOwn.never rfl (pi_tupK K (xv 0)) (pg_name (i := 4) sc_combinations.nd rfl (.inl rfl))
      (pss_cons (ps_dput (hu_of hr) (xv 7) (xv 4) (pe_op op_modY (pe_callTy cr_int (by rfl) T.m_int (by decide +kernel) (pa_cons (xv 6) pa_nil)) (xv 1)) rfl)
      (pss_one (ps_set (i := 6) sc_combinations.nd rfl (.inl rfl) (pe_op op_divY (xv 6) (xv 1))))))
      (pss_one (ps_expr (pe_bmK K PySem.F.plainAttrs_list PySem.F.slot_list_append PySem.F.type_list_append mt_append (xv 2) (pa_cons (xv 7) pa_nil))))))))
      (pss_one (ps_ret (xv 2))))))), ?_⟩
    have nl : (ns.map V.str).length = ns.length := List.length_map _
    have n3 := ok.hi
    refine ⟨sz, fun O nO => ?_⟩
    have S0 := S.new (o := .lst []) nO
    refine ⟨a, rfl, ⟨_, S0.t ha⟩, for_tup (xs := ns.map V.str) (fun i σ H' => ∃ (y4 : Option V), σ = [some (.ref a), some (.int (z : Nat)), some (.ref O), some (.int ((z ^ i : Nat) : Int)), y4, none, none, none] ∧ Sep G ((O, .lst []) :: M) H') ⟨_, rfl, S0⟩ (fun i σ H' _ h => ?_) (fun i y σ H' hy h => ?_) (fun σ H' h => ?_)⟩
    · obtain ⟨_, _, S'⟩ := h
      exact S'.t ha
    · obtain ⟨y4, rfl, S1⟩ := h
      have il := (List.getElem?_eq_some_iff.mp hy).1
      have pw := pow_small z1 z3 (show i ≤ 3 by omega)
      refine ⟨.inl ⟨by omega, by omega⟩, some y, ?_, S1⟩
      rw [Nat.pow_succ, Int.natCast_mul]
      rfl
    · obtain ⟨y4, rfl, S1⟩ := h
      rw [nl]
      have pw := pow_small z1 z3 n3
      refine ⟨_, rfl, by omega, by omega, for_range (lo := 0) (n := (((z ^ ns.length : Nat) : Int)).toNat) (fun i σ H' => ∃ (y4 y5 y6 y7 : Option V) (ds : List Addr) (G' : Hp), σ = [some (.ref a), some (.int (z : Nat)), some (.ref O), some (.int ((z ^ ns.length : Nat) : Int)), y4, y5, y6, y7] ∧ Same G G' ∧ ds.length = i ∧ (∀ (k : Nat) (d : Addr), ds[k]? = some d → G' d = some (.dK (dk ns (dg z ns k)))) ∧ Sep G' ((O, .lst (ds.map V.ref)) :: M) H') ⟨_, _, _, _, [], G, rfl, Same.refl _, rfl, (fun k d h => by simp at h), S1⟩ (fun i σ H' hi h => ?_) (fun σ H' h => ?_)⟩
      · obtain ⟨y4, y5, y6, y7, ds, G2, rfl, s2, dl, hds, S2⟩ := h
        have i27 : i < 27 := by omega
        refine fun D nD => ?_
        have S3 := S2.new (o := .dK []) nD
        refine ⟨a, rfl, ⟨_, S3.t (same_t s2 ha)⟩, for_tup (xs := ns.map V.str) (fun j σ H' => ∃ (y4 : Option V), σ = [some (.ref a), some (.int (z : Nat)), some (.ref O), some (.int ((z ^ ns.length : Nat) : Int)), y4, some (.int (0 + (i : Nat))), some (.int ((i / z ^ j : Nat) : Int)), some (.ref D)] ∧ Sep G2 ((D, .dK (dk (ns.take j) (dg z ns i))) :: (O, .lst (ds.map V.ref)) :: M) H') ⟨_, by rw [Int.zero_add, Nat.pow_zero, Nat.div_one]; rfl, S3⟩ (fun j σ H' _ h => ?_) (fun j y σ H' hy h => ?_) (fun σ H' h => ?_)⟩
        · obtain ⟨_, _, S'⟩ := h
          exact S'.t (same_t s2 ha)
        · obtain ⟨y4, rfl, S4⟩ := h
          rw [List.getElem?_map] at hy
          obtain ⟨x, hx, rfl⟩ := Option.map_eq_some_iff.mp hy
          have jl := (List.getElem?_eq_some_iff.mp hx).1
          refine ⟨by omega, fun r er r0 r1 => ⟨D, _, rfl, DPut.k (k := Sum.inr x) S4.hd (by rw [dk_len, List.length_take]; exact smallL (by omega)), ?_⟩⟩
          refine ⟨⟨by omega, by omega⟩, fun u eu u0 => ⟨some (.str x), ?_, ?_⟩⟩
          · rw [eu, Nat.pow_succ, ← Nat.div_div_eq_div_mul, Int.natCast_ediv (i / z ^ j) z]
            rfl
          · rw [← dk_put (e := dg z ns i) ok.nd hx, dg_at ok.nd hx, Int.natCast_emod, ← er]
            exact S4.set
        · obtain ⟨y4, rfl, S4⟩ := h
          rw [nl, List.take_length] at S4
          refine ⟨.inl ⟨rfl, _, SqL.of S4.sw.hd⟩, O, _, .ref D, rfl, rfl, S4.sw.hd, by rw [List.length_map]; exact smallL (by omega), ?_⟩
          have S5 := S4.sw.set (o' := .lst (ds.map V.ref ++ [.ref D]))
          obtain ⟨G3, s3, S6, hD⟩ := Sep.keep S5.sw
          refine ⟨_, _, _, _, ds ++ [D], G3, rfl, s2.trans s3, by rw [List.length_append, dl]; rfl, fun k d hk => ?_, by rw [List.map_append]; exact S6⟩
          by_cases hk2 : k < ds.length
          · rw [List.getElem?_append_left hk2] at hk
            exact s3 _ _ (hds k d hk)
          · rw [List.getElem?_append_right (by omega)] at hk
            have := (List.getElem?_eq_some_iff.mp hk).1
            rw [List.length_singleton] at this
            have ek : k = i := by omega
            subst ek
            rw [dl, Nat.sub_self] at hk
            cases hk
            exact hD
      · obtain ⟨y4, y5, y6, y7, ds, G2, rfl, s2, dl, hds, S2⟩ := h
        obtain ⟨G3, s3, S3, hO⟩ := Sep.keep S2
        exact q O ds G3 H' (s2.trans s3) hO (by rw [dl]; omega) (fun k d hk => s3 _ _ (hds k d hk)) S3
def spLabels (K : PySem.W.Frag) : Sp := fun vs H Q _ => ∃ (G : Hp) (M : List (Addr × HO)) (v : V) (d : Addr) (nn ns : List Str) (e : Str → Int), vs = [v, .ref d] ∧ Sep G M H ∧ Dp K G v (coD nn) ∧ (∀ G' H', Same G G' → Sep G' M H' → H' d = some (.dK (dk ns e))) ∧ (∀ x ∈ nn, x ∈ ns) ∧ (∀ x ∈ nn, 0 ≤ e x ∧ e x ≤ 9) ∧ nn.length ≤ 10 ∧
  ∀ (l : Addr) (G' H' : Hp), Same G G' → G' l = some (.lst ((nn.map (lb e)).map V.str)) → Sep G' M H' → Q (.ref l) H'
theorem ok_labels (T : Top K mg w) {k : Nat} (G_value : FnOk P w K mg base CX0 k T.a_value T.d_value ["_law_form_here", "_law_worths"] (spValue K 1)) : FnOk P w K mg base CX0 (k + 1) T.a_labels T.d_labels ["_law_shape", "_law_setting"] (spLabels K) := by
  refine T.F_labels.ok sc_labels (fun vs H Q E h => ?_) (fun cdv A outer s H vs Q E hr h => ?_)
  · obtain ⟨G, M, v, d, nn, ns, e, rfl, _⟩ := h
    rfl
  · obtain ⟨G, M, v, d, nn, ns, e, rfl, S, hv, hd, hn, he, n10, q⟩ := h
    obtain ⟨a, b, us, rfl, ha, hb, hus⟩ := id (sh_at hv)
    refine ⟨_, (pss_one (ps_ret (pe_lc (own := [("_law_part", 2)]) (by rfl) sc_labels.nd (pi_tupK K (pe_ix (ix_k K) (xv 0) pe_int (fun _ _ => rfl))) (blkOk_by (N := ["_law_shape", "_law_setting", "_law_part"]) (sc := defScope s_labels) (by decide +kernel)) (fun _ _ _ _ _ => (pg_name (i := 2) sc_labels.nd rfl (.inl rfl))) (fun _ _ _ _ _ => pts_nil) (fun _ _ _ _ _ => (pe_op op_addY pe_str (pe_callTy cr_strI (by rfl) T.m_str (by decide +kernel) (pa_cons (pe_call G_value (hr.mono (by omega)) (by rfl) T.g_value T.F_value.kp T.b_value .nil pass0 (pa_cons (pe_ix (ix_k K) (xv 2) pe_int (fun _ _ => rfl)) (pa_cons (xv 1) pa_nil))) pa_nil))))))), ?_⟩
    have ul := dpa_len hus
    rw [List.length_map] at ul
    refine ⟨_, _, .inr (S.t ha), atI_nat (j := 1) rfl, b, rfl, ⟨_, S.t hb⟩, fun L nL => lc_tup (xs := us) (fun i H' => Sep G ((L, .lst (((nn.take i).map (lb e)).map V.str)) :: M) H') (S.new nL) (fun i H' _ p => p.t hb) (fun i y H' hy p => ⟨rfl, ?_⟩) (fun H' p => ?_)⟩
    · obtain ⟨dd, hdd, hyd⟩ := dpa_get hus hy
      rw [List.getElem?_map] at hdd
      obtain ⟨x, hx, rfl⟩ := Option.map_eq_some_iff.mp hdd
      obtain ⟨c, c2, rfl, hc, hc2⟩ := tx_at hyd
      have xm := List.mem_of_getElem? hx
      have il := (List.getElem?_eq_some_iff.mp hx).1
      obtain ⟨f1, f2, f3⟩ := lb_fit (he x xm)
      refine ⟨_, _, .inr (p.t hc), atI_nat (j := 1) rfl, .ref c2, .get x, d, ns, e, rfl, .get (p.t hc2), hn x xm, Nat.le_refl _, hd G H' (Same.refl _) p.drop, ?_⟩
      have lg : (e x).natAbs.log2 < 1920 := by
        have := he x xm
        have h2 : (e x).natAbs ≤ 9 := by omega
        have : (e x).natAbs.log2 ≤ (e x).natAbs := Nat.log2_le_self _
        omega
      refine ⟨lg, ?_⟩
      refine ⟨small (by have : Str.length ("text " : Str) = 5 := rfl; show Str.length ("text " : Str) + Str.length (toString (e x) : Str) ≤ 100000; omega), fun r er => ?_⟩
      refine ⟨_, p.hd, by rw [List.length_map, List.length_map, List.length_take]; exact smallL (by omega), ?_⟩
      rw [er, take_snoc hx, List.map_append, List.map_append]
      exact p.set
    · rw [ul, List.take_length] at p
      obtain ⟨G1, s1, S1, hL⟩ := Sep.keep p
      exact q L G1 H' s1 hL S1

end
end K39
set_option Elab.async false
set_option linter.all false
set_option maxRecDepth 100000
set_option maxHeartbeats 4000000
namespace K39
open PySem PySem.Spec PyProof.Rows L2 XL
section
variable {P : Program} {w : World} {K : PySem.W.Frag} {mg : Str → Option Value} {base : Heap}
/-! ### what a shape needs -/
theorem inj_lst {K : PySem.W.Frag} {G H : Hp} {M : List (Addr × HO)} (S : Sep G M H) {l : Addr} {zs : List Str} (h : G l = some (.lst (zs.map V.str))) : Dp K H (.ref l) (.list (zs.map PyData.str)) := .lst (SqL.of (S.st h)) (strs_dp zs)
def spShown (K : PySem.W.Frag) : Sp := fun vs H Q _ => ∃ (G : Hp) (M : List (Addr × HO)) (v : V) (a : Addr) (nn ns : List Str) (nd : List Str), vs = [v, .ref a] ∧ Sep G M H ∧ Dp K G v (coD nn) ∧ SqT K G a (ns.map V.str) ∧ NsOk ns ∧ nn = ns.filter (fun x => decide (x ∈ nd)) ∧
  ∀ (l : Addr) (G' H' : Hp), Same G G' → G' l = some (.lst (nn.map V.str)) → Sep G' M H' → Q (.ref l) H'
theorem ok_shown_needs (T : Top K mg w) {k : Nat} (G_combinations : FnOk P w K mg base CX0 k T.a_combinations T.d_combinations ["_law_names", "_law_size"] (spComb K)) (G_labels : FnOk P w K mg base CX0 k T.a_labels T.d_labels ["_law_shape", "_law_setting"] (spLabels K)) : FnOk P w K mg base CX0 (k + 1) T.a_shown_needs T.d_shown_needs ["_law_shape", "_law_names"] (spShown K) := by
  refine T.F_shown_needs.ok sc_shown_needs (fun vs H Q E h => ?_) (fun cdv A outer s H vs Q E hr h => ?_)
  · obtain ⟨G, M, v, a, nn, ns, nd, rfl, _⟩ := h
    rfl
  · obtain ⟨G, M, v, a, nn, ns, nd, rfl, S, hv, ha, ok, en, q⟩ := h
    refine ⟨_, (pss_cons (ps_set (i := 2) sc_shown_needs.nd rfl (.inl rfl) (pe_lst pa_nil))
      (pss_cons (ps_for PassesOwn.never rfl (pi_tupK K (xv 1)) (pg_name (i := 3) sc_shown_needs.nd rfl (.inl rfl))
      (pss_one (ps_for PassesOwn.never rfl (pi_listK K (pe_call G_combinations (hr.mono (by omega)) (by rfl) T.g_combinations T.F_combinations.kp T.b_combinations .nil pass0 (pa_cons (xv 1) (pa_cons pe_int pa_nil)))) (pg_name (i := 4) sc_shown_needs.nd rfl (.inl rfl))
      (pss_cons (ps_set (i := 5) sc_shown_needs.nd rfl (.inl rfl) (pe_callTy call_dictD (by rfl) T.m_dict (by decide +kernel) (pa_cons (xv 4) pa_nil)))
      (pss_cons (ps_dput (hu_of hr) (xv 5) (xv 3) (pe_op op_subY pe_int (pe_dget (hu_of hr) (xv 4) (xv 3) (fun _ _ => rfl))) rfl)
      (pss_one (xs_if (PW.pt (xw_and (xt_cmp (notin_seqK K) (xv 3) (xv 2) (by rfl)) (pw_and1 (xt_cmp (op_neLK K hr.u190) (pe_call G_labels (hr.mono (by omega)) (by rfl) T.g_labels T.F_labels.kp T.b_labels .nil pass0 (pa_cons (xv 0) (pa_cons (xv 4) pa_nil))) (pe_call G_labels (hr.mono (by omega)) (by rfl) T.g_labels T.F_labels.kp T.b_labels .nil pass0 (pa_cons (xv 0) (pa_cons (xv 5) pa_nil))) (nomark _)))))
      (pss_one (ps_expr (pe_bmK K PySem.F.plainAttrs_list PySem.F.slot_list_append PySem.F.type_list_append mt_append (xv 2) (pa_cons (xv 3) pa_nil))))
      pss_nil)))))))
      (pss_one (ps_ret (xv 2))))), ?_⟩
    have nl : (ns.map V.str).length = ns.length := List.length_map _
    have n3 := ok.hi
    have nn3 : nn.length ≤ 3 := by rw [en]; exact Nat.le_trans (List.length_filter_le _ _) n3
    have nsub : ∀ x ∈ nn, x ∈ ns := fun x hx => by rw [en] at hx; exact (List.mem_filter.mp hx).1
    have niff : ∀ x ∈ ns, (x ∈ nn ↔ x ∈ nd) := fun x hx => by rw [en, List.mem_filter, decide_eq_true_eq]; exact ⟨fun h => h.2, fun h => ⟨hx, h⟩⟩
    refine ⟨sz, fun O nO => ?_⟩
    have S0 := S.new (o := .lst []) nO
    refine ⟨a, rfl, ⟨_, S0.t ha⟩, for_tup (xs := ns.map V.str) (fun i σ H' => ∃ (y3 y4 y5 : Option V) (G' : Hp), σ = [some v, some (.ref a), some (.ref O), y3, y4, y5] ∧ Same G G' ∧ Sep G' ((O, .lst (((ns.take i).filter fun x => decide (x ∈ nd)).map V.str)) :: M) H') ⟨_, _, _, G, rfl, Same.refl _, S0⟩ (fun i σ H' _ h => ?_) (fun i y σ H' hy h => ?_) (fun σ H' h => ?_)⟩
    · obtain ⟨_, _, _, _, _, s', S'⟩ := h
      exact S'.t (same_t s' ha)
    · obtain ⟨y3, y4, y5, G1, rfl, s1, S1⟩ := h
      rw [List.getElem?_map] at hy
      obtain ⟨x, hx, rfl⟩ := Option.map_eq_some_iff.mp hy
      have xm := List.mem_of_getElem? hx
      have il := (List.getElem?_eq_some_iff.mp hx).1
      have xnin : x ∉ ns.take i := fun h => by
        have nd2 := ok.nd
        rw [(take_pre hx).1, List.nodup_append] at nd2
        exact nd2.2.2 _ h _ List.mem_cons_self rfl
      refine ⟨G1, _, a, ns, 2, rfl, S1, same_t s1 ha, ok, by decide, by decide, fun l ds G2 H2 s2 hl dl hds S2 => ?_⟩
      have pw := pow_small (s := 2) (by decide) (by decide) n3
      -- what is told behind some settings
      refine ⟨l, rfl, ⟨_, SqL.of (S2.st hl)⟩, for_list (xs := ds.map V.ref) (fun j σ H' => ∃ (y4 y5 : Option V) (G' : Hp), σ = [some v, some (.ref a), some (.ref O), some (.str x), y4, y5] ∧ Same G2 G' ∧ Sep G' ((O, .lst ((((ns.take i).filter fun x => decide (x ∈ nd)) ++ if 0 < j ∧ x ∈ nd then [x] else []).map V.str)) :: M) H') ⟨_, _, G2, rfl, Same.refl _, by simpa using S2⟩ (fun j σ H' _ h => ?_) (fun j y σ H' hy h => ?_) (fun σ H' h => ?_)⟩
      · obtain ⟨_, _, _, _, s', S'⟩ := h
        exact SqL.of (S'.st (s' _ _ hl))
      · obtain ⟨y4, y5, G3, rfl, s3, S3⟩ := h
        rw [List.getElem?_map] at hy
        obtain ⟨d, hd, rfl⟩ := Option.map_eq_some_iff.mp hy
        have hdd := s3 _ _ (hds j d hd)
        have ll : ((((ns.take i).filter fun x => decide (x ∈ nd)) ++ if 0 < j ∧ x ∈ nd then [x] else []).map V.str).length ≤ 4 := by
          rw [List.length_map, List.length_append]
          have h1 := List.length_filter_le (fun x => decide (x ∈ nd)) (ns.take i)
          rw [List.length_take] at h1
          split <;> simp only [List.length_cons, List.length_nil] <;> omega
        refine ⟨d, _, rfl, .inl (S3.st hdd), fun o no => ?_⟩
        have S4 := S3.new (o := .dK (dk ns (dg 2 ns j))) no
        have dgx := dg_lt (s := 2) (k := j) (ns := ns) (x := x) (by decide)
        refine ⟨d, _, rfl, dk_get (S4.st hdd) xm, ?_⟩
        refine ⟨o, _, rfl, DPut.k (k := Sum.inr x) S4.hd (by rw [dk_len]; exact smallL (by omega)), ?_⟩
        have S5 := S4.set (o' := .dK (putK (dk ns (dg 2 ns j)) (Sum.inr x) (.int (1 - dg 2 ns j x))))
        rw [dk_set xm] at S5 ⊢
        have e0 : ∀ y ∈ nn, 0 ≤ dg 2 ns j y ∧ dg 2 ns j y ≤ 9 := fun y _ => by
          have := dg_lt (s := 2) (k := j) (ns := ns) (x := y) (by decide)
          omega
        have e1 : ∀ y ∈ nn, 0 ≤ ups (dg 2 ns j) x (1 - dg 2 ns j x) y ∧ ups (dg 2 ns j) x (1 - dg 2 ns j x) y ≤ 9 := fun y hy => by
          unfold ups
          by_cases h : y = x
          · rw [if_pos h]; omega
          · rw [if_neg h]; exact e0 y hy
        have memb : (x ∈ ((ns.take i).filter fun x => decide (x ∈ nd)) ++ if 0 < j ∧ x ∈ nd then [x] else []) ↔ (0 < j ∧ x ∈ nd) := by
          rw [List.mem_append]
          constructor
          · rintro (h | h)
            · exact absurd (List.mem_filter.mp h).1 xnin
            · by_cases hc : 0 < j ∧ x ∈ nd
              · exact hc
              · rw [if_neg hc] at h
                exact nomatch h
          · intro hc
            rw [if_pos hc]
            exact .inr List.mem_cons_self
        have S6 := S5.sw
        refine ⟨O, _, rfl, .inl (SqL.of S6.hd), rfl, strs_flat _, ?_⟩
        rw [inV_str]
        have stay : (0 < j ∧ x ∈ nd ↔ x ∈ nd) → ∀ G' H', Same G3 G' → Sep G' ((O, .lst ((((ns.take i).filter fun x => decide (x ∈ nd)) ++ if 0 < j ∧ x ∈ nd then [x] else []).map V.str)) :: M) H' → ∃ (y4 y5 : Option V) (G' : Hp), ([some v, some (.ref a), some (.ref O), some (.str x), some (.ref d), some (.ref o)] : List (Option V)) = [some v, some (.ref a), some (.ref O), some (.str x), y4, y5] ∧ Same G2 G' ∧ Sep G' ((O, .lst ((((ns.take i).filter fun x => decide (x ∈ nd)) ++ if 0 < j + 1 ∧ x ∈ nd then [x] else []).map V.str)) :: M) H' := fun hc G' H' s' S' => by
          refine ⟨_, _, G', rfl, s3.trans s', ?_⟩
          have ei : (if 0 < j + 1 ∧ x ∈ nd then [x] else []) = if 0 < j ∧ x ∈ nd then [x] else [] := by
            by_cases h : 0 < j ∧ x ∈ nd
            · rw [if_pos h, if_pos ⟨by omega, h.2⟩]
            · rw [if_neg h, if_neg (fun h2 => h (hc.mpr h2.2))]
          rw [ei]
          exact S'
        refine ⟨fun e => ?_, fun e => ?_⟩
        · have hnc : ¬ (0 < j ∧ x ∈ nd) := fun h => by
            have e : (!decide (x ∈ ((ns.take i).filter fun x => decide (x ∈ nd)) ++ if 0 < j ∧ x ∈ nd then [x] else [])) = true := e
            rw [decide_eq_true (memb.mpr h)] at e
            exact nomatch e
          refine ⟨G3, _, v, d, nn, ns, dg 2 ns j, rfl, S6, dp_same (s1.trans (s2.trans s3)) hv, fun G' H' s S => S.st (s _ _ hdd), nsub, e0, by omega, fun l1 G4 H4 s4 hl1 S7 => ?_⟩
          refine ⟨G4, _, v, o, nn, ns, ups (dg 2 ns j) x (1 - dg 2 ns j x), rfl, S7, dp_same (s1.trans (s2.trans (s3.trans s4))) hv, fun G' H' s S => S.sw.hd, nsub, e1, by omega, fun l2 G5 H5 s5 hl2 S8 => ?_⟩
          obtain ⟨cl1, dp1⟩ := lst_fit (zs := nn.map (lb (dg 2 ns j))) (w := 6) fun z hz => by
            obtain ⟨y, hy, rfl⟩ := List.mem_map.mp hz
            exact (lb_fit (e0 y hy)).1
          obtain ⟨cl2, dp2⟩ := lst_fit (zs := nn.map (lb (ups (dg 2 ns j) x (1 - dg 2 ns j x)))) (w := 6) fun z hz => by
            obtain ⟨y, hy, rfl⟩ := List.mem_map.mp hz
            exact (lb_fit (e1 y hy)).1
          refine ⟨.list ((nn.map (lb (dg 2 ns j))).map PyData.str), .list ((nn.map (lb (ups (dg 2 ns j) x (1 - dg 2 ns j x)))).map PyData.str), inj_lst S8 (s5 _ _ hl1), inj_lst S8 hl2, cl1, cl2, dp1, ?_⟩
          rw [lst_eqv, lbs_ne e0 e1]
          have eqs : (∀ y ∈ nn, dg 2 ns j y = ups (dg 2 ns j) x (1 - dg 2 ns j x) y) ↔ x ∉ nd := by
            constructor
            · intro h hx2
              have := h x ((niff x xm).mpr hx2)
              rw [ups, if_pos rfl] at this
              omega
            · intro h y hy
              rw [ups, if_neg (fun e => h ((niff x xm).mp (by rw [← e]; exact hy)))]
          have s35 := s4.trans s5
          refine ⟨fun e2 => ?_, fun e2 => ?_⟩
          · have xnd : x ∈ nd := by
              refine Decidable.of_not_not fun h => ?_
              rw [decide_eq_true (eqs.mpr h)] at e2
              exact nomatch e2
            have j0 : j = 0 := by
              refine Decidable.of_not_not fun h => hnc ⟨by omega, xnd⟩
            refine ⟨.inl ⟨rfl, _, SqL.of S8.hd⟩, O, _, .str x, rfl, rfl, S8.hd, smallL (by omega), _, _, G5, rfl, s3.trans s35, ?_⟩
            have S9 := (S8.set (o' := .lst ((((ns.take i).filter fun x => decide (x ∈ nd)) ++ if 0 < j ∧ x ∈ nd then [x] else []).map V.str ++ [.str x]))).sw.drop
            have el : ((((ns.take i).filter fun x => decide (x ∈ nd)) ++ if 0 < j ∧ x ∈ nd then [x] else []).map V.str ++ [V.str x]) = (((ns.take i).filter fun x => decide (x ∈ nd)) ++ if 0 < j + 1 ∧ x ∈ nd then [x] else []).map V.str := by
              rw [if_neg hnc, if_pos ⟨by omega, xnd⟩, List.append_nil, List.map_append]
              rfl
            rw [el] at S9 ⊢
            exact S9
          · have xnd : x ∉ nd := by
              refine Decidable.of_not_not fun h => ?_
              rw [decide_eq_false (fun h2 => h (eqs.mp h2))] at e2
              exact nomatch e2
            exact stay ⟨fun h => h.2, fun h => absurd h xnd⟩ G5 _ s35 S8.sw.drop
        · have hc : 0 < j ∧ x ∈ nd := by
            refine memb.mp (Decidable.of_not_not fun h => ?_)
            have e : (!decide (x ∈ ((ns.take i).filter fun x => decide (x ∈ nd)) ++ if 0 < j ∧ x ∈ nd then [x] else [])) = false := e
            rw [decide_eq_false h] at e
            exact nomatch e
          exact ⟨ff, fun _ => stay ⟨fun h => h.2, fun _ => hc⟩ G3 _ (Same.refl _) S5.drop⟩
      · obtain ⟨y4, y5, G3, rfl, s3, S3⟩ := h
        rw [List.length_map, dl] at S3
        refine ⟨_, _, _, G3, rfl, s1.trans (s2.trans s3), ?_⟩
        have el : (((ns.take i).filter fun x => decide (x ∈ nd)) ++ if 0 < 2 ^ ns.length ∧ x ∈ nd then [x] else []) = (ns.take (i + 1)).filter fun x => decide (x ∈ nd) := by
          rw [take_snoc hx, List.filter_append]
          congr 1
          by_cases h : x ∈ nd
          · rw [if_pos ⟨by omega, h⟩]
            simp [h]
          · rw [if_neg (fun h2 => h h2.2)]
            simp [h]
        rw [el] at S3
        exact S3
    · obtain ⟨y3, y4, y5, G1, rfl, s1, S1⟩ := h
      rw [nl, List.take_length, ← en] at S1
      obtain ⟨G2, s2, S2, hO⟩ := Sep.keep S1
      exact q O G2 H' (s1.trans s2) hO S2

end
end K39
set_option Elab.async false
set_option linter.all false
set_option maxRecDepth 100000
set_option maxHeartbeats 4000000
namespace K39
open PySem PySem.Spec PyProof.Rows L2 XL
section
variable {P : Program} {w : World} {K : PySem.W.Frag} {mg : Str → Option Value} {base : Heap}
/-! ### what changes with a form -/
def dif (ns : List Str) (j k : Nat) : List Str := ns.filter fun x => decide (dg 3 ns j x ≠ dg 3 ns k x)
/-- a pair of settings with unlike values -/
def Unl (f : Gm) (ns : List Str) (j k : Nat) (c : List Str) : Prop := k < 3 ^ ns.length ∧ f.val (dg 3 ns j) ≠ f.val (dg 3 ns k) ∧ c = dif ns j k
def Chg (f : Gm) (ns : List Str) (a b : Nat) (cs : List (List Str)) : Prop := ∀ c, c ∈ cs ↔ ∃ j k, (j < a ∧ j < k ∨ j = a ∧ a < k ∧ k < b) ∧ Unl f ns j k c
theorem dif_lt {ns : List Str} (h : NsOk ns) (j k : Nat) : ∀ x ∈ dif ns j k, Lt 1 8 x := fun x hx => h.lt x (List.mem_filter.mp hx).1
def spChanging (K : PySem.W.Frag) : Sp := fun vs H Q _ => ∃ (G : Hp) (M : List (Addr × HO)) (v : V) (a : Addr) (f : Gm) (ns : List Str), vs = [v, .ref a] ∧ Sep G M H ∧ GmAt K G v f ∧ f.ok ns ∧ f.dep ≤ 5 ∧ SqT K G a (ns.map V.str) ∧ NsOk ns ∧
  ∀ (l : Addr) (us : List V) (cs : List (List Str)) (G' H' : Hp), Same G G' → G' l = some (.lst us) → DpAll K G' us (cs.map sD) → Chg f ns (3 ^ ns.length) 0 cs → cs.length ≤ 1000 → Sep G' M H' → Q (.ref l) H'
theorem ok_changing (T : Top K mg w) {k : Nat} (G_combinations : FnOk P w K mg base CX0 k T.a_combinations T.d_combinations ["_law_names", "_law_size"] (spComb K)) (G_value : FnOk P w K mg base CX0 k T.a_value T.d_value ["_law_form_here", "_law_worths"] (spValue K 5)) : FnOk P w K mg base CX0 (k + 1) T.a_changing T.d_changing ["_law_form_here", "_law_names"] (spChanging K) := by
  refine T.F_changing.ok sc_changing (fun vs H Q E h => ?_) (fun cdv A outer s H vs Q E hr h => ?_)
  · obtain ⟨G, M, v, a, f, ns, rfl, _⟩ := h
    rfl
  · obtain ⟨G, M, v, a, f, ns, rfl, S, hv, fo, fd, ha, ok, q⟩ := h
    refine ⟨_, (pss_cons (ps_set (i := 2) sc_changing.nd rfl (.inr rfl) (pe_call G_combinations (hr.mono (by omega)) (by rfl) T.g_combinations T.F_combinations.kp T.b_combinations .nil pass0 (pa_cons (xv 1) (pa_cons pe_int pa_nil))))
      (pss_cons (ps_setLc (i := 4) (own := [("_law_row", 3)]) (by rfl) sc_changing.nd rfl rfl (sw_true rfl rfl rfl (by decide +kernel)) (pi_listK K (xv 2)) (blkOk_by (N := ["_law_form_here", "_law_names", "_law_rows", "_law_row", "_law_worths", "_law_out", "_law_at", "_law_further", "_law_changed", "_law_one"]) (sc := defScope s_changing) (by decide +kernel)) (fun _ _ _ _ _ => (pg_name (i := 3) sc_changing.nd rfl (.inl rfl))) (fun _ _ _ _ _ => pts_nil) (fun _ _ _ _ _ => (pe_call G_value (hr.mono (by omega)) (by rfl) T.g_value T.F_value.kp T.b_value .nil pass0 (pa_cons (xv 0) (pa_cons (xv 3) pa_nil)))))
      (pss_cons (ps_set (i := 5) sc_changing.nd rfl (.inl rfl) (pe_lst pa_nil))
      (pss_cons (ps_for PassesOwn.never rfl (pi_enum (by rfl) T.m_enumerate (pa_cons (xv 2) pa_nil)) (pg_tupK K 2 (pgs_cons (pg_name (i := 6) sc_changing.nd rfl (.inl rfl)) (pgs_cons (pg_name (i := 3) sc_changing.nd rfl (.inr rfl)) pgs_nil)))
      (pss_one (ps_for PassesOwn.never rfl (pi_range2 (by rfl) T.m_range (pa_cons (pe_op op_addY (xv 6) pe_int) (pa_cons (pe_callB (cr_lenK K) (by rfl) T.m_len (by decide +kernel) (pa_cons (xv 2) pa_nil)) pa_nil))) (pg_name (i := 7) sc_changing.nd rfl (.inr rfl))
      (pss_one (xs_if (xt_cmp (op_neLK K hr.u190) (pe_ix (ix_k K) (xv 4) (xv 6) (fun _ _ => rfl)) (pe_ix (ix_k K) (xv 4) (xv 7) (fun _ _ => rfl)) (nomark _))
      (pss_cons (ps_set (i := 8) sc_changing.nd rfl (.inl rfl) (pe_callTy (call_tupleK K) (by rfl) T.m_tuple (by decide +kernel) (pa_cons (pe_lc (own := [("_law_one", 9)]) (by rfl) sc_changing.nd (pi_tupK K (xv 1)) (blkOk_by (N := ["_law_form_here", "_law_names", "_law_rows", "_law_row", "_law_worths", "_law_out", "_law_at", "_law_further", "_law_changed", "_law_one"]) (sc := defScope s_changing) (by decide +kernel)) (fun _ _ _ _ _ => (pg_name (i := 9) sc_changing.nd rfl (.inl rfl))) (fun _ _ _ _ _ => (pts_one (xt_cmp (op_neLK K hr.u190) (pe_dget (hu_of hr) (xv 3) (xv 9) (fun _ _ => rfl)) (pe_dget (hu_of hr) (pe_ix (ix_k K) (xv 2) (xv 7) (fun _ _ => rfl)) (xv 9) (fun _ _ => rfl)) (nomark _)))) (fun _ _ _ _ _ => (xv 9))) pa_nil)))
      (pss_one (xs_if (xt_cmp (notin_deepK K (u65 hr)) (xv 8) (xv 5) (by rfl))
      (pss_one (ps_expr (pe_bmK K PySem.F.plainAttrs_list PySem.F.slot_list_append PySem.F.type_list_append mt_append (xv 5) (pa_cons (xv 8) pa_nil))))
      pss_nil)))
      pss_nil)))))
      (pss_one (ps_ret (xv 5))))))), ?_⟩
    have nl : (ns.map V.str).length = ns.length := List.length_map _
    have n3 := ok.hi
    have pw := pow_small (s := 3) (by decide) (by decide) n3
    refine ⟨G, M, a, ns, 3, rfl, S, ha, ok, by decide, by decide, fun l ds G1 H1 s1 hl dl hds S1 => ?_⟩
    have hv1 := hv.same' s1
    have rl : (ds.map V.ref).length = 3 ^ ns.length := by rw [List.length_map]; exact dl
    -- worths
    refine ⟨l, rfl, ⟨_, SqL.of (S1.st hl)⟩, fun W nW => lc_list (xs := ds.map V.ref) (fun i H' => Sep G1 ((W, .lst (((List.range i).map fun k => f.val (dg 3 ns k)).map V.int)) :: M) H') (S1.new nW) (fun i H' _ p => SqL.of (p.st hl)) (fun i y H' hy p => ⟨rfl, ?_⟩) (fun H' p => ?_)⟩
    · rw [List.getElem?_map] at hy
      obtain ⟨d, hd, rfl⟩ := Option.map_eq_some_iff.mp hy
      have il := (List.getElem?_eq_some_iff.mp hd).1
      refine ⟨v, f, d, ns, dg 3 ns i, rfl, hv1.same' p.1, fo, fd, p.st (hds i d hd), ?_⟩
      refine ⟨_, p.hd, by rw [List.length_map, List.length_map, List.length_range]; exact smallL (by omega), ?_⟩
      rw [List.range_succ, List.map_append, List.map_append]
      exact p.set
    rw [rl] at p
    obtain ⟨G2, s2, S2, hW⟩ := Sep.keep p
    have s12 := s1.trans s2
    have hl2 := s2 _ _ hl
    have hds2 : ∀ (k : Nat) (d : Addr), ds[k]? = some d → G2 d = some (.dK (dk ns (dg 3 ns k))) := fun k d h => s2 _ _ (hds k d h)
    have wat : ∀ k, k < 3 ^ ns.length → (((List.range (3 ^ ns.length)).map fun k => f.val (dg 3 ns k)).map V.int)[k]? = some (.int (f.val (dg 3 ns k))) := fun k hk => by
      rw [List.getElem?_map, List.getElem?_map, List.getElem?_range hk]
      rfl
    refine ⟨sz, fun O nO => ?_⟩
    have S3 := S2.new (o := .lst []) nO
    refine ⟨l, _, rfl, SqL.of (S3.st hl2), for_enum (xs := ds.map V.ref) (fun pre σ H' => ∃ (y3 y6 y7 y8 : Option V) (us : List V) (cs : List (List Str)) (G' : Hp), σ = [some v, some (.ref a), some (.ref l), y3, some (.ref W), some (.ref O), y6, y7, y8, none] ∧ Same G2 G' ∧ DpAll K G' us (cs.map sD) ∧ Chg f ns pre.length 0 cs ∧ cs.length ≤ 30 * pre.length ∧ Sep G' ((O, .lst us) :: M) H') ⟨_, _, _, _, [], [], G2, rfl, Same.refl _, .nil, fun c => ⟨(fun h => nomatch h), fun ⟨j, k, h, _⟩ => by simp only [List.length_nil] at h; omega⟩, by simp, S3⟩ (fun pre σ H' h => ?_) (fun pre x post σ H' Tt e h nT => ?_) (fun σ H' h => ?_)⟩
    · obtain ⟨_, _, _, _, _, _, G', _, s', _, _, _, S'⟩ := h
      exact SqL.of (S'.st (s' _ _ hl2))
    · obtain ⟨y3, y6, y7, y8, us, cs, G3, rfl, s3, hus, hcs, cl, S4⟩ := h
      have hx : (ds.map V.ref)[pre.length]? = some x := by rw [e]; simp
      rw [List.getElem?_map] at hx
      obtain ⟨d, hd, rfl⟩ := Option.map_eq_some_iff.mp hx
      generalize hpl : pre.length = i at hd hcs cl ⊢
      have il := (List.getElem?_eq_some_iff.mp hd).1
      obtain ⟨G4, s4, S5, hT⟩ := Sep.mk (o := .tup [.int (i : Nat), .ref d]) S4 nT
      have s24 := s3.trans s4
      refine ⟨_, .inl (SqL.of (S5.st (s24 _ _ hl2))), _, _, rfl, ⟨by omega, by omega, by omega, by omega⟩, for_range (lo := (i : Nat) + 1) (n := (((ds.map V.ref).length : Nat) - ((i : Nat) + 1) : Int).toNat) (fun t σ H' => ∃ (y7 y8 : Option V) (us : List V) (cs : List (List Str)) (G' : Hp), σ = [some v, some (.ref a), some (.ref l), some (.ref d), some (.ref W), some (.ref O), some (.int (i : Nat)), y7, y8, none] ∧ Same G4 G' ∧ DpAll K G' us (cs.map sD) ∧ Chg f ns i (i + 1 + t) cs ∧ cs.length ≤ 30 * i + t ∧ Sep G' ((O, .lst us) :: M) H') ⟨_, _, us, cs, G4, rfl, Same.refl _, dpa_same s4 hus, fun c => (hcs c).trans ⟨fun ⟨j, k, h, u⟩ => ⟨j, k, by omega, u⟩, fun ⟨j, k, h, u⟩ => ⟨j, k, by omega, u⟩⟩, by omega, S5⟩ (fun t σ H' ht h => ?_) (fun σ H' h => ?_)⟩
      · obtain ⟨y7, y8, us, cs, G5, rfl, s5, hus, hcs, cl, S6⟩ := h
        have kl : i + 1 + t < 3 ^ ns.length := by omega
        have ek : ((i : Nat) : Int) + 1 + ((t : Nat) : Int) = ((i + 1 + t : Nat) : Int) := by omega
        obtain ⟨d2, hd2⟩ : ∃ d2, ds[i + 1 + t]? = some d2 := ⟨_, List.getElem?_eq_getElem (by omega)⟩
        have s25 := s24.trans s5
        have hW5 := s25 _ _ hW
        have ul := dpa_len hus
        rw [List.length_map] at ul
        have fwd : ∀ cs', (∀ c, c ∈ cs' ↔ c ∈ cs ∨ Unl f ns i (i + 1 + t) c) → Chg f ns i (i + 1 + (t + 1)) cs' := fun cs' hc c => by
          rw [hc c, hcs c]
          constructor
          · rintro (⟨j, k, h, u⟩ | h)
            · exact ⟨j, k, by omega, u⟩
            · exact ⟨i, i + 1 + t, .inr ⟨rfl, by omega, by omega⟩, h⟩
          · rintro ⟨j, k, h, u⟩
            by_cases hk : j = i ∧ k = i + 1 + t
            · obtain ⟨rfl, rfl⟩ := hk
              exact .inr u
            · exact .inl ⟨j, k, by omega, u⟩
        rw [ek]
        refine ⟨_, _, .inl (SqL.of (S6.st hW5)), atI_nat (wat i (by omega)), _, _, .inl (SqL.of (S6.st hW5)), atI_nat (wat _ kl), fun e1 => ?_, fun e1 => ?_⟩
        · have ne : f.val (dg 3 ns i) ≠ f.val (dg 3 ns (i + 1 + t)) := by simpa using e1
          refine ⟨a, rfl, ⟨_, S6.t (same_t (s12.trans s25) ha)⟩, fun L nL => lc_tup (xs := ns.map V.str) (fun m H' => Sep G5 ((L, .lst (((ns.take m).filter fun x => decide (dg 3 ns i x ≠ dg 3 ns (i + 1 + t) x)).map V.str)) :: (O, .lst us) :: M) H') (S6.new nL) (fun m H' _ p => p.t (same_t (s12.trans s25) ha)) (fun m y H' hy p => ⟨rfl, ?_⟩) (fun H' p => ?_)⟩
          · rw [List.getElem?_map] at hy
            obtain ⟨x, hx, rfl⟩ := Option.map_eq_some_iff.mp hy
            have xm := List.mem_of_getElem? hx
            have ml := (List.getElem?_eq_some_iff.mp hx).1
            have ll : (((ns.take m).filter fun x => decide (dg 3 ns i x ≠ dg 3 ns (i + 1 + t) x)).map V.str).length ≤ 3 := by
              rw [List.length_map]
              refine Nat.le_trans (List.length_filter_le _ _) ?_
              rw [List.length_take]
              omega
            refine ⟨d, _, rfl, dk_get (p.st (s25 _ _ (hds2 i d hd))) xm, _, _, .inl (SqL.of (p.st (s25 _ _ hl2))), atI_nat (by rw [List.getElem?_map, hd2]; rfl), d2, _, rfl, dk_get (p.st (s25 _ _ (hds2 _ d2 hd2))) xm, ?_⟩
            refine tst (fun e => ?_) (fun e => ?_)
            · have e : decide (dg 3 ns i x ≠ dg 3 ns (i + 1 + t) x) = true := by simpa using e
              refine ⟨_, p.hd, smallL (by omega), ?_⟩
              rw [take_snoc hx, List.filter_append, List.map_append, show ([x].filter fun x => decide (dg 3 ns i x ≠ dg 3 ns (i + 1 + t) x)) = [x] by simp only [List.filter]; rw [e]]
              exact p.set
            · have e : decide (dg 3 ns i x ≠ dg 3 ns (i + 1 + t) x) = false := by simpa using e
              rw [take_snoc hx, List.filter_append, show ([x].filter fun x => decide (dg 3 ns i x ≠ dg 3 ns (i + 1 + t) x)) = [] by simp only [List.filter]; rw [e], List.append_nil]
              exact p
          rw [nl, List.take_length] at p
          refine ⟨L, _, rfl, .inl ⟨SqL.of p.hd, fun t2 nt2 => ?_⟩⟩
          obtain ⟨G6, s6, S7, ht2⟩ := Sep.mk (o := .tup ((dif ns i (i + 1 + t)).map V.str)) p.drop nt2
          have hd2d : Dp K G6 (.ref t2) (sD (dif ns i (i + 1 + t))) := sD_of (SqT.of ht2)
          have hus6 := dpa_same s6 hus
          have clt : ∀ c ∈ cs, ∀ x ∈ c, Lt 1 8 x := fun c hc x hx => by
            obtain ⟨j, k, _, _, _, rfl⟩ := (hcs c).mp hc
            exact dif_lt ok j k x hx
          refine ⟨sD (dif ns i (i + 1 + t)), cs.map sD, dp_same S7.1 hd2d, .inl (.lst (SqL.of S7.hd) (dpa_same S7.1 hus6)), sD_shaped (dif_lt ok _ _), sDs_cl clt, ?_⟩
          rw [sD_any]
          refine ⟨fun e => ?_, fun e => ?_⟩
          · have e : (!decide (dif ns i (i + 1 + t) ∈ cs)) = true := e
            refine ⟨.inl ⟨rfl, _, SqL.of S7.hd⟩, O, _, .ref t2, rfl, rfl, S7.hd, smallL (by omega), _, _, us ++ [.ref t2], cs ++ [dif ns i (i + 1 + t)], G6, rfl, s5.trans s6, by rw [List.map_append]; exact dpa_app hus6 (dpa_one hd2d), fwd _ fun c => ?_, by rw [List.length_append]; simp only [List.length_cons, List.length_nil]; omega, S7.set⟩
            rw [List.mem_append, List.mem_singleton]
            exact ⟨fun h => h.imp id fun h => ⟨kl, ne, h⟩, fun h => h.imp id fun h => h.2.2⟩
          · have e : (!decide (dif ns i (i + 1 + t) ∈ cs)) = false := e
            have hin : dif ns i (i + 1 + t) ∈ cs := Decidable.of_not_not fun h => by
              rw [decide_eq_false h] at e
              exact nomatch e
            refine ⟨_, _, us, cs, G6, rfl, s5.trans s6, hus6, fwd _ fun c => ⟨.inl, fun h => h.elim id fun h => by rw [h.2.2]; exact hin⟩, by omega, S7⟩
        · have eq : f.val (dg 3 ns i) = f.val (dg 3 ns (i + 1 + t)) := by simpa using e1
          exact ⟨_, _, us, cs, G5, rfl, s5, hus, fwd _ fun c => ⟨.inl, fun h => h.elim id fun h => absurd eq h.2.1⟩, by omega, S6⟩
      · obtain ⟨y7, y8, us, cs, G5, rfl, s5, hus, hcs, cl, S6⟩ := h
        have et : i + 1 + (((ds.map V.ref).length : Nat) - ((i : Nat) + 1) : Int).toNat = 3 ^ ns.length := by omega
        rw [et] at hcs
        have pl : (pre ++ [V.ref d]).length = i + 1 := by rw [List.length_append, hpl]; rfl
        refine ⟨_, _, _, _, us, cs, G5, rfl, s24.trans s5, hus, ?_, ?_, S6⟩
        · rw [pl]
          intro c
          rw [hcs c]
          constructor
          · rintro ⟨j, k, h, u⟩
            exact ⟨j, k, by omega, u⟩
          · rintro ⟨j, k, h, u⟩
            have := u.1
            exact ⟨j, k, by omega, u⟩
        · rw [pl]
          omega
    · obtain ⟨y3, y6, y7, y8, us, cs, G3, rfl, s3, hus, hcs, cl, S4⟩ := h
      obtain ⟨G4, s4, S5, hO⟩ := Sep.keep S4
      rw [rl] at hcs cl
      exact q O us cs G4 H' (s12.trans (s3.trans s4)) hO (dpa_same s4 hus) hcs (by omega) S5

end
end K39
set_option Elab.async false
set_option linter.all false
set_option maxRecDepth 100000
set_option maxHeartbeats 4000000
namespace K39
open PySem PySem.Spec PyProof.Rows L2 XL
section
variable {P : Program} {w : World} {K : PySem.W.Frag} {mg : Str → Option Value} {base : Heap}
/-! ### what spoiling tells -/
theorem tx_fit {x : Str} (h : Lt 1 8 x) : Fit 62 2 (txD x) := by
  have w1 : Fit 4 0 (.str "text") := Fit.str (fun c hc => Nat.lt_trans (show c < 128 from (by have : ∀ c ∈ ("text" : Str).cps.toList, c < 128 := by decide +kernel
                                                                                              exact this c hc)) (by decide)) (by decide +kernel)
  have w2 : Fit 3 0 (.str "get") := Fit.str (fun c hc => Nat.lt_trans (show c < 128 from (by have : ∀ c ∈ ("get" : Str).cps.toList, c < 128 := by decide +kernel
                                                                                             exact this c hc)) (by decide)) (by decide +kernel)
  have i1 : Fit (2 * 9) 1 (.tuple [.str "get", .str x]) := Fit.tups (w := 8) (dp := 0) (ds := [.str "get", .str x]) fun d hd => by
    simp only [List.mem_cons, List.not_mem_nil, or_false] at hd
    rcases hd with rfl | rfl
    · exact w2.mono (by decide) (Nat.le_refl _)
    · exact Fit.name h
  exact Fit.tups (w := 30) (dp := 1) (ds := [.str "text", .tuple [.str "get", .str x]]) fun d hd => by
    simp only [List.mem_cons, List.not_mem_nil, or_false] at hd
    rcases hd with rfl | rfl
    · exact w1.mono (by decide) (by decide)
    · exact i1.mono (by decide) (Nat.le_refl _)
theorem co_fit {nn : List Str} (h : ∀ x ∈ nn, Lt 1 8 x) (hl : nn.length ≤ 3) : Fit 402 4 (coD nn) := by
  have w1 : Fit 3 0 (.str "col") := Fit.str (fun c hc => Nat.lt_trans (show c < 128 from (by have : ∀ c ∈ ("col" : Str).cps.toList, c < 128 := by decide +kernel
                                                                                             exact this c hc)) (by decide)) (by decide +kernel)
  have i1 : Fit ((nn.map txD).length * 63) 3 (.tuple (nn.map txD)) := Fit.tups (w := 62) (dp := 2) (ds := nn.map txD) fun d hd => by
    obtain ⟨x, hx, rfl⟩ := List.mem_map.mp hd
    exact tx_fit (h x hx)
  rw [List.length_map] at i1
  exact Fit.tups (w := 200) (dp := 3) (ds := [.str "col", .tuple (nn.map txD)]) fun d hd => by
    simp only [List.mem_cons, List.not_mem_nil, or_false] at hd
    rcases hd with rfl | rfl
    · exact w1.mono (by decide) (by decide)
    · exact i1.mono (by omega) (Nat.le_refl _)
def spST (K : PySem.W.Frag) : Sp := fun vs H Q _ => ∃ (G : Hp) (M : List (Addr × HO)) (t a b d1 d2 : Addr) (v : V) (ns c : List Str), vs = [.ref t, .ref a, .ref b] ∧ Sep G M H ∧ SqT K G t [v, .ref d1, .ref d2] ∧ (∀ G' H', Same G G' → Sep G' M H' → H' d1 = some (.dK (dk ns e0)) ∧ H' d2 = some (.dK (dk ns (e1 c)))) ∧ SqT K G a (ns.map V.str) ∧ SqT K G b (c.map V.str) ∧ NsOk ns ∧
  ∀ (G' H' : Hp), Same G G' → Sep G' M H' → Q (.bl true) H'
theorem ok_settings_told (T : Top K mg w) {k : Nat} (G_number : FnOk P w K mg base CX0 k T.a_number T.d_number ["_law_thing"] spNumber) : FnOk P w K mg base CX0 (k + 1) T.a_settings_told T.d_settings_told ["_law_told", "_law_names", "_law_missed"] (spST K) := by
  refine T.F_settings_told.ok sc_settings_told (fun vs H Q E h => ?_) (fun cdv A outer s H vs Q E hr h => ?_)
  · obtain ⟨G, M, t, a, b, d1, d2, v, ns, c, rfl, _⟩ := h
    rfl
  · obtain ⟨G, M, t, a, b, d1, d2, v, ns, c, rfl, S, ht, hd, ha, hb, ok, q⟩ := h
    refine ⟨_, (pss_cons (ps_for PassesOwn.never rfl (pi_listK K (pe_lst (pa_cons (pe_ix (ix_k K) (xv 0) pe_int (fun _ _ => rfl)) (pa_cons (pe_ix (ix_k K) (xv 0) pe_int (fun _ _ => rfl)) pa_nil)))) (pg_name (i := 3) sc_settings_told.nd rfl (.inl rfl))
      (pss_one (xs_if (PW.pt (xw_or (pt_not (xt_truK K (pe_callB (call_isK K) (by rfl) T.m_isinstance (by decide +kernel) (pa_cons (xv 3) (pa_cons (pe_bltn (v := .ty "dict") (by rfl) T.m_dict (by decide +kernel) rfl) pa_nil))))) (pw_or1 (xt_cmp (op_neLK K hr.u190) (pe_callTy (call_listD rfl) (by rfl) T.m_list (by decide +kernel) (pa_cons (xv 3) pa_nil)) (pe_callTy (call_listK K) (by rfl) T.m_list (by decide +kernel) (pa_cons (xv 1) pa_nil)) (nomark _)))))
      (pss_one (ps_ret pe_bl))
      pss_nil)))
      (pss_cons (ps_for PassesOwn.never rfl (pi_tupK K (xv 1)) (pg_name (i := 4) sc_settings_told.nd rfl (.inl rfl))
      (pss_cons (xs_if (PW.pt (xw_or (pt_not (xt_truK K (pe_call G_number (hr.mono (by omega)) (by rfl) T.g_number T.F_number.kp T.b_number .nil pass0 (pa_cons (pe_dget (hu_of hr) (pe_ix (ix_k K) (xv 0) pe_int (fun _ _ => rfl)) (xv 4) (fun _ _ => rfl)) pa_nil)))) (xw_or (pt_not (xt_truK K (pe_call G_number (hr.mono (by omega)) (by rfl) T.g_number T.F_number.kp T.b_number .nil pass0 (pa_cons (pe_dget (hu_of hr) (pe_ix (ix_k K) (xv 0) pe_int (fun _ _ => rfl)) (xv 4) (fun _ _ => rfl)) pa_nil)))) (pw_or1 (xt_cmp (op_neLK K hr.u190) (pe_dget (hu_of hr) (pe_ix (ix_k K) (xv 0) pe_int (fun _ _ => rfl)) (xv 4) (fun _ _ => rfl)) pe_int (nomark _))))))
      (pss_one (ps_ret pe_bl))
      pss_nil)
      (pss_one (xs_if (xt_cmp (op_neLK K hr.u190) (pe_dget (hu_of hr) (pe_ix (ix_k K) (xv 0) pe_int (fun _ _ => rfl)) (xv 4) (fun _ _ => rfl)) (xe_if (xt_cmp (in_seqK K) (xv 4) (xv 2) (by rfl)) pe_int pe_int) (nomark _))
      (pss_one (ps_ret pe_bl))
      pss_nil))))
      (pss_one (ps_ret pe_bl)))), ?_⟩
    have nl : (ns.map V.str).length = ns.length := List.length_map _
    have n3 := ok.hi
    refine ⟨_, _, .inr (S.t ht), atI_nat (j := 1) rfl, _, _, .inr (S.t ht), atI_nat (j := 2) rfl, sz, fun L nL => ?_⟩
    obtain ⟨G1, s1, S1, hL⟩ := Sep.mk (o := .lst [.ref d1, .ref d2]) S nL
    refine ⟨L, rfl, ⟨_, SqL.of (S1.st hL)⟩, for_list (xs := [.ref d1, .ref d2]) (fun i σ H' => ∃ (y3 y4 : Option V) (G' : Hp), σ = [some (.ref t), some (.ref a), some (.ref b), y3, y4] ∧ Same G1 G' ∧ Sep G' M H') ⟨_, _, G1, rfl, Same.refl _, S1⟩ (fun i σ H' _ h => ?_) (fun i y σ H' hy h => ?_) (fun σ H' h => ?_)⟩
    · obtain ⟨_, _, _, _, s', S'⟩ := h
      exact SqL.of (S'.st (s' _ _ hL))
    · obtain ⟨y3, y4, G2, rfl, s2, S2⟩ := h
      have s12 := s1.trans s2
      obtain ⟨d, e, rfl, hde⟩ : ∃ d e, y = .ref d ∧ ∀ G' H', Same G G' → Sep G' M H' → H' d = some (.dK (dk ns e)) := by
        have := List.mem_of_getElem? hy
        simp only [List.mem_cons, List.not_mem_nil, or_false] at this
        rcases this with rfl | rfl
        · exact ⟨d1, e0, rfl, fun G' H' s S => (hd G' H' s S).1⟩
        · exact ⟨d2, e1 c, rfl, fun G' H' s S => (hd G' H' s S).2⟩
      refine ⟨_, _, _, _, true, rfl, .ty _, .base (.dK (hde G2 H' s12 S2)), kit_ty (by decide +kernel), ff, fun _ => ?_⟩
      refine ⟨d, _, rfl, .inl (hde G2 H' s12 S2), fun p3 np3 => ?_⟩
      rw [dk_keys]
      obtain ⟨G3, s3, S3, hp3⟩ := Sep.mk (o := .lst (ns.map V.str)) S2 np3
      refine ⟨a, _, rfl, .inr (S3.t (same_t (s12.trans s3) ha)), fun p4 np4 => ?_⟩
      obtain ⟨G4, s4, S4, hp4⟩ := Sep.mk (o := .lst (ns.map V.str)) S3 np4
      obtain ⟨cl1, dp1⟩ := lst_fit (zs := ns) (w := 8) fun z hz => Fit.name (ok.lt z hz)
      refine ⟨.list (ns.map PyData.str), .list (ns.map PyData.str), inj_lst S4 (s4 _ _ hp3), inj_lst S4 hp4, cl1, cl1, dp1, ?_⟩
      rw [SeqAt.eqv_refl _ cl1]
      exact ⟨ff, fun _ => ⟨_, _, G4, rfl, s2.trans (s3.trans s4), S4⟩⟩
    · obtain ⟨y3, y4, G2, rfl, s2, S2⟩ := h
      have s12 := s1.trans s2
      have ha2 := same_t s12 ha
      have ht2 := same_t s12 ht
      have hb2 := same_t s12 hb
      obtain ⟨hd1, hd2⟩ := hd G2 H' s12 S2
      refine ⟨a, rfl, ⟨_, S2.t ha2⟩, for_tup (xs := ns.map V.str) (fun i σ H' => ∃ (y4 : Option V), σ = [some (.ref t), some (.ref a), some (.ref b), y3, y4] ∧ Sep G2 M H') ⟨_, rfl, S2⟩ (fun i σ H' _ h => ?_) (fun i y σ H' hy h => ?_) (fun σ H' h => ?_)⟩
      · obtain ⟨_, _, S'⟩ := h
        exact S'.t ha2
      · obtain ⟨y4, rfl, S3⟩ := h
        obtain ⟨hd1, hd2⟩ := hd G2 H' s12 S3
        rw [List.getElem?_map] at hy
        obtain ⟨x, hx, rfl⟩ := Option.map_eq_some_iff.mp hy
        have xm := List.mem_of_getElem? hx
        refine ⟨_, _, .inr (S3.t ht2), atI_nat (j := 1) rfl, d1, _, rfl, dk_get hd1 xm, _, rfl, ff, fun _ => ?_⟩
        refine ⟨_, _, .inr (S3.t ht2), atI_nat (j := 2) rfl, d2, _, rfl, dk_get hd2 xm, _, rfl, ff, fun _ => ?_⟩
        refine ⟨_, _, .inr (S3.t ht2), atI_nat (j := 1) rfl, d1, _, rfl, dk_get hd1 xm, fun e => absurd e (by simp [e0]), fun _ => ?_⟩
        refine ⟨_, _, .inr (S3.t ht2), atI_nat (j := 2) rfl, d2, _, rfl, dk_get hd2 xm, ?_⟩
        refine ⟨b, _, rfl, .inr (S3.t hb2), rfl, strs_flat _, ?_⟩
        rw [inV_str]
        refine ⟨fun e => ?_, fun e => ?_⟩
        · have e : decide (x ∈ c) = true := e
          have ev : e1 c x = 1 := if_pos (of_decide_eq_true e)
          exact ⟨fun e2 => absurd e2 (by rw [ev]; simp), fun _ => ⟨_, rfl, S3⟩⟩
        · have e : decide (x ∈ c) = false := e
          have ev : e1 c x = 0 := if_neg (of_decide_eq_false e)
          exact ⟨fun e2 => absurd e2 (by rw [ev]; simp), fun _ => ⟨_, rfl, S3⟩⟩
      · obtain ⟨y4, rfl, S3⟩ := h
        exact q G2 H' s12 S3
def spTri (K : PySem.W.Frag) : Sp := fun vs H Q _ => ∃ (G : Hp) (M : List (Addr × HO)) (t a b d1 d2 v : Addr) (u : V) (ns c nn : List Str), vs = [.ref t, .ref a, u, .ref b] ∧ Sep G M H ∧ SqT K G t [.ref v, .ref d1, .ref d2] ∧ (∀ G' H', Same G G' → Sep G' M H' → H' d1 = some (.dK (dk ns e0)) ∧ H' d2 = some (.dK (dk ns (e1 c)))) ∧ SqT K G a (ns.map V.str) ∧ SqT K G b (c.map V.str) ∧ NsOk ns ∧
  Dp K G (.ref v) (coD nn) ∧ Dp K G u (coD nn) ∧ (∀ x ∈ nn, x ∈ ns) ∧ nn.length ≤ 3 ∧ (∃ x ∈ nn, x ∈ c) ∧ ∀ (G' H' : Hp), Same G G' → Sep G' M H' → Q (.bl true) H'
theorem ok_triple (T : Top K mg w) {k : Nat} (G_settings_told : FnOk P w K mg base CX0 k T.a_settings_told T.d_settings_told ["_law_told", "_law_names", "_law_missed"] (spST K)) (G_labels : FnOk P w K mg base CX0 k T.a_labels T.d_labels ["_law_shape", "_law_setting"] (spLabels K)) : FnG P w K mg base CX0 (k + 1) T.a_triple T.d_triple ["_law_told", "_law_names", "_law_due", "_law_missed"] (spTri K) := by
  refine okG T.F_triple sc_triple (fun vs H Q E h => ?_) (fun cdv A outer s H vs Q E hr hg h => ?_)
  · obtain ⟨G, M, t, a, b, d1, d2, v, u, ns, c, nn, rfl, _⟩ := h
    rfl
  · obtain ⟨G, M, t, a, b, d1, d2, v, u, ns, c, nn, rfl, S, ht, hd, ha, hb, ok, hv, hu, hn, n3, hx, q⟩ := h
    refine ⟨_, (pss_cons (xs_if (PW.pt (xw_or (pt_not (xt_truK K (pe_callB (call_isK K) (by rfl) T.m_isinstance (by decide +kernel) (pa_cons (xv 0) (pa_cons (pe_bltn (v := .ty "tuple") (by rfl) T.m_tuple (by decide +kernel) rfl) pa_nil))))) (xw_or (xt_cmp (op_neLK K hr.u190) (pe_callB (cr_lenK K) (by rfl) T.m_len (by decide +kernel) (pa_cons (xv 0) pa_nil)) pe_int (nomark _)) (xw_or (pt_not (xt_truK K (pe_callB (call_isK K) (by rfl) T.m_isinstance (by decide +kernel) (pa_cons (pe_ix (ix_k K) (xv 0) pe_int (fun _ _ => rfl)) (pa_cons (pe_bltn (v := .ty "tuple") (by rfl) T.m_tuple (by decide +kernel) rfl) pa_nil))))) (pw_or1 (xt_cmp (op_neLK K hr.u190) (pe_ix (ix_k K) (xv 0) pe_int (fun _ _ => rfl)) (xv 2) (nomark _)))))))
      (pss_one (ps_ret pe_bl))
      pss_nil)
      (pss_cons (xs_if (PW.pt (xw_or (xt_cmp (op_neLK K hr.u190) (pe_callB (call_reprG K hg (u70 hr)) (by rfl) T.m_repr (by decide +kernel) (pa_cons (pe_ix (ix_k K) (xv 0) pe_int (fun _ _ => rfl)) pa_nil)) (pe_callB (call_reprG K hg (u70 hr)) (by rfl) T.m_repr (by decide +kernel) (pa_cons (xv 2) pa_nil)) (nomark _)) (pw_or1 (pt_not (xt_truK K (pe_call G_settings_told (hr.mono (by omega)) (by rfl) T.g_settings_told T.F_settings_told.kp T.b_settings_told .nil pass0 (pa_cons (xv 0) (pa_cons (xv 1) (pa_cons (xv 3) pa_nil)))))))))
      (pss_one (ps_ret pe_bl))
      pss_nil)
      (pss_one (ps_ret (pe_cmpR (op_neLK K hr.u190) (pe_call G_labels (hr.mono (by omega)) (by rfl) T.g_labels T.F_labels.kp T.b_labels .nil pass0 (pa_cons (pe_ix (ix_k K) (xv 0) pe_int (fun _ _ => rfl)) (pa_cons (pe_ix (ix_k K) (xv 0) pe_int (fun _ _ => rfl)) pa_nil))) (pe_call G_labels (hr.mono (by omega)) (by rfl) T.g_labels T.F_labels.kp T.b_labels .nil pass0 (pa_cons (pe_ix (ix_k K) (xv 0) pe_int (fun _ _ => rfl)) (pa_cons (pe_ix (ix_k K) (xv 0) pe_int (fun _ _ => rfl)) pa_nil))) (nomark _)))))), ?_⟩
    have fit := co_fit (fun x hx => ok.lt x (hn x hx)) n3
    have shw := fit.shw (by decide) (by decide)
    obtain ⟨va, vb, vus, evr, hva, _, _⟩ := sh_at hv
    cases evr
    obtain ⟨ua, ub, uus, rfl, hua, _, _⟩ := id (sh_at hu)
    have ht' := S.t ht
    have t0 : atI [V.ref v, .ref d1, .ref d2] 0 = some (.ref v) := atI_nat (j := 0) rfl
    refine ⟨_, _, _, _, true, rfl, .ty _, sqT_ty ht', kit_ty (by decide +kernel), ff, fun _ => ?_⟩
    refine ⟨_, .inr ht', fun e => absurd e (by simp), fun _ => ?_⟩
    refine ⟨_, _, .inr ht', t0, _, _, _, _, true, rfl, .ty _, sqT_ty (S.t hva), kit_ty (by decide +kernel), ff, fun _ => ?_⟩
    refine ⟨_, _, .inr ht', t0, coD nn, coD nn, dp_same S.1 hv, dp_same S.1 hu, fit.cl, fit.cl, Nat.le_trans fit.dp (by decide), ?_⟩
    rw [fit.self]
    refine ⟨ff, fun _ => ?_⟩
    refine ⟨_, _, .inr ht', t0, _, coD nn, rfl, dp_same S.1 hv, shw.sh, shw.nd, shw.dp, shw.ln, _, coD nn, rfl, dp_same S.1 hu, shw.sh, shw.nd, shw.dp, shw.ln, ?_⟩
    refine ⟨fun e => absurd e (by simp), fun _ => ?_⟩
    refine ⟨G, M, t, a, b, d1, d2, .ref v, ns, c, rfl, S, ht, hd, ha, hb, ok, fun G1 H1 s1 S1 => ⟨ff, fun _ => ?_⟩⟩
    have e0d : ∀ x ∈ nn, 0 ≤ e0 x ∧ e0 x ≤ 9 := fun x _ => by unfold e0; exact ⟨Int.le_refl _, by decide⟩
    have e1d : ∀ x ∈ nn, 0 ≤ e1 c x ∧ e1 c x ≤ 9 := fun x _ => by unfold e1; split <;> decide
    refine ⟨_, _, .inr (S1.t (same_t s1 ht)), t0, _, _, .inr (S1.t (same_t s1 ht)), atI_nat (j := 1) rfl, G1, M, .ref v, d1, nn, ns, e0, rfl, S1, dp_same s1 hv, fun G' H' s S => (hd G' H' (s1.trans s) S).1, hn, e0d, by omega, fun l1 G2 H2 s2 hl1 S2 => ?_⟩
    have s12 := s1.trans s2
    refine ⟨_, _, .inr (S2.t (same_t s12 ht)), t0, _, _, .inr (S2.t (same_t s12 ht)), atI_nat (j := 2) rfl, G2, M, .ref v, d2, nn, ns, e1 c, rfl, S2, dp_same s12 hv, fun G' H' s S => (hd G' H' (s12.trans s) S).2, hn, e1d, by omega, fun l2 G3 H3 s3 hl2 S3 => ?_⟩
    obtain ⟨cl1, dp1⟩ := lst_fit (zs := nn.map (lb e0)) (w := 6) fun z hz => by
      obtain ⟨y, hy, rfl⟩ := List.mem_map.mp hz
      exact (lb_fit (e0d y hy)).1
    obtain ⟨cl2, dp2⟩ := lst_fit (zs := nn.map (lb (e1 c))) (w := 6) fun z hz => by
      obtain ⟨y, hy, rfl⟩ := List.mem_map.mp hz
      exact (lb_fit (e1d y hy)).1
    refine ⟨.list ((nn.map (lb e0)).map PyData.str), .list ((nn.map (lb (e1 c))).map PyData.str), inj_lst S3 (s3 _ _ hl1), inj_lst S3 hl2, cl1, cl2, dp1, ?_⟩
    rw [lst_eqv, lbs_ne e0d e1d, decide_eq_false (fun h => by
      obtain ⟨x, h1, h2⟩ := hx
      have := h x h1
      rw [e1, if_pos h2] at this
      exact absurd this (by simp [e0]))]
    exact q G3 H3 (s12.trans s3) S3

end
end K39
set_option Elab.async false
set_option linter.all false
set_option maxRecDepth 100000
set_option maxHeartbeats 4000000
namespace K39
open PySem PySem.Spec PyProof.Rows L2 XL
section
variable {P : Program} {w : World} {K : PySem.W.Frag} {mg : Str → Option Value} {base : Heap}
/-! ### a lot of schedules -/
theorem find_congr {α : Type} {p q : α → Bool} : ∀ {l : List α}, (∀ x ∈ l, p x = q x) → l.find? p = l.find? q
  | [], _ => rfl
  | x :: l, h => by
    rw [List.find?_cons, List.find?_cons, h x List.mem_cons_self, find_congr fun y hy => h y (List.mem_cons_of_mem _ hy)]
theorem shr_nat (i j : Nat) : ((0 : Int) + ((i : Nat) : Int)) / 2 ^ j = ((i / 2 ^ j : Nat) : Int) := by
  rw [Int.zero_add, Int.natCast_ediv, Int.natCast_pow]
  rfl
def msd (ns : List Str) (ch : List (List Str)) (nd : List Str) (i : Nat) : List (List Str) := ((sets ns).take i).filter fun c => !decide (c ∈ ch) && tch c nd
theorem mis_none {ns : List Str} {ch : List (List Str)} {nd : List Str} (h : mis ns ch nd = none) : ∀ c ∈ sets ns, tch c nd = true → c ∈ ch := fun c hc ht => by
  have := List.find?_eq_none.mp h c hc
  rw [ht, Bool.true_and] at this
  have : c ∈ scs ns ch := by simpa using this
  exact (scs_mem.mp this).2
theorem mis_msd {ns : List Str} {ch : List (List Str)} {nd : List Str} : mis ns ch nd = (msd ns ch nd (sets ns).length).head? := by
  unfold mis msd
  rw [List.take_length, List.head?_filter]
  refine find_congr fun c hc => ?_
  rw [Bool.and_comm]
  congr 2
  rw [Bool.eq_iff_iff, decide_eq_true_eq, decide_eq_true_eq, scs_mem]
  exact ⟨fun h => h.2, fun h => ⟨hc, h⟩⟩
theorem mis_st {ns : List Str} {ch : List (List Str)} {nd : List Str} {st : Str} (h : NsOk ns) (hs : st ∉ ns) : mis ns ch (st :: nd) = mis ns ch nd := by
  unfold mis
  refine find_congr fun c hc => ?_
  congr 1
  unfold tch
  have hm : ∀ x ∈ c, (x ∈ st :: nd ↔ x ∈ nd) := fun x hx => by
    have : x ≠ st := fun e => hs (by rw [← e]; exact set_mem h hc x hx)
    simp [this]
  rw [Bool.eq_iff_iff, List.any_eq_true, List.any_eq_true]
  exact ⟨fun ⟨x, h1, h2⟩ => ⟨x, h1, decide_eq_true ((hm x h1).mp (of_decide_eq_true h2))⟩, fun ⟨x, h1, h2⟩ => ⟨x, h1, decide_eq_true ((hm x h1).mpr (of_decide_eq_true h2))⟩⟩
theorem fil_st {ns nd : List Str} {st : Str} (hs : st ∉ ns) : (ns.filter fun x => decide (x ∈ st :: nd)) = ns.filter fun x => decide (x ∈ nd) := by
  refine List.filter_congr fun x hx => ?_
  have : x ≠ st := fun e => hs (by rw [← e]; exact hx)
  rw [Bool.eq_iff_iff, decide_eq_true_eq, decide_eq_true_eq]
  simp [this]
theorem le_msd {ns : List Str} {ch : List (List Str)} {nd : List Str} : ((scs ns ((sets ns).filter fun c => tch c nd)).all fun c => decide (c ∈ scs ns ch)) = (msd ns ch nd (sets ns).length).isEmpty := by
  rw [Bool.eq_iff_iff, List.all_eq_true, List.isEmpty_iff]
  unfold msd
  rw [List.take_length, List.filter_eq_nil_iff]
  constructor
  · intro h c hc e
    rw [Bool.and_eq_true] at e
    have m : c ∈ scs ns ((sets ns).filter fun c => tch c nd) := scs_mem.mpr ⟨hc, List.mem_filter.mpr ⟨hc, e.2⟩⟩
    have := (scs_mem.mp (of_decide_eq_true (h c m))).2
    rw [decide_eq_true this] at e
    exact nomatch e.1
  · intro h c hc
    have ⟨m1, m2⟩ := scs_mem.mp hc
    refine decide_eq_true (scs_mem.mpr ⟨m1, Decidable.of_not_not fun hn => h c m1 ?_⟩)
    rw [decide_eq_false hn, (List.mem_filter.mp m2).2]
    rfl
def spLot (K : PySem.W.Frag) : Sp := fun vs H Q _ => ∃ (G : Hp) (M : List (Addr × HO)) (a b l : Addr) (st : Str) (ns nd : List Str) (us : List V) (cs : List (List Str)), vs = [.ref a, .ref b, .str st, .ref l] ∧ Sep G M H ∧ SqT K G a (ns.map V.str) ∧ NsOk ns ∧ SqT K G b (nd.map V.str) ∧ nd.length ≤ 100 ∧ st ∉ ns ∧
  G l = some (.lst us) ∧ DpAll K G us (cs.map sD) ∧ (∀ c ∈ cs, c ∈ sets ns ∧ tch c nd = true) ∧ ∀ (G' H' : Hp), Same G G' → Sep G' M H' → Q (.bl true) H'
theorem ok_lot (T : Top K mg w) {k : Nat} (G_sets : FnOk P w K mg base CX0 k T.a_sets T.d_sets ["_law_names"] (spAll K)) (G_shown_needs : FnOk P w K mg base CX0 k T.a_shown_needs T.d_shown_needs ["_law_shape", "_law_names"] (spShown K)) (G_Schedule_least : FnOk P w K mg base CX0 k T.a_Schedule_least T.d_Schedule_least ["names", "needs"] (spLeast K T.C_Schedule))
    (G_Schedule_init : FnOk P w K mg base CX0 k T.a_Schedule_init T.d_Schedule_init ["self", "names", "sets"] (spSInit K T.C_Schedule)) (G_has : FnOk P w K mg base CX0 k T.a_has T.d_has ["_law_one", "_law_needed"] (spTouch K)) (G_spoiling : FnOk P w K mg base CX0 k T.a_spoiling T.d_spoiling ["schedule", "needs"] (spSpoil K T.C_Schedule))
    (G_Schedule_le : FnOk P w K mg base CX0 k T.a_Schedule_le T.d_Schedule_le ["self", "other"] (spSLe K T.C_Schedule)) (G_triple : FnG P w K mg base CX0 k T.a_triple T.d_triple ["_law_told", "_law_names", "_law_due", "_law_missed"] (spTri K)) : FnG P w K mg base CX0 (k + 2) T.a_lot T.d_lot ["_law_names", "_law_needed", "_law_strange", "_law_changing_here"] (spLot K) := by
  refine okG T.F_lot sc_lot (fun vs H Q E h => ?_) (fun cdv A outer s H vs Q E hr hg h => ?_)
  · obtain ⟨G, M, a, b, l, st, ns, nd, us, cs, rfl, _⟩ := h
    rfl
  · obtain ⟨G, M, a, b, l, st, ns, nd, us, cs, rfl, S, ha, ok, hb, nd1, hst, hl, hus, hcs, q⟩ := h
    refine ⟨_, (pss_cons (ps_set (i := 4) sc_lot.nd rfl (.inr rfl) (pe_call G_sets (hr.mono (by omega)) (by rfl) T.g_sets T.F_sets.kp T.b_sets .nil pass0 (pa_cons (xv 0) pa_nil)))
      (pss_cons (ps_set (i := 6) sc_lot.nd rfl (.inl rfl) (pe_tup (pa_cons pe_str (pa_cons (pe_callTy (call_tupleK K) (by rfl) T.m_tuple (by decide +kernel) (pa_cons (pe_lc (own := [("_law_one", 5)]) (by rfl) sc_lot.nd (pi_tupK K (xv 0)) (blkOk_by (N := ["_law_names", "_law_needed", "_law_strange", "_law_changing_here", "_law_every", "_law_one", "_law_due", "_law_least", "_law_most", "_law_number_here", "_law_chosen", "_law_schedule", "_law_missed", "_law_told", "_law_at"]) (sc := defScope s_lot) (by decide +kernel)) (fun _ _ _ _ _ => (pg_name (i := 5) sc_lot.nd rfl (.inl rfl))) (fun _ _ _ _ _ => (pts_one (xt_cmp (in_seqK K) (xv 5) (xv 1) (by rfl)))) (fun _ _ _ _ _ => (pe_tup (pa_cons pe_str (pa_cons (pe_tup (pa_cons pe_str (pa_cons (xv 5) pa_nil))) pa_nil))))) pa_nil)) pa_nil))))
      (pss_cons (xs_if (xt_cmp (op_neLK K hr.u190) (pe_call G_shown_needs (hr.mono (by omega)) (by rfl) T.g_shown_needs T.F_shown_needs.kp T.b_shown_needs .nil pass0 (pa_cons (xv 6) (pa_cons (xv 0) pa_nil))) (pe_lc (own := [("_law_one", 5)]) (by rfl) sc_lot.nd (pi_tupK K (xv 0)) (blkOk_by (N := ["_law_names", "_law_needed", "_law_strange", "_law_changing_here", "_law_every", "_law_one", "_law_due", "_law_least", "_law_most", "_law_number_here", "_law_chosen", "_law_schedule", "_law_missed", "_law_told", "_law_at"]) (sc := defScope s_lot) (by decide +kernel)) (fun _ _ _ _ _ => (pg_name (i := 5) sc_lot.nd rfl (.inl rfl))) (fun _ _ _ _ _ => (pts_one (xt_cmp (in_seqK K) (xv 5) (xv 1) (by rfl)))) (fun _ _ _ _ _ => (xv 5))) (nomark _))
      (pss_one (ps_ret pe_bl))
      pss_nil)
      (pss_cons (ps_set (i := 7) sc_lot.nd rfl (.inl rfl) (pe_smeth (pe_glob (v := .ref T.C_Schedule) (by rfl) T.g_Schedule rfl) T.cr_Schedule T.sm_Schedule_least G_Schedule_least (hr.mono (by omega)) T.b_Schedule_least pass0 (pa_cons (xv 0) (pa_cons (xv 1) pa_nil))))
      (pss_cons (ps_set (i := 8) sc_lot.nd rfl (.inl rfl) pe_int)
      (pss_cons (ps_for PassesOwn.never rfl (pi_listK K (xv 4)) (pg_name (i := 5) sc_lot.nd rfl (.inl rfl))
      (pss_one (ps_set (i := 8) sc_lot.nd rfl (.inl rfl) (pe_op op_addY (xv 8) (xv 8)))))
      (pss_cons (ps_for PassesOwn.never rfl (pi_range1 (by rfl) T.m_range (pa_cons (xv 8) pa_nil)) (pg_name (i := 9) sc_lot.nd rfl (.inr rfl))
      (pss_cons (ps_set (i := 10) sc_lot.nd rfl (.inr rfl) (pe_lc (own := [("_law_at", 14)]) (by rfl) sc_lot.nd (pi_range1 (by rfl) T.m_range (pa_cons (pe_callB (cr_lenK K) (by rfl) T.m_len (by decide +kernel) (pa_cons (xv 4) pa_nil)) pa_nil)) (blkOk_by (N := ["_law_names", "_law_needed", "_law_strange", "_law_changing_here", "_law_every", "_law_one", "_law_due", "_law_least", "_law_most", "_law_number_here", "_law_chosen", "_law_schedule", "_law_missed", "_law_told", "_law_at"]) (sc := defScope s_lot) (by decide +kernel)) (fun _ _ _ _ _ => (pg_name (i := 14) sc_lot.nd rfl (.inl rfl))) (fun _ _ _ _ _ => (pts_one (xt_cmp (op_eqLK K hr.u190) (pe_op op_odd (pe_op op_shrN (xv 9) (xv 14)) pe_int) pe_int (nomark _)))) (fun _ _ _ _ _ => (pe_ix (ix_k K) (xv 4) (xv 14) (fun _ _ => rfl)))))
      (pss_cons (ps_set (i := 11) sc_lot.nd rfl (.inl rfl) (pe_make T.mk_Schedule G_Schedule_init (hr.mono (by omega)) (by rfl) T.g_Schedule T.b_Schedule_init .nil pass0 (pa_cons (xv 0) (pa_cons (pe_callTy (call_listK K) (by rfl) T.m_list (by decide +kernel) (pa_cons (xv 10) pa_nil)) pa_nil))))
      (pss_cons (ps_setLc (i := 12) (own := [("_law_one", 5)]) (by rfl) sc_lot.nd rfl rfl (sw_true rfl rfl rfl (by decide +kernel)) (pi_listK K (xv 4)) (blkOk_by (N := ["_law_names", "_law_needed", "_law_strange", "_law_changing_here", "_law_every", "_law_one", "_law_due", "_law_least", "_law_most", "_law_number_here", "_law_chosen", "_law_schedule", "_law_missed", "_law_told", "_law_at"]) (sc := defScope s_lot) (by decide +kernel)) (fun _ _ _ _ _ => (pg_name (i := 5) sc_lot.nd rfl (.inl rfl))) (fun _ _ _ _ _ => (pts_one (PW.pt (xw_and (xt_cmp (notin_deepK K (u65 hr)) (xv 5) (xv 10) (by rfl)) (pw_and1 (xt_truK K (pe_call G_has (hr.mono (by omega)) (by rfl) T.g_has T.F_has.kp T.b_has .nil pass0 (pa_cons (xv 5) (pa_cons (xv 1) pa_nil))))))))) (fun _ _ _ _ _ => (xv 5)))
      (pss_cons (ps_set (i := 13) sc_lot.nd rfl (.inl rfl) (pe_call G_spoiling (hr.mono (by omega)) (by rfl) T.g_spoiling T.F_spoiling.kp T.b_spoiling .nil pass0 (pa_cons (xv 11) (pa_cons (xv 1) pa_nil))))
      (pss_cons (xs_if (xt_cmp (op_neLK K hr.u190) (pe_cmpR (op_own rfl G_Schedule_le T.sp_Schedule_le.1 T.sp_Schedule_le.2 T.b_Schedule_le pass0 (hr.mono (by omega))) (xv 7) (xv 11) (nomark _)) (pe_notT (xv 12)) (nomark _))
      (pss_one (ps_ret pe_bl))
      pss_nil)
      (pss_one (xs_if (pt_not (xt_truK K (xv 12)))
      (pss_one (xs_if (PW.pt (xw_or (xt_cmp op_notN (xv 13) pe_non (nomark _)) (pw_or1 (xt_truK K (pe_lc (own := [("_law_one", 5)]) (by rfl) sc_lot.nd (pi_listK K (xv 3)) (blkOk_by (N := ["_law_names", "_law_needed", "_law_strange", "_law_changing_here", "_law_every", "_law_one", "_law_due", "_law_least", "_law_most", "_law_number_here", "_law_chosen", "_law_schedule", "_law_missed", "_law_told", "_law_at"]) (sc := defScope s_lot) (by decide +kernel)) (fun _ _ _ _ _ => (pg_name (i := 5) sc_lot.nd rfl (.inl rfl))) (fun _ _ _ _ _ => (pts_one (xt_cmp (notin_deepK K (u65 hr)) (xv 5) (xv 10) (by rfl)))) (fun _ _ _ _ _ => (xv 5)))))))
      (pss_one (ps_ret pe_bl))
      pss_nil))
      (pss_one (xs_if (pt_not (xt_truK K (pe_callG G_triple (hr.mono (by omega)) hg (by rfl) T.g_triple T.F_triple.kp T.b_triple pass0 (pa_cons (xv 13) (pa_cons (xv 0) (pa_cons (xv 6) (pa_cons (pe_ix (ix_k K) (xv 12) pe_int (fun _ _ => rfl)) pa_nil)))))))
      (pss_one (ps_ret pe_bl))
      (pss_one (xs_if (xt_cmp (op_eqLK K hr.u190) (pe_op op_modY (pe_callTy cr_int (by rfl) T.m_int (by decide +kernel) (pa_cons (xv 9) pa_nil)) pe_int) pe_int (nomark _))
      (pss_cons (ps_expr (pe_dclear (pe_ix (ix_k K) (xv 13) pe_int (fun _ _ => rfl))))
      (pss_cons (ps_expr (pe_dclear (pe_ix (ix_k K) (xv 13) pe_int (fun _ _ => rfl))))
      (pss_one (xs_if (pt_not (xt_truK K (pe_callG G_triple (hr.mono (by omega)) hg (by rfl) T.g_triple T.F_triple.kp T.b_triple pass0 (pa_cons (pe_call G_spoiling (hr.mono (by omega)) (by rfl) T.g_spoiling T.F_spoiling.kp T.b_spoiling .nil pass0 (pa_cons (xv 11) (pa_cons (pe_op (op_catAK K) (pe_tup (pa_cons (xv 2) pa_nil)) (xv 1)) pa_nil))) (pa_cons (xv 0) (pa_cons (xv 6) (pa_cons (pe_ix (ix_k K) (xv 12) pe_int (fun _ _ => rfl)) pa_nil)))))))
      (pss_one (ps_ret pe_bl))
      pss_nil))))
      pss_nil))))))))))))
      (pss_one (ps_ret pe_bl))))))))), ?_⟩
    have nl : (ns.map V.str).length = ns.length := List.length_map _
    have n3 := ok.hi
    have s7 := sets_len ok
    refine ⟨G, M, a, ns, rfl, S, ha, ok, fun E es G1 H1 s1 hE hes S1 => ?_⟩
    have el := dpa_len hes
    rw [List.length_map] at el
    -- the shape due
    refine ⟨a, rfl, ⟨_, S1.t (same_t s1 ha)⟩, fun L nL => lc_tup (xs := ns.map V.str) (fun i H' => ∃ (vs : List V) (G' : Hp), Same G1 G' ∧ DpAll K G' vs (((ns.take i).filter fun x => decide (x ∈ nd)).map txD) ∧ vs.length ≤ i ∧ Sep G' ((L, .lst vs) :: M) H') ⟨[], G1, Same.refl _, .nil, Nat.le_refl _, S1.new nL⟩ (fun i H' _ p => ?_) (fun i y H' hy p => ⟨rfl, ?_⟩) (fun H' p => ?_)⟩
    · obtain ⟨_, _, s', _, _, S'⟩ := p
      exact S'.t (same_t (s1.trans s') ha)
    · obtain ⟨vs, G2, s2, hvs, vl, S2⟩ := p
      rw [List.getElem?_map] at hy
      obtain ⟨z, hz, rfl⟩ := Option.map_eq_some_iff.mp hy
      have il := (List.getElem?_eq_some_iff.mp hz).1
      refine ⟨b, _, rfl, .inr (S2.t (same_t (s1.trans s2) hb)), rfl, strs_flat _, ?_⟩
      rw [inV_str]
      refine tst (fun e => ?_) (fun e => ?_)
      · have e : decide (z ∈ nd) = true := e
        refine ⟨sz, fun p2 np2 => ?_⟩
        obtain ⟨G3, s3, S3, hp2⟩ := Sep.mk (o := .tup [.str "get", .str z]) S2 np2
        refine ⟨sz, fun p3 np3 => ?_⟩
        obtain ⟨G4, s4, S4, hp3⟩ := Sep.mk (o := .tup [.str "text", .ref p2]) S3 np3
        refine ⟨vs, S4.hd, smallL (by omega), vs ++ [.ref p3], G4, s2.trans (s3.trans s4), ?_, by rw [List.length_append]; exact Nat.succ_le_succ vl, S4.set⟩
        rw [take_snoc hz, List.filter_append, List.map_append, show ([z].filter fun x => decide (x ∈ nd)) = [z] by simp only [List.filter]; rw [e]]
        exact dpa_app (dpa_same (s3.trans s4) hvs) (dpa_one (.tup (SqT.of hp3) (.cons (.str _) (.cons (.tup (SqT.of (s4 _ _ hp2)) (.cons (.str _) (.cons (.str _) .nil))) .nil))))
      · have e : decide (z ∈ nd) = false := e
        refine ⟨vs, G2, s2, ?_, by omega, S2⟩
        rw [take_snoc hz, List.filter_append, show ([z].filter fun x => decide (x ∈ nd)) = [] by simp only [List.filter]; rw [e], List.append_nil]
        exact hvs
    obtain ⟨vs, G2, s2, hvs, vl, S2⟩ := p
    rw [nl, List.take_length] at hvs
    refine ⟨L, _, rfl, .inl ⟨SqL.of S2.hd, fun t3 nt3 => ?_⟩⟩
    obtain ⟨G3, s3, S3, ht3⟩ := Sep.mk (o := .tup vs) S2.drop nt3
    refine ⟨sz, fun due ndue => ?_⟩
    obtain ⟨G4, s4, S4, hdue⟩ := Sep.mk (o := .tup [.str "col", .ref t3]) S3 ndue
    have hdD : Dp K G4 (.ref due) (coD (ns.filter fun x => decide (x ∈ nd))) := .tup (SqT.of hdue) (.cons (.str _) (.cons (.tup (SqT.of (s4 _ _ ht3)) (dpa_same (s3.trans s4) hvs)) .nil))
    have s14 := s2.trans (s3.trans s4)
    have s04 := s1.trans s14
    -- what it needs
    refine ⟨G4, M, .ref due, a, _, ns, nd, rfl, S4, hdD, same_t s04 ha, ok, rfl, fun ln G5 H5 s5 hln S5 => ?_⟩
    have s05 := s04.trans s5
    refine ⟨a, rfl, ⟨_, S5.t (same_t s05 ha)⟩, fun L5 nL5 => lc_tup (xs := ns.map V.str) (fun i H' => Sep G5 ((L5, .lst (((ns.take i).filter fun x => decide (x ∈ nd)).map V.str)) :: M) H') (S5.new nL5) (fun i H' _ p => p.t (same_t s05 ha)) (fun i y H' hy p => ⟨rfl, ?_⟩) (fun H' p => ?_)⟩
    · rw [List.getElem?_map] at hy
      obtain ⟨x, hx, rfl⟩ := Option.map_eq_some_iff.mp hy
      have il := (List.getElem?_eq_some_iff.mp hx).1
      have ll : (((ns.take i).filter fun x => decide (x ∈ nd)).map V.str).length ≤ 100 := by
        rw [List.length_map]
        refine Nat.le_trans (List.length_filter_le _ _) ?_
        rw [List.length_take]
        omega
      refine ⟨b, _, rfl, .inr (p.t (same_t s05 hb)), rfl, strs_flat _, ?_⟩
      rw [inV_str]
      refine tst (fun e => ?_) (fun e => ?_)
      · have e : decide (x ∈ nd) = true := e
        refine ⟨_, p.hd, smallL (by omega), ?_⟩
        rw [take_snoc hx, List.filter_append, List.map_append, show ([x].filter fun x => decide (x ∈ nd)) = [x] by simp only [List.filter]; rw [e]]
        exact p.set
      · have e : decide (x ∈ nd) = false := e
        rw [take_snoc hx, List.filter_append, show ([x].filter fun x => decide (x ∈ nd)) = [] by simp only [List.filter]; rw [e], List.append_nil]
        exact p
    rw [nl, List.take_length] at p
    obtain ⟨G6, s6, S6, hL5⟩ := Sep.keep p
    obtain ⟨cl1, dp1⟩ := lst_fit (zs := ns.filter fun x => decide (x ∈ nd)) (w := 8) fun z hz => Fit.name (ok.lt z (List.mem_filter.mp hz).1)
    refine ⟨.list _, .list _, inj_lst S6 (s6 _ _ hln), inj_lst S6 hL5, cl1, cl1, dp1, ?_⟩
    rw [SeqAt.eqv_refl _ cl1]
    refine ⟨ff, fun _ => ?_⟩
    have s06 := s05.trans s6
    -- the least
    refine ⟨rfl, G6, M, a, b, ns, nd, rfl, S6, same_t s06 ha, same_t s06 hb, ok, fun le G7 H7 s7' hle S7 => ?_⟩
    have s07 := s06.trans s7'
    have s17 : Same G1 G7 := s14.trans (s5.trans (s6.trans s7'))
    have s47 : Same G4 G7 := s5.trans (s6.trans s7')
    have hE7 := s17 _ _ hE
    refine ⟨E, rfl, ⟨_, SqL.of (S7.st hE7)⟩, for_list (xs := es) (fun i σ H' => ∃ (y5 : Option V), σ = [some (.ref a), some (.ref b), some (.str st), some (.ref l), some (.ref E), y5, some (.ref due), some (.ref le), some (.int ((2 ^ i : Nat) : Int)), none, none, none, none, none, none] ∧ Sep G7 M H') ⟨_, rfl, S7⟩ (fun i σ H' _ h => ?_) (fun i y σ H' hy h => ?_) (fun σ H' h => ?_)⟩
    · obtain ⟨_, _, S'⟩ := h
      exact SqL.of (S'.st hE7)
    · obtain ⟨y5, rfl, S8⟩ := h
      refine ⟨some y, ?_, S8⟩
      rw [Nat.pow_succ, Int.natCast_mul, Int.mul_comm, show (((2 : Nat) : Int)) * ((2 ^ i : Nat) : Int) = ((2 ^ i : Nat) : Int) + ((2 ^ i : Nat) : Int) by omega]
      rfl
    obtain ⟨y5, rfl, S8⟩ := h
    have pw : 2 ^ es.length ≤ 128 := by
      rw [el]
      exact Nat.pow_le_pow_right (n := 2) (by decide) s7
    generalize 2 ^ es.length = mo at pw ⊢
    refine ⟨_, rfl, by omega, by omega, for_range (lo := 0) (n := (((mo : Nat) : Int)).toNat) (fun i σ H' => ∃ (y5 y9 y10 y11 y12 y13 : Option V) (G' : Hp), σ = [some (.ref a), some (.ref b), some (.str st), some (.ref l), some (.ref E), y5, some (.ref due), some (.ref le), some (.int ((mo : Nat) : Int)), y9, y10, y11, y12, y13, none] ∧ Same G7 G' ∧ Sep G' M H') ⟨_, _, _, _, _, _, G7, rfl, Same.refl _, S8⟩ (fun i σ H' hi h => ?_) (fun σ H' h => ?_)⟩
    · obtain ⟨y5, y9, y10, y11, y12, y13, G8, rfl, s8, S9⟩ := h
      have hE8 := s8 _ _ hE7
      have hes8 := dpa_same (s17.trans s8) hes
      -- chosen
      refine ⟨_, .inl (SqL.of (S9.st hE8)), _, rfl, by omega, by omega, fun L nL => lc_range (lo := 0) (n := ((es.length : Nat) : Int).toNat) (fun j H' => ∃ (vs : List V) (ch : List (List Str)), DpAll K G8 vs (ch.map sD) ∧ (∀ c ∈ ch, c ∈ sets ns) ∧ ch.length ≤ j ∧ Sep G8 ((L, .lst vs) :: M) H') ⟨[], [], .nil, (fun c h => nomatch h), Nat.le_refl _, S9.new nL⟩ (fun j H' hj p => ?_) (fun H' p => ?_)⟩
      · obtain ⟨vs, ch, hvs, hch, cl, S10⟩ := p
        have je : j < es.length := by omega
        obtain ⟨dc, hdc, hec⟩ := dpa_get hes8 (List.getElem?_eq_getElem je)
        rw [List.getElem?_map] at hdc
        obtain ⟨c, hc, rfl⟩ := Option.map_eq_some_iff.mp hdc
        have vl := dpa_len hvs
        rw [List.length_map] at vl
        have ij : (0 : Int) + ((j : Nat) : Int) = ((j : Nat) : Int) := by omega
        rw [ij]
        refine ⟨rfl, _, j, rfl, rfl, i / 2 ^ j, congrArg V.int (shr_nat i j), rfl, tst (fun e => ?_) (fun e => ?_)⟩
        · refine ⟨_, _, .inl (SqL.of (S10.st hE8)), atI_nat (List.getElem?_eq_getElem je), ?_⟩
          refine ⟨vs, S10.hd, smallL (by omega), _, ch ++ [c], by rw [List.map_append]; exact dpa_app hvs (dpa_one hec), ?_, by rw [List.length_append]; exact Nat.succ_le_succ cl, S10.set⟩
          intro x hx
          rcases List.mem_append.mp hx with h | h
          · exact hch x h
          · rw [List.mem_singleton.mp h]
            exact List.mem_of_getElem? hc
        · exact ⟨vs, ch, hvs, hch, by omega, S10⟩
      obtain ⟨vs, ch, hvs, hch, cl, S10⟩ := p
      obtain ⟨G9, s9, S11, hL⟩ := Sep.keep S10
      have hvs9 := dpa_same s9 hvs
      have cl7 : ch.length ≤ 7 := by omega
      -- the schedule
      refine ⟨L, vs, rfl, .inl (SqL.of (S11.st hL)), fun D nD => ?_⟩
      obtain ⟨G10, s10, S12, hD⟩ := Sep.mk (o := .lst vs) S11 nD
      have s010 := s07.trans (s8.trans (s9.trans s10))
      refine fun x dx nx ndx ne => ⟨G10, _, x, dx, a, D, vs, ns, ch, rfl, S12.new2 nx ndx ne, same_t s010 ha, ok, hD, dpa_same s10 hvs9, hch, by omega, fun G11 H11 s11 hx S13 => ⟨rfl, ?_⟩⟩
      have S13 := S13.drop
      have s1011 := s10.trans s11
      have hL11 := s1011 _ _ hL
      have hvs11 := dpa_same s1011 hvs9
      have s811 := s9.trans s1011
      have s711 := s8.trans s811
      have hE11 := s811 _ _ hE8
      have hes11 := dpa_same s811 hes8
      have s011 := s010.trans s11
      have hb11 := same_t s011 hb
      have ha11 := same_t s011 ha
      -- missed
      refine ⟨E, rfl, ⟨_, SqL.of (S13.st hE11)⟩, fun N nN => lc_list (xs := es) (fun j H' => ∃ (ws : List V) (G' : Hp), Same G11 G' ∧ DpAll K G' ws ((msd ns ch nd j).map sD) ∧ ws.length ≤ j ∧ Sep G' ((N, .lst ws) :: M) H') ⟨[], G11, Same.refl _, .nil, Nat.le_refl _, S13.new nN⟩ (fun j H' _ p => ?_) (fun j y H' hy p => ⟨rfl, ?_⟩) (fun H' p => ?_)⟩
      · obtain ⟨_, _, s', _, _, S'⟩ := p
        exact SqL.of (S'.st (s' _ _ hE11))
      · obtain ⟨ws, G12, s12, hws, wl, S14⟩ := p
        have jl := (List.getElem?_eq_some_iff.mp hy).1
        obtain ⟨dc, hdc, hyc⟩ := dpa_get (dpa_same s12 hes11) hy
        rw [List.getElem?_map] at hdc
        obtain ⟨c, hc, rfl⟩ := Option.map_eq_some_iff.mp hdc
        have cm := List.mem_of_getElem? hc
        obtain ⟨tc, rfl, htc⟩ := sD_at hyc
        have stay : ∀ G13 H13, Same G12 G13 → Sep G13 ((N, .lst ws) :: M) H13 → (!decide (c ∈ ch) && tch c nd) = false → ∃ (ws : List V) (G' : Hp), Same G11 G' ∧ DpAll K G' ws ((msd ns ch nd (j + 1)).map sD) ∧ ws.length ≤ j + 1 ∧ Sep G' ((N, .lst ws) :: M) H13 := fun G13 H13 s13 S15 e => by
          refine ⟨ws, G13, s12.trans s13, ?_, by omega, S15⟩
          unfold msd
          rw [take_snoc hc, List.filter_append, show ([c].filter fun c => !decide (c ∈ ch) && tch c nd) = [] by simp only [List.filter]; rw [e], List.append_nil]
          exact dpa_same s13 hws
        refine ⟨sD c, ch.map sD, dp_same S14.1 hyc, .inl (.lst (SqL.of (S14.st (s12 _ _ hL11))) (dpa_same (s12.trans S14.1) hvs11)), sD_shaped (sets_lt ok c cm), sDs_cl (fun c hc => sets_lt ok c (hch c hc)), ?_⟩
        rw [sD_any]
        refine ⟨fun e => ?_, fun e => ?_⟩
        · refine ⟨G12, _, tc, b, c, nd, rfl, S14, htc, same_t s12 hb11, Nat.le_trans (set_len ok cm).1 (by decide), fun G13 H13 s13 S15 => ?_⟩
          refine tst (fun e2 => ?_) (fun e2 => ?_)
          · have e : (!decide (c ∈ ch)) = true := e
            refine ⟨ws, S15.hd, smallL (by omega), ws ++ [.ref tc], G13, s12.trans s13, ?_, by rw [List.length_append]; exact Nat.succ_le_succ wl, S15.set⟩
            unfold msd
            rw [take_snoc hc, List.filter_append, List.map_append, show ([c].filter fun c => !decide (c ∈ ch) && tch c nd) = [c] by simp only [List.filter]; rw [e, e2]; rfl]
            exact dpa_app (dpa_same s13 hws) (dpa_one (dp_same s13 hyc))
          · exact stay G13 H13 s13 S15 (by rw [e2, Bool.and_false])
        · have e : (!decide (c ∈ ch)) = false := e
          exact (show if false = true then _ else _ from stay G12 _ (Same.refl _) S14 (by rw [e, Bool.false_and]))
      obtain ⟨ws, G12, s12, hws, wl, S14⟩ := p
      rw [el] at hws
      obtain ⟨G13, s13, S15, hN⟩ := Sep.keep S14
      have hws13 := dpa_same s13 hws
      have s1113 := s12.trans s13
      have hx13 := hx.same s1113
      have s713 := s711.trans s1113
      have hle13 := hle.same s713
      have s013 := s011.trans s1113
      have ha13 := same_t s013 ha
      have hb13 := same_t s013 hb
      have hL13 := s1113 _ _ hL11
      have hvs13 := dpa_same s1113 hvs11
      have hdD13 := dp_same (s47.trans s713) hdD
      obtain ⟨dx1, ax1, lx1, ux1, ix1, _⟩ := hx13.ex
      obtain ⟨dle, ale, lle, ule, ile, _⟩ := hle13.ex
      have wlen := dpa_len hws13
      rw [List.length_map] at wlen
      have we : (msd ns ch nd (sets ns).length).isEmpty = ws.isEmpty := by
        cases ws <;> cases hm : msd ns ch nd (sets ns).length <;> rw [hm] at wlen <;> simp at wlen ⊢
      refine ⟨G13, M, x, b, ns, ch, nd, rfl, S15, hx13, hb13, fun em G14 H14 s14' S16 => ?_, fun c ec t v d1 d2 G14 H14 s14' ht hv S16 => ?_⟩
      · have w0 : ws = [] := by
          rw [mis_msd, List.head?_eq_none_iff] at em
          rw [em] at we
          exact List.isEmpty_iff.mp we.symm
        subst w0
        refine ⟨le, x, dle, dx1, _, _, rfl, rfl, S16.st (s14' _ _ ile), S16.st (s14' _ _ ix1), G14, M, le, x, ns, _, ch, rfl, S16, hle13.same s14', hx13.same s14', fun G15 H15 s15 S17 => ?_⟩
        have s1315 := s14'.trans s15
        have hN15 := s1315 _ _ hN
        rw [le_msd, we]
        refine ⟨_, .inl ⟨_, SqL.of (S17.st hN15), rfl⟩, fun e => absurd e (by decide), fun _ => ?_⟩
        refine ⟨_, .inl ⟨_, SqL.of (S17.st hN15), rfl⟩, fun _ => ?_, fun e => absurd e (by decide)⟩
        refine ⟨rfl, fun e => absurd e (by decide), fun _ => ?_⟩
        have s015 := s013.trans s1315
        have hl15 := s015 _ _ hl
        have hus15 := dpa_same s015 hus
        refine ⟨l, rfl, ⟨_, SqL.of (S17.st hl15)⟩, fun C nC => lc_list (xs := us) (fun j H' => Sep G15 ((C, .lst []) :: M) H') (S17.new nC) (fun j H' _ p => SqL.of (p.st hl15)) (fun j y H' hy p => ⟨rfl, ?_⟩) (fun H' p => ?_)⟩
        · obtain ⟨dc, hdc, hyc⟩ := dpa_get hus15 hy
          rw [List.getElem?_map] at hdc
          obtain ⟨c, hc, rfl⟩ := Option.map_eq_some_iff.mp hdc
          obtain ⟨cm, ct⟩ := hcs c (List.mem_of_getElem? hc)
          refine ⟨sD c, ch.map sD, dp_same p.1 hyc, .inl (.lst (SqL.of (p.st (s1315 _ _ hL13))) (dpa_same (s1315.trans p.1) hvs13)), sD_shaped (sets_lt ok c cm), sDs_cl (fun c hc => sets_lt ok c (hch c hc)), ?_⟩
          rw [sD_any, decide_eq_true (mis_none em c cm ct)]
          exact p
        · refine ⟨_, .inl ⟨_, SqL.of p.hd, rfl⟩, fun e => absurd e (by decide), fun _ => ?_⟩
          exact ⟨_, _, _, _, _, _, G15, rfl, s8.trans (s811.trans (s1113.trans s1315)), p.drop⟩
      · obtain ⟨mr, hm⟩ : ∃ mr, msd ns ch nd (sets ns).length = c :: mr := by
          rw [mis_msd] at ec
          cases hm : msd ns ch nd (sets ns).length with
          | nil => rw [hm] at ec; exact nomatch ec
          | cons z r =>
            rw [hm] at ec
            exact ⟨r, by rw [Option.some.inj ec]⟩
        have cm : c ∈ sets ns ∧ tch c nd = true := by
          have : c ∈ msd ns ch nd (sets ns).length := by rw [hm]; exact List.mem_cons_self
          have := List.mem_filter.mp this
          rw [List.take_length, Bool.and_eq_true] at this
          exact ⟨this.1, this.2.2⟩
        rw [hm] at hws13 we
        obtain ⟨wc, wr, rfl, hwc, _⟩ := dpa_cons hws13
        obtain ⟨tc, rfl, htc⟩ := sD_at hwc
        have hx0 : ∃ z ∈ ns.filter (fun x => decide (x ∈ nd)), z ∈ c := by
          obtain ⟨z, z1, z2⟩ := List.any_eq_true.mp cm.2
          exact ⟨z, List.mem_filter.mpr ⟨set_mem ok cm.1 z z1, z2⟩, z1⟩
        have fl : (ns.filter fun x => decide (x ∈ nd)).length ≤ 3 := Nat.le_trans (List.length_filter_le _ _) n3
        have fm : ∀ z ∈ ns.filter (fun x => decide (x ∈ nd)), z ∈ ns := fun z hz => (List.mem_filter.mp hz).1
        refine ⟨le, x, dle, dx1, _, _, rfl, rfl, S16.st (s14' _ _ ile), S16.st (s14' _ _ ix1), G14, _, le, x, ns, _, ch, rfl, S16, hle13.same s14', hx13.same s14', fun G15 H15 s15 S17 => ?_⟩
        have s1315 := s14'.trans s15
        have hN15 := s1315 _ _ hN
        have s015 := s013.trans s1315
        rw [le_msd, hm]
        refine ⟨_, .inl ⟨_, SqL.of (S17.st hN15), rfl⟩, fun e => absurd e (by simp), fun _ => ?_⟩
        refine ⟨_, .inl ⟨_, SqL.of (S17.st hN15), rfl⟩, fun e => absurd e (by simp), fun _ => ?_⟩
        refine ⟨_, _, .inl (SqL.of (S17.st hN15)), atI_nat (j := 0) rfl, ?_⟩
        refine ⟨G15, _, t, a, tc, d1, d2, v, .ref due, ns, c, _, rfl, S17, same_t s15 (SqT.of ht), fun G' H' s S => ⟨S.hd, S.sw.hd⟩, same_t s015 ha, same_t s1315 htc, ok, dp_same s15 hv, dp_same s1315 hdD13, fm, fl, hx0, fun G16 H16 s16 S18 => ?_⟩
        have s1316 := s1315.trans s16
        have s716 := s8.trans (s811.trans (s1113.trans s1316))
        refine ⟨ff, fun _ => ?_⟩
        refine ⟨by omega, fun r er r0 r1 => ⟨fun e => ?_, fun e => ?_⟩⟩
        · have ht16 := s16 _ _ (s15 _ _ ht)
          refine ⟨_, _, .inr (SqT.of (S18.st ht16)), atI_nat (j := 1) rfl, ?_⟩
          refine ⟨.inr (.inr (.inl ⟨rfl, .inl ⟨_, S18.hd⟩⟩)), d1, _, rfl, rfl, S18.hd, ?_⟩
          have S19 := S18.set (o' := .dK [])
          refine ⟨_, _, .inr (SqT.of (S19.st ht16)), atI_nat (j := 2) rfl, ?_⟩
          refine ⟨.inr (.inr (.inl ⟨rfl, .inl ⟨_, S19.sw.hd⟩⟩)), d2, _, rfl, rfl, S19.sw.hd, ?_⟩
          have S20 := (S19.sw.set (o' := .dK [])).drop.drop
          refine ⟨sz, fun t1 nt1 => ?_⟩
          obtain ⟨G17, s17', S21, ht1⟩ := Sep.mk (o := .tup [.str st]) S20 nt1
          have s1317 := s1316.trans s17'
          have s017 := s013.trans s1317
          dsimp only [xVar, nth, List.set]
          refine cat_ok S21 (SqT.of ht1) (same_t s017 hb) (small (by rw [List.length_map]; simp only [List.length_cons, List.length_nil]; omega)) fun c9 G18 H18 s18 hc9 S22 => ?_
          have s1318 := s1317.trans s18
          refine ⟨G18, _, x, c9, ns, ch, st :: nd, rfl, S22, hx13.same s1318, hc9, fun em => ?_, fun c2 ec2 t2 v2 d3 d4 G19 H19 s19 ht2 hv2 S23 => ?_⟩
          · rw [mis_st ok hst, ec] at em
            exact nomatch em
          rw [mis_st ok hst, ec] at ec2
          obtain rfl : c = c2 := Option.some.inj ec2
          rw [fil_st hst] at hv2
          have s1319 := s1318.trans s19
          have s019 := s013.trans s1319
          refine ⟨_, _, .inl (SqL.of (S23.st (s1319 _ _ hN))), atI_nat (j := 0) rfl, ?_⟩
          refine ⟨G19, _, t2, a, tc, d3, d4, v2, .ref due, ns, c, _, rfl, S23, SqT.of ht2, fun G' H' s S => ⟨S.hd, S.sw.hd⟩, same_t s019 ha, same_t s1319 htc, ok, hv2, dp_same s1319 hdD13, fm, fl, hx0, fun G20 H20 s20 S24 => ?_⟩
          refine ⟨ff, fun _ => ?_⟩
          exact ⟨_, _, _, _, _, _, G20, rfl, s8.trans (s811.trans (s1113.trans (s1319.trans s20))), S24.drop.drop⟩
        · exact ⟨_, _, _, _, _, _, G16, rfl, s716, S18.drop.drop⟩
    · obtain ⟨y5, y9, y10, y11, y12, y13, G8, rfl, s8, S9⟩ := h
      exact q G8 _ (s07.trans s8) S9

end
end K39
set_option Elab.async false
set_option linter.all false
set_option maxRecDepth 100000
set_option maxHeartbeats 4000000
namespace K39
open PySem PySem.Spec PyProof.Rows L2 XL
section
variable {P : Program} {w : World} {K : PySem.W.Frag} {mg : Str → Option Value} {base : Heap}
/-! ### one name at a time -/
theorem enc : ∀ (ns : List Str), ns.Nodup → ∀ (e : Str → Nat), (∀ x ∈ ns, e x < 3) → ∃ m, m < 3 ^ ns.length ∧ ∀ x ∈ ns, dg 3 ns m x = ((e x : Nat) : Int)
  | [], _, e, _ => ⟨0, by decide, fun x h => nomatch h⟩
  | y :: r, nd, e, h => by
    rw [List.nodup_cons] at nd
    obtain ⟨m, hm, hd⟩ := enc r nd.2 e fun x hx => h x (List.mem_cons_of_mem _ hx)
    have hy := h y List.mem_cons_self
    refine ⟨e y + 3 * m, ?_, fun x hx => ?_⟩
    · rw [List.length_cons, Nat.pow_succ]
      omega
    · unfold dg
      by_cases hxy : y = x
      · subst hxy
        rw [posn, if_pos rfl, Nat.pow_zero, Nat.div_one]
        congr 1
        omega
      · have hr : x ∈ r := by
          rcases List.mem_cons.mp hx with h | h
          · exact absurd h.symm hxy
          · exact h
        have := hd x hr
        unfold dg at this
        rw [posn, if_neg hxy, Nat.pow_succ, Nat.mul_comm (3 ^ posn x r) 3, ← Nat.div_div_eq_div_mul, show (e y + 3 * m) / 3 = m by omega]
        exact this
theorem fil_one {x : Str} : ∀ {ns : List Str}, ns.Nodup → x ∈ ns → (ns.filter fun y => decide (y = x)) = [x]
  | y :: r, nd, h => by
    rw [List.nodup_cons] at nd
    by_cases hy : y = x
    · subst hy
      rw [List.filter_cons, if_pos (by simp)]
      congr 1
      rw [List.filter_eq_nil_iff]
      intro z hz e
      have := of_decide_eq_true e
      subst this
      exact nd.1 hz
    · have hr : x ∈ r := by
        rcases List.mem_cons.mp h with h | h
        · exact absurd h.symm hy
        · exact h
      rw [List.filter_cons, if_neg (by simpa using hy)]
      exact fil_one nd.2 hr
theorem posn_get {ns : List Str} {x : Str} (hx : x ∈ ns) : ns[posn x ns]? = some x := by
  induction ns with
  | nil => exact nomatch hx
  | cons y r ih =>
    by_cases hy : y = x
    · rw [posn, if_pos hy, hy]
      rfl
    · have hr : x ∈ r := by
        rcases List.mem_cons.mp hx with h | h
        · exact absurd h.symm hy
        · exact h
      rw [posn, if_neg hy, List.getElem?_cons_succ]
      exact ih hr
theorem dif_symm (ns : List Str) (j k : Nat) : dif ns j k = dif ns k j := by
  unfold dif
  refine List.filter_congr fun x _ => ?_
  rw [Bool.eq_iff_iff, decide_eq_true_eq, decide_eq_true_eq]
  exact ⟨fun h e => h e.symm, fun h e => h e.symm⟩
/-- digits of the one number up to a place, of the other from there -/
def mixd (ns : List Str) (j k i : Nat) : Str → Nat := fun x => if posn x ns < i then k / 3 ^ posn x ns % 3 else j / 3 ^ posn x ns % 3
theorem one_step {f : Gm} {ns : List Str} {j k : Nat} (ok : NsOk ns) (fo : f.ok ns) (h : f.val (dg 3 ns j) ≠ f.val (dg 3 ns k)) :
    ∃ x ∈ ns, dg 3 ns j x ≠ dg 3 ns k x ∧ ∃ m1 m2, m1 < 3 ^ ns.length ∧ m2 < 3 ^ ns.length ∧ f.val (dg 3 ns m1) ≠ f.val (dg 3 ns m2) ∧ dif ns m1 m2 = [x] := by
  have E : ∀ i, ∃ m, m < 3 ^ ns.length ∧ ∀ x ∈ ns, dg 3 ns m x = ((mixd ns j k i x : Nat) : Int) := fun i => enc ns ok.nd _ fun x _ => by
    unfold mixd
    split <;> exact Nat.mod_lt _ (by decide)
  have v0 : f.val (fun x => ((mixd ns j k 0 x : Nat) : Int)) = f.val (dg 3 ns j) := Gm.val_congr (fun x _ => by unfold mixd dg; rw [if_neg (Nat.not_lt_zero _)]) f fo
  have vn : f.val (fun x => ((mixd ns j k ns.length x : Nat) : Int)) = f.val (dg 3 ns k) := Gm.val_congr (fun x hx => by
    have := (List.getElem?_eq_some_iff.mp (posn_get hx)).1
    unfold mixd dg
    rw [if_pos this]) f fo
  obtain ⟨i, hi, hv⟩ : ∃ i, i < ns.length ∧ f.val (fun x => ((mixd ns j k i x : Nat) : Int)) ≠ f.val (fun x => ((mixd ns j k (i + 1) x : Nat) : Int)) := by
    refine Decidable.byContradiction fun hn => h ?_
    have : ∀ i, i ≤ ns.length → f.val (fun x => ((mixd ns j k 0 x : Nat) : Int)) = f.val (fun x => ((mixd ns j k i x : Nat) : Int)) := fun i => by
      induction i with
      | zero => intro _; rfl
      | succ i ih =>
        intro hi
        rw [ih (by omega)]
        exact Decidable.of_not_not fun h2 => hn ⟨i, by omega, h2⟩
    rw [← v0, ← vn]
    exact this _ (Nat.le_refl _)
  obtain ⟨x, hx⟩ : ∃ x, ns[i]? = some x := ⟨_, List.getElem?_eq_getElem hi⟩
  have xm := List.mem_of_getElem? hx
  have px := posn_at ok.nd hx
  have oth : ∀ y ∈ ns, y ≠ x → mixd ns j k i y = mixd ns j k (i + 1) y := fun y hy hne => by
    have : posn y ns ≠ i := fun e => hne (by
      have := posn_get hy
      rw [e, hx] at this
      exact (Option.some.inj this).symm)
    unfold mixd
    by_cases h1 : posn y ns < i
    · rw [if_pos h1, if_pos (by omega)]
    · rw [if_neg h1, if_neg (by omega)]
  have xi : mixd ns j k i x = j / 3 ^ i % 3 := by unfold mixd; rw [px, if_neg (Nat.lt_irrefl _)]
  have xi1 : mixd ns j k (i + 1) x = k / 3 ^ i % 3 := by unfold mixd; rw [px, if_pos (Nat.lt_succ_self _)]
  have ne : mixd ns j k i x ≠ mixd ns j k (i + 1) x := fun e => hv (Gm.val_congr (fun y hy => by
    by_cases h1 : y = x
    · subst h1; rw [e]
    · rw [oth y hy h1]) f fo)
  obtain ⟨m1, l1, d1⟩ := E i
  obtain ⟨m2, l2, d2⟩ := E (i + 1)
  refine ⟨x, xm, ?_, m1, m2, l1, l2, ?_, ?_⟩
  · rw [dg_at ok.nd hx, dg_at ok.nd hx]
    intro e
    exact ne (by rw [xi, xi1]; exact Int.ofNat.inj e)
  · rw [Gm.val_congr d1 f fo, Gm.val_congr d2 f fo]
    exact hv
  · rw [← fil_one ok.nd xm]
    unfold dif
    refine List.filter_congr fun y hy => ?_
    rw [d1 y hy, d2 y hy, Bool.eq_iff_iff, decide_eq_true_eq, decide_eq_true_eq]
    constructor
    · intro h
      exact Decidable.of_not_not fun h1 => h (by rw [oth y hy h1])
    · intro h e
      subst h
      exact ne (Int.ofNat.inj e)
theorem chg_ok {f : Gm} {ns : List Str} {cs : List (List Str)} (ok : NsOk ns) (fo : f.ok ns) (h : Chg f ns (3 ^ ns.length) 0 cs) : ∀ c ∈ cs, c ∈ sets ns ∧ ∃ x ∈ c, x ∈ ns ∧ [x] ∈ cs := fun c hc => by
  obtain ⟨j, k, hjk, _, hv, rfl⟩ := (h c).mp hc
  obtain ⟨x, xm, hne, m1, m2, l1, l2, hv2, hd⟩ := one_step ok fo hv
  have xd : x ∈ dif ns j k := List.mem_filter.mpr ⟨xm, decide_eq_true hne⟩
  refine ⟨fil_set ok _ (List.ne_nil_of_mem xd), x, xd, xm, (h _).mpr ?_⟩
  rcases Nat.lt_trichotomy m1 m2 with hl | hl | hl
  · exact ⟨m1, m2, .inl ⟨l1, hl⟩, l2, hv2, hd.symm⟩
  · subst hl
    exact absurd rfl hv2
  · exact ⟨m2, m1, .inl ⟨l2, hl⟩, l1, fun e => hv2 e.symm, by rw [dif_symm]; exact hd.symm⟩

end
end K39
set_option Elab.async false
set_option linter.all false
set_option maxRecDepth 100000
set_option maxHeartbeats 4000000
namespace K39
open PySem PySem.Spec PyProof.Rows L2 XL
section
variable {P : Program} {w : World} {K : PySem.W.Frag} {mg : Str → Option Value} {base : Heap}
/-! ### the law -/
def isS : V → Str
  | .str z => z
  | _ => ""
theorem perm_strs {ys : List V} {zs : List Str} (h : ys.Perm (zs.map V.str)) : ∃ zs' : List Str, ys = zs'.map V.str ∧ zs'.Perm zs := by
  refine ⟨ys.map isS, ?_, ?_⟩
  · rw [List.map_map]
    conv => lhs; rw [← List.map_id ys]
    refine List.map_congr_left fun y hy => ?_
    obtain ⟨z, _, rfl⟩ := List.mem_map.mp (h.mem_iff.mp hy)
    rfl
  · have := h.map isS
    rw [List.map_map] at this
    have e : zs.map (isS ∘ V.str) = zs := by
      conv => rhs; rw [← List.map_id zs]
      rfl
    rw [e] at this
    exact this
def spLaw (K : PySem.W.Frag) : Sp := fun vs H Q _ => ∃ (a : Addr) (ns : List Int), vs = [.ref a] ∧ SqL K H a (ns.map V.int) ∧ ns.length ≤ 63 ∧ ∀ H', Q (.bl true) H'
theorem ok_law (T : Top K mg w) {k : Nat} (G_bag : FnOk P w K mg base CX0 k T.a_bag T.d_bag ["_law_script"] (spBag K)) (G_pick : FnOk P w K mg base CX0 k T.a_pick T.d_pick ["_law_bag_here", "_law_many"] spPick) (G_new_name : FnOk P w K mg base CX0 k T.a_new_name T.d_new_name ["_law_bag_here", "_law_used"] spNew)
    (G_form : FnOk P w K mg base CX0 k T.a_form T.d_form ["_law_bag_here", "_law_readable", "_law_levels"] (spForm K 3)) (G_changing : FnOk P w K mg base CX0 k T.a_changing T.d_changing ["_law_form_here", "_law_names"] (spChanging K)) (G_mingled : FnOk P w K mg base CX0 k T.a_mingled T.d_mingled ["_law_bag_here", "_law_things"] (spMingled K))
    (G_some : FnOk P w K mg base CX0 k T.a_some T.d_some ["_law_bag_here", "_law_things"] (spSome K)) (G_lot : FnG P w K mg base CX0 k T.a_lot T.d_lot ["_law_names", "_law_needed", "_law_strange", "_law_changing_here"] (spLot K)) : FnG P w K mg base CX0 (k + 1) T.a_law T.d_law ["_law_script"] (spLaw K) := by
  refine okG T.F_law sc_law (fun vs H Q E h => ?_) (fun cdv A outer s H vs Q E hr hg h => ?_)
  · obtain ⟨a, ns, rfl, _⟩ := h
    rfl
  · obtain ⟨a, nn, rfl, ha, hl, q⟩ := h
    refine ⟨_, (pss_cons (ps_set (i := 1) sc_law.nd rfl (.inr rfl) (pe_call G_bag (hr.mono (by omega)) (by rfl) T.g_bag T.F_bag.kp T.b_bag .nil pass0 (pa_cons (xv 0) pa_nil)))
      (pss_cons (ps_set (i := 2) sc_law.nd rfl (.inr rfl) (pe_lst pa_nil))
      (pss_cons (ps_set (i := 3) sc_law.nd rfl (.inl rfl) (pe_callTy (call_tupleK K) (by rfl) T.m_tuple (by decide +kernel) (pa_cons (pe_lc (own := [("_law_step", 9)]) (by rfl) sc_law.nd (pi_range1 (by rfl) T.m_range (pa_cons (pe_ix (ix_k K) (pe_lst (pa_cons pe_int (pa_cons pe_int (pa_cons pe_int (pa_cons pe_int pa_nil))))) (pe_call G_pick (hr.mono (by omega)) (by rfl) T.g_pick T.F_pick.kp T.b_pick .nil pass0 (pa_cons (xv 1) (pa_cons pe_int pa_nil))) (fun _ _ => rfl)) pa_nil)) (blkOk_by (N := ["_law_script", "_law_bag_here", "_law_used", "_law_names", "_law_form_here", "_law_changing_here", "_law_needed", "_law_strange", "_law_other", "_law_step", "_law_one"]) (sc := defScope s_law) (by decide +kernel)) (fun _ _ _ _ _ => (pg_name (i := 9) sc_law.nd rfl (.inl rfl))) (fun _ _ _ _ _ => pts_nil) (fun _ _ _ _ _ => (pe_call G_new_name (hr.mono (by omega)) (by rfl) T.g_new_name T.F_new_name.kp T.b_new_name .nil pass0 (pa_cons (xv 1) (pa_cons (xv 2) pa_nil))))) pa_nil)))
      (pss_cons (ps_set (i := 4) sc_law.nd rfl (.inl rfl) (pe_call G_form (hr.mono (by omega)) (by rfl) T.g_form T.F_form.kp T.b_form .nil pass0 (pa_cons (xv 1) (pa_cons (pe_callTy (call_listK K) (by rfl) T.m_list (by decide +kernel) (pa_cons (xv 3) pa_nil)) (pa_cons (pe_op op_addY pe_int (pe_call G_pick (hr.mono (by omega)) (by rfl) T.g_pick T.F_pick.kp T.b_pick .nil pass0 (pa_cons (xv 1) (pa_cons pe_int pa_nil)))) pa_nil)))))
      (pss_cons (ps_set (i := 5) sc_law.nd rfl (.inr rfl) (pe_call G_changing (hr.mono (by omega)) (by rfl) T.g_changing T.F_changing.kp T.b_changing .nil pass0 (pa_cons (xv 4) (pa_cons (xv 3) pa_nil))))
      (pss_cons (ps_set (i := 6) sc_law.nd rfl (.inl rfl) (pe_callTy (call_tupleK K) (by rfl) T.m_tuple (by decide +kernel) (pa_cons (pe_call G_mingled (hr.mono (by omega)) (by rfl) T.g_mingled T.F_mingled.kp T.b_mingled .nil pass0 (pa_cons (xv 1) (pa_cons (pe_lc (own := [("_law_one", 10)]) (by rfl) sc_law.nd (pi_tupK K (xv 3)) (blkOk_by (N := ["_law_script", "_law_bag_here", "_law_used", "_law_names", "_law_form_here", "_law_changing_here", "_law_needed", "_law_strange", "_law_other", "_law_step", "_law_one"]) (sc := defScope s_law) (by decide +kernel)) (fun _ _ _ _ _ => (pg_name (i := 10) sc_law.nd rfl (.inl rfl))) (fun _ _ _ _ _ => (pts_one (xt_cmp (in_deepK K (u65 hr)) (pe_tup (pa_cons (xv 10) pa_nil)) (xv 5) (by rfl)))) (fun _ _ _ _ _ => (xv 10))) pa_nil))) pa_nil)))
      (pss_cons (ps_set (i := 7) sc_law.nd rfl (.inl rfl) (pe_call G_new_name (hr.mono (by omega)) (by rfl) T.g_new_name T.F_new_name.kp T.b_new_name .nil pass0 (pa_cons (xv 1) (pa_cons (xv 2) pa_nil))))
      (pss_cons (xs_if (pt_not (xt_truK K (pe_callG G_lot (hr.mono (by omega)) hg (by rfl) T.g_lot T.F_lot.kp T.b_lot pass0 (pa_cons (xv 3) (pa_cons (xv 6) (pa_cons (xv 7) (pa_cons (xv 5) pa_nil)))))))
      (pss_one (ps_ret pe_bl))
      pss_nil)
      (pss_cons (ps_set (i := 8) sc_law.nd rfl (.inl rfl) (pe_callTy (call_tupleK K) (by rfl) T.m_tuple (by decide +kernel) (pa_cons (pe_call G_some (hr.mono (by omega)) (by rfl) T.g_some T.F_some.kp T.b_some .nil pass0 (pa_cons (xv 1) (pa_cons (pe_call G_mingled (hr.mono (by omega)) (by rfl) T.g_mingled T.F_mingled.kp T.b_mingled .nil pass0 (pa_cons (xv 1) (pa_cons (xv 3) pa_nil))) pa_nil))) pa_nil)))
      (pss_one (ps_ret (pe_callG G_lot (hr.mono (by omega)) hg (by rfl) T.g_lot T.F_lot.kp T.b_lot pass0 (pa_cons (xv 3) (pa_cons (xv 8) (pa_cons (xv 7) (pa_cons (pe_lst pa_nil) pa_nil)))))))))))))))), ?_⟩
    refine ⟨H, [], a, nn, rfl, sep0, ha, hl, fun b o1 G1 H1 _ B1 S1 => ⟨sz, fun lu nlu => ?_⟩⟩
    have S2 := (S1.new (o := .lst []) nlu).sw
    refine ⟨sz, fun l8 nl8 => ?_⟩
    obtain ⟨G2, s2, S3, h8⟩ := Sep.mk (o := .lst [.int 1, .int 2, .int 2, .int 3]) S2 nl8
    refine ⟨G2, _, b, o1, 4, rfl, S3, B1.same s2, by decide, by decide, fun r9 o2 H2 r90 r91 B2 S4 => ?_⟩
    obtain ⟨m, hm, m0, m3⟩ : ∃ m : Nat, atI [V.int 1, .int 2, .int 2, .int 3] r9 = some (.int (m : Nat)) ∧ 1 ≤ m ∧ m ≤ 3 := by
      rcases (by omega : r9 = 0 ∨ r9 = 1 ∨ r9 = 2 ∨ r9 = 3) with rfl | rfl | rfl | rfl
      · exact ⟨1, atI_nat (j := 0) rfl, by decide, by decide⟩
      · exact ⟨2, atI_nat (j := 1) rfl, by decide, by decide⟩
      · exact ⟨2, atI_nat (j := 2) rfl, by decide, by decide⟩
      · exact ⟨3, atI_nat (j := 3) rfl, by decide, by decide⟩
    refine ⟨_, _, .inl (SqL.of (S4.st h8)), hm, _, rfl, by omega, by omega, fun D nD => lc_range (lo := 0) (n := ((m : Nat) : Int).toNat) (fun i H' => ∃ (o' : HO) (zs : List Str), zs.length = i ∧ zs.Nodup ∧ (∀ z ∈ zs, Lt 1 8 z) ∧ Bag G2 o' ∧ Sep G2 [(D, .lst (zs.map V.str)), (b, o'), (lu, .lst (zs.map V.str))] H') ⟨o2, [], rfl, .nil, (fun _ h => nomatch h), B2, S4.new nD⟩ (fun i H' hi h => ?_) (fun H4 h => ?_)⟩
    · obtain ⟨o', zs, zl, znd, hz, B', S'⟩ := h
      have hi2 : i < m := by omega
      refine ⟨rfl, G2, _, b, o', lu, zs, rfl, S'.perm (List.perm_append_comm_assoc [_] [_, _] []), B', hz, by omega, fun z o6 H6 ltz nin _ _ B6 S6 => ?_⟩
      have S7 := S6.perm (List.perm_append_comm_assoc [_, _] [_] [])
      refine ⟨_, S7.hd, smallL (by rw [List.length_map]; omega), o6, zs ++ [z], by rw [List.length_append, zl]; rfl, List.nodup_append.mpr ⟨znd, by simp, fun x hx y hy e => nin (by rw [List.mem_singleton.mp hy] at e; rw [← e]; exact hx)⟩, fun y h => ?_, B6, ?_⟩
      · rcases List.mem_append.mp h with k | k
        · exact hz y k
        · rw [List.mem_singleton.mp k]
          exact ltz
      · have := S7.set (o' := .lst (zs.map V.str ++ [.str z]))
        rw [show zs.map V.str ++ [V.str z] = (zs ++ [z]).map V.str by rw [List.map_append]; rfl] at this ⊢
        exact this
    obtain ⟨o3, ns, nl, nnd, hns, B3, S5⟩ := h
    have ok : NsOk ns := ⟨by omega, by omega, nnd, hns⟩
    have n3 := ok.hi
    refine ⟨D, _, rfl, .inl ⟨SqL.of S5.hd, fun t nt => ?_⟩⟩
    obtain ⟨G3, s3, S6, ht⟩ := Sep.mk (o := .tup (ns.map V.str)) S5.drop nt
    have B4 := B3.same s3
    -- the form
    refine ⟨t, _, rfl, .inr (SqT.of (S6.st ht)), fun L nL => ?_⟩
    obtain ⟨G4, s4, S7, hL⟩ := Sep.mk (o := .lst (ns.map V.str)) S6 nL
    refine ⟨G4, _, b, o3, 2, rfl, S7, B4.same s4, by decide, by decide, fun r5 o5 H5 r50 r51 B5 S8 => ?_⟩
    refine ⟨G4, _, b, o5, L, ns, _, rfl, S8, B5, hL, by omega, by omega, by omega, by omega, fun v f o6 G6 H6 s6 hf fo fd B6 S9 => ?_⟩
    have s36 := s4.trans s6
    have ht6 := SqT.of (K := K) (s36 _ _ ht)
    refine ⟨G6, _, v, t, f, ns, rfl, S9, hf, fo, by omega, ht6, ok, fun lc us cs G7 H7 s7 hlc hus hch hcl S10 => ?_⟩
    have s37 := s36.trans s7
    have B7 := B6.same s7
    have hcs := chg_ok ok fo hch
    -- needed
    refine ⟨t, rfl, ⟨_, SqT.of (S10.st (s37 _ _ ht))⟩, fun N nN => lc_tup (xs := ns.map V.str) (fun i H' => ∃ G' : Hp, Same G7 G' ∧ Sep G' [(N, .lst (((ns.take i).filter fun x => decide ([x] ∈ cs)).map V.str)), (b, o6), (lu, .lst (ns.map V.str))] H') ⟨G7, Same.refl _, S10.new nN⟩ (fun i H' _ p => ?_) (fun i y H' hy p => ⟨rfl, ?_⟩) (fun H' p => ?_)⟩
    · obtain ⟨G', s', S'⟩ := p
      exact SqT.of (S'.st (s' _ _ (s37 _ _ ht)))
    · obtain ⟨G8, s8, S11⟩ := p
      rw [List.getElem?_map] at hy
      obtain ⟨x, hx, rfl⟩ := Option.map_eq_some_iff.mp hy
      have il := (List.getElem?_eq_some_iff.mp hx).1
      have xm := List.mem_of_getElem? hx
      have ll : (((ns.take i).filter fun x => decide ([x] ∈ cs)).map V.str).length ≤ 100 := by
        rw [List.length_map]
        refine Nat.le_trans (List.length_filter_le _ _) ?_
        rw [List.length_take]
        omega
      refine ⟨sz, fun t1 nt1 => ?_⟩
      obtain ⟨G9, s9, S12, ht1⟩ := Sep.mk (o := .tup [.str x]) S11 nt1
      have h1 : Dp K G9 (.ref t1) (sD [x]) := sD_of (SqT.of ht1)
      have s79 := s8.trans s9
      refine ⟨sD [x], cs.map sD, dp_same S12.1 h1, .inl (.lst (SqL.of (S12.st (s79 _ _ hlc))) (dpa_same (s79.trans S12.1) hus)), sD_shaped (fun z hz => by rw [List.mem_singleton.mp hz]; exact ok.lt x xm), sDs_cl (fun c hc => sets_lt ok c (hcs c hc).1), ?_⟩
      rw [sD_any]
      refine tst (fun e => ?_) (fun e => ?_)
      · have e : decide ([x] ∈ cs) = true := e
        refine ⟨_, S12.hd, smallL (by omega), G9, s79, ?_⟩
        rw [take_snoc hx, List.filter_append, List.map_append, show ([x].filter fun x => decide ([x] ∈ cs)) = [x] by simp only [List.filter]; rw [e]]
        exact S12.set
      · have e : decide ([x] ∈ cs) = false := e
        refine ⟨G9, s79, ?_⟩
        rw [take_snoc hx, List.filter_append, show ([x].filter fun x => decide ([x] ∈ cs)) = [] by simp only [List.filter]; rw [e], List.append_nil]
        exact S12
    obtain ⟨G8, s8, S11⟩ := p
    rw [List.length_map, List.take_length] at S11
    obtain ⟨G9, s9, S12, hN⟩ := Sep.keep S11
    have s79 := s8.trans s9
    have fl : (ns.filter fun x => decide ([x] ∈ cs)).length ≤ 3 := Nat.le_trans (List.length_filter_le _ _) n3
    refine ⟨G9, _, b, o6, N, _, rfl, S12, B7.same s79, .inl (SqL.of hN), by rw [List.length_map]; omega, fun p ys o7 G10 H10 s10 hp perm B10 S13 => ?_⟩
    obtain ⟨nd, rfl, prm⟩ := perm_strs perm
    have ndl := prm.length_eq
    refine ⟨p, _, rfl, .inl ⟨SqL.of (S13.st hp), fun tn ntn => ?_⟩⟩
    obtain ⟨G11, s11, S14, htn⟩ := Sep.mk (o := .tup (nd.map V.str)) S13 ntn
    -- a strange name
    refine ⟨G11, [], b, o7, lu, ns, rfl, S14, B10.same s11, hns, by omega, fun st o8 H12 lts hst _ _ B12 S15 => ?_⟩
    have s711 := s79.trans (s10.trans s11)
    have s311 := s37.trans s711
    have ht11 := s311 _ _ ht
    refine ⟨G11, _, t, tn, lc, st, ns, nd, us, cs, rfl, S15, SqT.of ht11, ok, SqT.of htn, by omega, hst, s711 _ _ hlc, dpa_same s711 hus, fun c hc => ?_, fun G12 H13 s12 S16 => ⟨ff, fun _ => ?_⟩⟩
    · obtain ⟨c1, x, xc, xm, xcs⟩ := hcs c hc
      exact ⟨c1, List.any_eq_true.mpr ⟨x, xc, decide_eq_true (prm.mem_iff.mpr (List.mem_filter.mpr ⟨xm, decide_eq_true xcs⟩))⟩⟩
    have B13 := B12.same s12
    refine ⟨G12, _, b, o8, t, _, rfl, S16, B13, .inr (SqT.of (s12 _ _ ht11)), by rw [List.length_map]; omega, fun p2 ys2 o9 G13 H14 s13 hp2 perm2 B14 S17 => ?_⟩
    obtain ⟨n2, rfl, prm2⟩ := perm_strs perm2
    have n2l := prm2.length_eq
    refine ⟨G13, _, b, o9, p2, n2, rfl, S17, B14, hp2, by omega, fun p3 ys3 o10 G14 H15 s14 sub hp3 B15 S18 => ?_⟩
    have y3l := sub.length_le
    refine ⟨p3, _, rfl, .inl ⟨SqL.of (S18.st hp3), fun to nto => ?_⟩⟩
    obtain ⟨G15, s15, S19, hto⟩ := Sep.mk (o := .tup (ys3.map V.str)) S18 nto
    refine ⟨sz, fun le nle => ?_⟩
    obtain ⟨G16, s16, S20, hle⟩ := Sep.mk (o := .lst []) S19 nle
    have s1216 := s12.trans (s13.trans (s14.trans (s15.trans s16)))
    exact ⟨G16, _, t, to, le, st, ns, ys3, [], [], rfl, S20, SqT.of (s1216 _ _ ht11), ok, SqT.of (s16 _ _ hto), by omega, hst, hle, .nil, (fun c h => nomatch h), fun G17 H17 s17 S21 => q _⟩

end
end K39
set_option Elab.async false
set_option linter.all false
set_option maxRecDepth 100000
set_option maxHeartbeats 4000000
namespace K39
open PySem PySem.Spec PyProof.Rows L2 XL
section
theorem law_end {l : PySem.W.OpenLaw} {w : World} {K : PySem.W.Frag} {h : Heap} {mg : Str → Option Value} {fa f : Addr} (X : K.In h) (G : h.Ns mainGlobals mg) (hfa : mg "law" = some (.ref fa))
    (t : ∃ T : Top K mg w, T.a_law = f ∧ ∀ (s : Shared) (v : Value), BindsTo s T.d_law ⟨[v], []⟩ [("_law_script", v)]) :
    ∃ fd : FuncData, (∀ (s : Shared) (v : Value), BindsTo s fd ⟨[v], []⟩ [("_law_script", v)]) ∧ ∀ base : Heap, K.In base → base.Ns mainGlobals mg → FnG l.prog w K mg base CX0 9 fa fd ["_law_script"] (spLaw K) := by
  obtain ⟨T, _, hb⟩ := t
  have e := hfa.symm.trans T.g_law
  cases e
  refine ⟨T.d_law, hb, fun base _ _ => ?_⟩
  have Gp : ∀ k, FnOk l.prog w K mg base CX0 (k + 2) T.a_pick T.d_pick _ spPick := fun k => ok_pick T (k := k) (ok_mixed T)
  have Gch : ∀ k, FnOk l.prog w K mg base CX0 (k + 3) T.a_choice T.d_choice _ (spChoice K) := fun k => ok_choice T (k := k + 2) (Gp k)
  have Gmi : FnOk l.prog w K mg base CX0 8 T.a_mingled T.d_mingled _ (spMingled K) := ok_mingled T (k := 7) (Gp 5)
  have Gnn : FnOk l.prog w K mg base CX0 8 T.a_new_name T.d_new_name _ spNew := ok_new_name T (k := 7) (Gp 5)
  have Gso : FnOk l.prog w K mg base CX0 8 T.a_some T.d_some _ (spSome K) := ok_some T (k := 7) (Gp 5)
  have Gall : ∀ k, FnOk l.prog w K mg base CX0 (k + 3) T.a_all_sets T.d_all_sets _ (spAll K) := fun k => ok_all_sets T (k := k + 2) (ok_subsets T (k := k + 1) (ok_sized T (k := k)))
  have Ggd : ∀ k, FnOk l.prog w K mg base CX0 (k + 2) T.a_good_names T.d_good_names _ (spGood K) := fun k => ok_good_names T (k := k + 1) (ok_is_name T (k := k))
  have Gin : ∀ k, FnOk l.prog w K mg base CX0 (k + 4) T.a_Schedule_init T.d_Schedule_init _ (spSInit K T.C_Schedule) := fun k => ok_Schedule_init T (k := k + 3) (Ggd (k + 1)) (ok_in_order T (k := k + 2)) (Gall k)
  have Gms : FnOk l.prog w K mg base CX0 5 T.a_Schedule_missed T.d_Schedule_missed _ (spMissed K T.C_Schedule) := ok_Schedule_missed T (k := 4) (Gall 1) (ok_touches T (k := 3))
  have Gls : FnOk l.prog w K mg base CX0 6 T.a_Schedule_least T.d_Schedule_least _ (spLeast K T.C_Schedule) := ok_Schedule_least T (k := 4) (Ggd 2) (Gall 1) (ok_touches T (k := 3)) (Gin 0)
  have Gsp : FnOk l.prog w K mg base CX0 6 T.a_spoiling T.d_spoiling _ (spSpoil K T.C_Schedule) := ok_spoiling T (k := 5) Gms (ok_text_shape T (k := 4)) (ok_col_shape T (k := 4))
  have Gfo : FnOk l.prog w K mg base CX0 8 T.a_form T.d_form _ (spForm K 3) := ok_form T (k := 4) (Gp 2) (Gch 1) 3
  have Glb : FnOk l.prog w K mg base CX0 5 T.a_labels T.d_labels _ (spLabels K) := (ok_labels T (k := 2) (ok_value T 1)).mono (by decide)
  have Gsh : FnOk l.prog w K mg base CX0 6 T.a_shown_needs T.d_shown_needs _ (spShown K) := ok_shown_needs T (k := 5) (ok_combinations T (k := 4)) Glb
  have Gcg : FnOk l.prog w K mg base CX0 8 T.a_changing T.d_changing _ (spChanging K) := (ok_changing T (k := 6) (ok_combinations T (k := 5)) (ok_value T 5)).mono (by decide)
  have Gtr : FnG l.prog w K mg base CX0 6 T.a_triple T.d_triple _ (spTri K) := ok_triple T (k := 5) (ok_settings_told T (k := 4) (ok_number T)) Glb
  have Glo : FnG l.prog w K mg base CX0 8 T.a_lot T.d_lot _ (spLot K) := ok_lot T (k := 6) (ok_sets T (k := 5)) Gsh Gls (Gin 2) (ok_has T (k := 5)) Gsp (ok_Schedule_le T (k := 5)) Gtr
  exact ok_law T (k := 8) (ok_bag T) (Gp 6) Gnn Gfo Gcg Gmi Gso Glo
end
theorem top_mk {K : PySem.W.Frag} {W : World} {h : Heap} {mg : Str → Option Value} (X : K.In h) (G : h.Ns mainGlobals mg)
    {mc0 : Value}
    {C0 : Addr}
    (ca0 : PySem.W.nsIn K mainGlobals "Schedule" = some (some (.ref C0)))
    (cr0 : PySem.W.typeIn K (.ref C0) = some mc0)
    {f0 : Addr} {od0 an0 : Option Addr} {sl0 : Array (Option Value)} {oc0 kV0 dc0 pm0 cd0 ct0 : Value}
    (a0 : PySem.W.nsIn K mainGlobals "is_name" = some (some (.ref f0)))
    (l0 : K.lookup f0 = some ⟨oc0, od0, .func (PySem.W.fnOf "is_name" "is_name" (defArgs s_is_name) (defBody s_is_name) (defScope s_is_name) .none kV0 dc0 pm0 an0 cd0 ct0), sl0⟩)
    (c0 : PySem.W.codeIn K cd0 "is_name" = true)
    (k0 : PySem.W.keepIn K (.ref f0) = true)
    {f1 : Addr} {od1 an1 : Option Addr} {sl1 : Array (Option Value)} {oc1 kV1 dc1 pm1 cd1 ct1 : Value}
    (a1 : PySem.W.nsIn K mainGlobals "sized_subsets" = some (some (.ref f1)))
    (l1 : K.lookup f1 = some ⟨oc1, od1, .func (PySem.W.fnOf "sized_subsets" "sized_subsets" (defArgs s_sized_subsets) (defBody s_sized_subsets) (defScope s_sized_subsets) .none kV1 dc1 pm1 an1 cd1 ct1), sl1⟩)
    (c1 : PySem.W.codeIn K cd1 "sized_subsets" = true)
    (k1 : PySem.W.keepIn K (.ref f1) = true)
    {f2 : Addr} {od2 an2 : Option Addr} {sl2 : Array (Option Value)} {oc2 kV2 dc2 pm2 cd2 ct2 : Value}
    (a2 : PySem.W.nsIn K mainGlobals "subsets" = some (some (.ref f2)))
    (l2 : K.lookup f2 = some ⟨oc2, od2, .func (PySem.W.fnOf "subsets" "subsets" (defArgs s_subsets) (defBody s_subsets) (defScope s_subsets) .none kV2 dc2 pm2 an2 cd2 ct2), sl2⟩)
    (c2 : PySem.W.codeIn K cd2 "subsets" = true)
    (k2 : PySem.W.keepIn K (.ref f2) = true)
    {f3 : Addr} {od3 an3 : Option Addr} {sl3 : Array (Option Value)} {oc3 kV3 dc3 pm3 cd3 ct3 : Value}
    (a3 : PySem.W.nsIn K mainGlobals "text_shape" = some (some (.ref f3)))
    (l3 : K.lookup f3 = some ⟨oc3, od3, .func (PySem.W.fnOf "text_shape" "text_shape" (defArgs s_text_shape) (defBody s_text_shape) (defScope s_text_shape) .none kV3 dc3 pm3 an3 cd3 ct3), sl3⟩)
    (c3 : PySem.W.codeIn K cd3 "text_shape" = true)
    (k3 : PySem.W.keepIn K (.ref f3) = true)
    {f4 : Addr} {od4 an4 : Option Addr} {sl4 : Array (Option Value)} {oc4 kV4 dc4 pm4 cd4 ct4 : Value}
    (a4 : PySem.W.nsIn K mainGlobals "col_shape" = some (some (.ref f4)))
    (l4 : K.lookup f4 = some ⟨oc4, od4, .func (PySem.W.fnOf "col_shape" "col_shape" (defArgs s_col_shape) (defBody s_col_shape) (defScope s_col_shape) .none kV4 dc4 pm4 an4 cd4 ct4), sl4⟩)
    (c4 : PySem.W.codeIn K cd4 "col_shape" = true)
    (k4 : PySem.W.keepIn K (.ref f4) = true)
    {f5 : Addr} {od5 an5 : Option Addr} {sl5 : Array (Option Value)} {oc5 kV5 dc5 pm5 cd5 ct5 : Value}
    (a5 : PySem.W.nsIn K mainGlobals "good_names" = some (some (.ref f5)))
    (l5 : K.lookup f5 = some ⟨oc5, od5, .func (PySem.W.fnOf "good_names" "good_names" (defArgs s_good_names) (defBody s_good_names) (defScope s_good_names) .none kV5 dc5 pm5 an5 cd5 ct5), sl5⟩)
    (c5 : PySem.W.codeIn K cd5 "good_names" = true)
    (k5 : PySem.W.keepIn K (.ref f5) = true)
    {f6 : Addr} {od6 an6 : Option Addr} {sl6 : Array (Option Value)} {oc6 kV6 dc6 pm6 cd6 ct6 : Value}
    (a6 : PySem.W.nsIn K mainGlobals "in_order" = some (some (.ref f6)))
    (l6 : K.lookup f6 = some ⟨oc6, od6, .func (PySem.W.fnOf "in_order" "in_order" (defArgs s_in_order) (defBody s_in_order) (defScope s_in_order) .none kV6 dc6 pm6 an6 cd6 ct6), sl6⟩)
    (c6 : PySem.W.codeIn K cd6 "in_order" = true)
    (k6 : PySem.W.keepIn K (.ref f6) = true)
    {f7 : Addr} {od7 an7 : Option Addr} {sl7 : Array (Option Value)} {oc7 kV7 dc7 pm7 cd7 ct7 : Value}
    (a7 : PySem.W.nsIn K mainGlobals "all_sets" = some (some (.ref f7)))
    (l7 : K.lookup f7 = some ⟨oc7, od7, .func (PySem.W.fnOf "all_sets" "all_sets" (defArgs s_all_sets) (defBody s_all_sets) (defScope s_all_sets) .none kV7 dc7 pm7 an7 cd7 ct7), sl7⟩)
    (c7 : PySem.W.codeIn K cd7 "all_sets" = true)
    (k7 : PySem.W.keepIn K (.ref f7) = true)
    {f8 : Addr} {od8 an8 : Option Addr} {sl8 : Array (Option Value)} {oc8 kV8 dc8 pm8 cd8 ct8 : Value}
    (a8 : PySem.W.nsIn K mainGlobals "touches" = some (some (.ref f8)))
    (l8 : K.lookup f8 = some ⟨oc8, od8, .func (PySem.W.fnOf "touches" "touches" (defArgs s_touches) (defBody s_touches) (defScope s_touches) .none kV8 dc8 pm8 an8 cd8 ct8), sl8⟩)
    (c8 : PySem.W.codeIn K cd8 "touches" = true)
    (k8 : PySem.W.keepIn K (.ref f8) = true)
    {f9 : Addr} {od9 an9 : Option Addr} {sl9 : Array (Option Value)} {oc9 kV9 dc9 pm9 cd9 ct9 : Value}
    (a9 : PySem.W.findIn K (.ref C0) "__init__" = some (some (.ref f9)))
    (i9 : PySem.W.isFn K (.ref f9) = true)
    (l9 : K.lookup f9 = some ⟨oc9, od9, .func (PySem.W.fnOf "__init__" "Schedule.__init__" (defArgs s_Schedule_init) (defBody s_Schedule_init) (defScope s_Schedule_init) .none kV9 dc9 pm9 an9 cd9 ct9), sl9⟩)
    (c9 : PySem.W.codeIn K cd9 "Schedule.__init__" = true)
    (k9 : PySem.W.keepIn K (.ref f9) = true)
    {f10 : Addr} {od10 an10 : Option Addr} {sl10 : Array (Option Value)} {oc10 kV10 dc10 pm10 cd10 ct10 : Value}
    (a10 : PySem.W.findIn K (.ref C0) "__le__" = some (some (.ref f10)))
    (i10 : PySem.W.isFn K (.ref f10) = true)
    (l10 : K.lookup f10 = some ⟨oc10, od10, .func (PySem.W.fnOf "__le__" "Schedule.__le__" (defArgs s_Schedule_le) (defBody s_Schedule_le) (defScope s_Schedule_le) .none kV10 dc10 pm10 an10 cd10 ct10), sl10⟩)
    (c10 : PySem.W.codeIn K cd10 "Schedule.__le__" = true)
    (k10 : PySem.W.keepIn K (.ref f10) = true)
    {f11 : Addr} {od11 an11 : Option Addr} {sl11 : Array (Option Value)} {oc11 kV11 dc11 pm11 cd11 ct11 : Value}
    (a11 : PySem.W.findIn K (.ref C0) "missed" = some (some (.ref f11)))
    (i11 : PySem.W.isFn K (.ref f11) = true)
    (l11 : K.lookup f11 = some ⟨oc11, od11, .func (PySem.W.fnOf "missed" "Schedule.missed" (defArgs s_Schedule_missed) (defBody s_Schedule_missed) (defScope s_Schedule_missed) .none kV11 dc11 pm11 an11 cd11 ct11), sl11⟩)
    (c11 : PySem.W.codeIn K cd11 "Schedule.missed" = true)
    (k11 : PySem.W.keepIn K (.ref f11) = true)
    {f12 : Addr} {od12 an12 : Option Addr} {sl12 : Array (Option Value)} {oc12 kV12 dc12 pm12 cd12 ct12 : Value}
    {p12 : Addr} {pr12 : List Value}
    (a12 : PySem.W.findCls K (.ref C0) mc0 "least" = some (.get (.builtin "staticmethod.__get__") (.ref p12) .none (.ref C0)))
    (pc12 : PySem.W.recIn K p12 "staticmethod" = some (.ref f12 :: pr12))
    (l12 : K.lookup f12 = some ⟨oc12, od12, .func (PySem.W.fnOf "least" "Schedule.least" (defArgs s_Schedule_least) (defBody s_Schedule_least) (defScope s_Schedule_least) .none kV12 dc12 pm12 an12 cd12 ct12), sl12⟩)
    (c12 : PySem.W.codeIn K cd12 "Schedule.least" = true)
    (k12 : PySem.W.keepIn K (.ref f12) = true)
    {f13 : Addr} {od13 an13 : Option Addr} {sl13 : Array (Option Value)} {oc13 kV13 dc13 pm13 cd13 ct13 : Value}
    (a13 : PySem.W.nsIn K mainGlobals "spoiling" = some (some (.ref f13)))
    (l13 : K.lookup f13 = some ⟨oc13, od13, .func (PySem.W.fnOf "spoiling" "spoiling" (defArgs s_spoiling) (defBody s_spoiling) (defScope s_spoiling) .none kV13 dc13 pm13 an13 cd13 ct13), sl13⟩)
    (c13 : PySem.W.codeIn K cd13 "spoiling" = true)
    (k13 : PySem.W.keepIn K (.ref f13) = true)
    {f14 : Addr} {od14 an14 : Option Addr} {sl14 : Array (Option Value)} {oc14 kV14 dc14 pm14 cd14 ct14 : Value}
    (a14 : PySem.W.nsIn K mainGlobals "_law_mixed" = some (some (.ref f14)))
    (l14 : K.lookup f14 = some ⟨oc14, od14, .func (PySem.W.fnOf "_law_mixed" "_law_mixed" (defArgs s_mixed) (defBody s_mixed) (defScope s_mixed) .none kV14 dc14 pm14 an14 cd14 ct14), sl14⟩)
    (c14 : PySem.W.codeIn K cd14 "_law_mixed" = true)
    (k14 : PySem.W.keepIn K (.ref f14) = true)
    {f15 : Addr} {od15 an15 : Option Addr} {sl15 : Array (Option Value)} {oc15 kV15 dc15 pm15 cd15 ct15 : Value}
    (a15 : PySem.W.nsIn K mainGlobals "_law_bag" = some (some (.ref f15)))
    (l15 : K.lookup f15 = some ⟨oc15, od15, .func (PySem.W.fnOf "_law_bag" "_law_bag" (defArgs s_bag) (defBody s_bag) (defScope s_bag) .none kV15 dc15 pm15 an15 cd15 ct15), sl15⟩)
    (c15 : PySem.W.codeIn K cd15 "_law_bag" = true)
    (k15 : PySem.W.keepIn K (.ref f15) = true)
    {f16 : Addr} {od16 an16 : Option Addr} {sl16 : Array (Option Value)} {oc16 kV16 dc16 pm16 cd16 ct16 : Value}
    (a16 : PySem.W.nsIn K mainGlobals "_law_pick" = some (some (.ref f16)))
    (l16 : K.lookup f16 = some ⟨oc16, od16, .func (PySem.W.fnOf "_law_pick" "_law_pick" (defArgs s_pick) (defBody s_pick) (defScope s_pick) .none kV16 dc16 pm16 an16 cd16 ct16), sl16⟩)
    (c16 : PySem.W.codeIn K cd16 "_law_pick" = true)
    (k16 : PySem.W.keepIn K (.ref f16) = true)
    {f17 : Addr} {od17 an17 : Option Addr} {sl17 : Array (Option Value)} {oc17 kV17 dc17 pm17 cd17 ct17 : Value}
    (a17 : PySem.W.nsIn K mainGlobals "_law_choice" = some (some (.ref f17)))
    (l17 : K.lookup f17 = some ⟨oc17, od17, .func (PySem.W.fnOf "_law_choice" "_law_choice" (defArgs s_choice) (defBody s_choice) (defScope s_choice) .none kV17 dc17 pm17 an17 cd17 ct17), sl17⟩)
    (c17 : PySem.W.codeIn K cd17 "_law_choice" = true)
    (k17 : PySem.W.keepIn K (.ref f17) = true)
    {f18 : Addr} {od18 an18 : Option Addr} {sl18 : Array (Option Value)} {oc18 kV18 dc18 pm18 cd18 ct18 : Value}
    (a18 : PySem.W.nsIn K mainGlobals "_law_mingled" = some (some (.ref f18)))
    (l18 : K.lookup f18 = some ⟨oc18, od18, .func (PySem.W.fnOf "_law_mingled" "_law_mingled" (defArgs s_mingled) (defBody s_mingled) (defScope s_mingled) .none kV18 dc18 pm18 an18 cd18 ct18), sl18⟩)
    (c18 : PySem.W.codeIn K cd18 "_law_mingled" = true)
    (k18 : PySem.W.keepIn K (.ref f18) = true)
    {f19 : Addr} {od19 an19 : Option Addr} {sl19 : Array (Option Value)} {oc19 kV19 dc19 pm19 cd19 ct19 : Value}
    (a19 : PySem.W.nsIn K mainGlobals "_law_number" = some (some (.ref f19)))
    (l19 : K.lookup f19 = some ⟨oc19, od19, .func (PySem.W.fnOf "_law_number" "_law_number" (defArgs s_number) (defBody s_number) (defScope s_number) .none kV19 dc19 pm19 an19 cd19 ct19), sl19⟩)
    (c19 : PySem.W.codeIn K cd19 "_law_number" = true)
    (k19 : PySem.W.keepIn K (.ref f19) = true)
    {f20 : Addr} {od20 an20 : Option Addr} {sl20 : Array (Option Value)} {oc20 kV20 dc20 pm20 cd20 ct20 : Value}
    (a20 : PySem.W.nsIn K mainGlobals "_law_new_name" = some (some (.ref f20)))
    (l20 : K.lookup f20 = some ⟨oc20, od20, .func (PySem.W.fnOf "_law_new_name" "_law_new_name" (defArgs s_new_name) (defBody s_new_name) (defScope s_new_name) .none kV20 dc20 pm20 an20 cd20 ct20), sl20⟩)
    (c20 : PySem.W.codeIn K cd20 "_law_new_name" = true)
    (k20 : PySem.W.keepIn K (.ref f20) = true)
    {f21 : Addr} {od21 an21 : Option Addr} {sl21 : Array (Option Value)} {oc21 kV21 dc21 pm21 cd21 ct21 : Value}
    (a21 : PySem.W.nsIn K mainGlobals "_law_form" = some (some (.ref f21)))
    (l21 : K.lookup f21 = some ⟨oc21, od21, .func (PySem.W.fnOf "_law_form" "_law_form" (defArgs s_form) (defBody s_form) (defScope s_form) .none kV21 dc21 pm21 an21 cd21 ct21), sl21⟩)
    (c21 : PySem.W.codeIn K cd21 "_law_form" = true)
    (k21 : PySem.W.keepIn K (.ref f21) = true)
    {f22 : Addr} {od22 an22 : Option Addr} {sl22 : Array (Option Value)} {oc22 kV22 dc22 pm22 cd22 ct22 : Value}
    (a22 : PySem.W.nsIn K mainGlobals "_law_value" = some (some (.ref f22)))
    (l22 : K.lookup f22 = some ⟨oc22, od22, .func (PySem.W.fnOf "_law_value" "_law_value" (defArgs s_value) (defBody s_value) (defScope s_value) .none kV22 dc22 pm22 an22 cd22 ct22), sl22⟩)
    (c22 : PySem.W.codeIn K cd22 "_law_value" = true)
    (k22 : PySem.W.keepIn K (.ref f22) = true)
    {f23 : Addr} {od23 an23 : Option Addr} {sl23 : Array (Option Value)} {oc23 kV23 dc23 pm23 cd23 ct23 : Value}
    (a23 : PySem.W.nsIn K mainGlobals "_law_some" = some (some (.ref f23)))
    (l23 : K.lookup f23 = some ⟨oc23, od23, .func (PySem.W.fnOf "_law_some" "_law_some" (defArgs s_some) (defBody s_some) (defScope s_some) .none kV23 dc23 pm23 an23 cd23 ct23), sl23⟩)
    (c23 : PySem.W.codeIn K cd23 "_law_some" = true)
    (k23 : PySem.W.keepIn K (.ref f23) = true)
    {f24 : Addr} {od24 an24 : Option Addr} {sl24 : Array (Option Value)} {oc24 kV24 dc24 pm24 cd24 ct24 : Value}
    (a24 : PySem.W.nsIn K mainGlobals "_law_sets" = some (some (.ref f24)))
    (l24 : K.lookup f24 = some ⟨oc24, od24, .func (PySem.W.fnOf "_law_sets" "_law_sets" (defArgs s_sets) (defBody s_sets) (defScope s_sets) .none kV24 dc24 pm24 an24 cd24 ct24), sl24⟩)
    (c24 : PySem.W.codeIn K cd24 "_law_sets" = true)
    (k24 : PySem.W.keepIn K (.ref f24) = true)
    {f25 : Addr} {od25 an25 : Option Addr} {sl25 : Array (Option Value)} {oc25 kV25 dc25 pm25 cd25 ct25 : Value}
    (a25 : PySem.W.nsIn K mainGlobals "_law_has" = some (some (.ref f25)))
    (l25 : K.lookup f25 = some ⟨oc25, od25, .func (PySem.W.fnOf "_law_has" "_law_has" (defArgs s_has) (defBody s_has) (defScope s_has) .none kV25 dc25 pm25 an25 cd25 ct25), sl25⟩)
    (c25 : PySem.W.codeIn K cd25 "_law_has" = true)
    (k25 : PySem.W.keepIn K (.ref f25) = true)
    {f26 : Addr} {od26 an26 : Option Addr} {sl26 : Array (Option Value)} {oc26 kV26 dc26 pm26 cd26 ct26 : Value}
    (a26 : PySem.W.nsIn K mainGlobals "_law_combinations" = some (some (.ref f26)))
    (l26 : K.lookup f26 = some ⟨oc26, od26, .func (PySem.W.fnOf "_law_combinations" "_law_combinations" (defArgs s_combinations) (defBody s_combinations) (defScope s_combinations) .none kV26 dc26 pm26 an26 cd26 ct26), sl26⟩)
    (c26 : PySem.W.codeIn K cd26 "_law_combinations" = true)
    (k26 : PySem.W.keepIn K (.ref f26) = true)
    {f27 : Addr} {od27 an27 : Option Addr} {sl27 : Array (Option Value)} {oc27 kV27 dc27 pm27 cd27 ct27 : Value}
    (a27 : PySem.W.nsIn K mainGlobals "_law_labels" = some (some (.ref f27)))
    (l27 : K.lookup f27 = some ⟨oc27, od27, .func (PySem.W.fnOf "_law_labels" "_law_labels" (defArgs s_labels) (defBody s_labels) (defScope s_labels) .none kV27 dc27 pm27 an27 cd27 ct27), sl27⟩)
    (c27 : PySem.W.codeIn K cd27 "_law_labels" = true)
    (k27 : PySem.W.keepIn K (.ref f27) = true)
    {f28 : Addr} {od28 an28 : Option Addr} {sl28 : Array (Option Value)} {oc28 kV28 dc28 pm28 cd28 ct28 : Value}
    (a28 : PySem.W.nsIn K mainGlobals "_law_shown_needs" = some (some (.ref f28)))
    (l28 : K.lookup f28 = some ⟨oc28, od28, .func (PySem.W.fnOf "_law_shown_needs" "_law_shown_needs" (defArgs s_shown_needs) (defBody s_shown_needs) (defScope s_shown_needs) .none kV28 dc28 pm28 an28 cd28 ct28), sl28⟩)
    (c28 : PySem.W.codeIn K cd28 "_law_shown_needs" = true)
    (k28 : PySem.W.keepIn K (.ref f28) = true)
    {f29 : Addr} {od29 an29 : Option Addr} {sl29 : Array (Option Value)} {oc29 kV29 dc29 pm29 cd29 ct29 : Value}
    (a29 : PySem.W.nsIn K mainGlobals "_law_changing" = some (some (.ref f29)))
    (l29 : K.lookup f29 = some ⟨oc29, od29, .func (PySem.W.fnOf "_law_changing" "_law_changing" (defArgs s_changing) (defBody s_changing) (defScope s_changing) .none kV29 dc29 pm29 an29 cd29 ct29), sl29⟩)
    (c29 : PySem.W.codeIn K cd29 "_law_changing" = true)
    (k29 : PySem.W.keepIn K (.ref f29) = true)
    {f30 : Addr} {od30 an30 : Option Addr} {sl30 : Array (Option Value)} {oc30 kV30 dc30 pm30 cd30 ct30 : Value}
    (a30 : PySem.W.nsIn K mainGlobals "_law_settings_told" = some (some (.ref f30)))
    (l30 : K.lookup f30 = some ⟨oc30, od30, .func (PySem.W.fnOf "_law_settings_told" "_law_settings_told" (defArgs s_settings_told) (defBody s_settings_told) (defScope s_settings_told) .none kV30 dc30 pm30 an30 cd30 ct30), sl30⟩)
    (c30 : PySem.W.codeIn K cd30 "_law_settings_told" = true)
    (k30 : PySem.W.keepIn K (.ref f30) = true)
    {f31 : Addr} {od31 an31 : Option Addr} {sl31 : Array (Option Value)} {oc31 kV31 dc31 pm31 cd31 ct31 : Value}
    (a31 : PySem.W.nsIn K mainGlobals "_law_triple" = some (some (.ref f31)))
    (l31 : K.lookup f31 = some ⟨oc31, od31, .func (PySem.W.fnOf "_law_triple" "_law_triple" (defArgs s_triple) (defBody s_triple) (defScope s_triple) .none kV31 dc31 pm31 an31 cd31 ct31), sl31⟩)
    (c31 : PySem.W.codeIn K cd31 "_law_triple" = true)
    (k31 : PySem.W.keepIn K (.ref f31) = true)
    {f32 : Addr} {od32 an32 : Option Addr} {sl32 : Array (Option Value)} {oc32 kV32 dc32 pm32 cd32 ct32 : Value}
    (a32 : PySem.W.nsIn K mainGlobals "_law_lot" = some (some (.ref f32)))
    (l32 : K.lookup f32 = some ⟨oc32, od32, .func (PySem.W.fnOf "_law_lot" "_law_lot" (defArgs s_lot) (defBody s_lot) (defScope s_lot) .none kV32 dc32 pm32 an32 cd32 ct32), sl32⟩)
    (c32 : PySem.W.codeIn K cd32 "_law_lot" = true)
    (k32 : PySem.W.keepIn K (.ref f32) = true)
    {f33 : Addr} {od33 an33 : Option Addr} {sl33 : Array (Option Value)} {oc33 kV33 dc33 pm33 cd33 ct33 : Value}
    (a33 : PySem.W.nsIn K mainGlobals "law" = some (some (.ref f33)))
    (l33 : K.lookup f33 = some ⟨oc33, od33, .func (PySem.W.fnOf "law" "law" (defArgs s_law) (defBody s_law) (defScope s_law) .none kV33 dc33 pm33 an33 cd33 ct33), sl33⟩)
    (c33 : PySem.W.codeIn K cd33 "law" = true)
    (k33 : PySem.W.keepIn K (.ref f33) = true)
    (z0 : PySem.W.nsIn K mainGlobals "NotImplemented" = some none)
    (z1 : PySem.W.nsIn K mainGlobals "abs" = some none)
    (z2 : PySem.W.nsIn K mainGlobals "all" = some none)
    (z3 : PySem.W.nsIn K mainGlobals "bool" = some none)
    (z4 : PySem.W.nsIn K mainGlobals "dict" = some none)
    (z5 : PySem.W.nsIn K mainGlobals "enumerate" = some none)
    (z6 : PySem.W.nsIn K mainGlobals "int" = some none)
    (z7 : PySem.W.nsIn K mainGlobals "isinstance" = some none)
    (z8 : PySem.W.nsIn K mainGlobals "len" = some none)
    (z9 : PySem.W.nsIn K mainGlobals "list" = some none)
    (z10 : PySem.W.nsIn K mainGlobals "range" = some none)
    (z11 : PySem.W.nsIn K mainGlobals "repr" = some none)
    (z12 : PySem.W.nsIn K mainGlobals "str" = some none)
    (z13 : PySem.W.nsIn K mainGlobals "tuple" = some none)
    {w0 : Value}
    (y0 : PySem.W.nsIn K mainGlobals "LETTERS" = some (some w0))
    (x0 : ∃ t, w0 = .str "abcdefghijklmnopqrstuvwxyz" t)
    {w1 : Value}
    (y1 : PySem.W.nsIn K mainGlobals "MOST_NAMES" = some (some w1))
    (x1 : ∃ t, w1 = .int 3 t)
    (cg0 : PySem.W.plainGet K C0 Str.empty = true)
    (ch0 : PySem.W.hasDictIn K C0 = true)
    (co0 : PySem.W.plainOver K C0 = true)
    (cs0 : PySem.W.findIn K (.ref C0) "__setattr__" = some (some (.builtin "object.__setattr__")))
    (cf0_0 : PySem.W.findIn K (.ref C0) "order" = some none)
    (cf0_1 : PySem.W.findIn K (.ref C0) "sets" = some none)
    (cra0 : PySem.W.readsIn K C0 mc0 = true)
    (crb0 : PySem.W.specialIn K (.ref C0) "__getattribute__" = some (some (.builtin "type.__getattribute__")))
    (cm0 : PySem.W.makesIn K C0 = true)
    (ck0 : PySem.W.keepIn K (.ref C0) = true)
    (ct0_a : PySem.W.findIn K (.ref C0) "__class__" = some (some (.builtin "object.__class__")))
    (ct0_b : PySem.W.specialIn K (.builtin "object.__class__") "__get__" = some (some (.builtin "getset_descriptor.__get__")))
    (ct0_c : PySem.W.takesIn K (.builtin "object.__class__") = some true)
    (ct0_d : PySem.W.mroIn K C0 (.type "object") = some true)
    : ∃ T : Top K mg W, T.a_law = f33 ∧ ∀ (s : Shared) (v : Value), BindsTo s T.d_law ⟨[v], []⟩ [("_law_script", v)] := by
  have F0 := fun_mk (st := s_is_name) l0 c0 k0
  have F1 := fun_mk (st := s_sized_subsets) l1 c1 k1
  have F2 := fun_mk (st := s_subsets) l2 c2 k2
  have F3 := fun_mk (st := s_text_shape) l3 c3 k3
  have F4 := fun_mk (st := s_col_shape) l4 c4 k4
  have F5 := fun_mk (st := s_good_names) l5 c5 k5
  have F6 := fun_mk (st := s_in_order) l6 c6 k6
  have F7 := fun_mk (st := s_all_sets) l7 c7 k7
  have F8 := fun_mk (st := s_touches) l8 c8 k8
  have F9 := fun_mk (st := s_Schedule_init) l9 c9 k9
  have F10 := fun_mk (st := s_Schedule_le) l10 c10 k10
  have F11 := fun_mk (st := s_Schedule_missed) l11 c11 k11
  have F12 := fun_mk (st := s_Schedule_least) l12 c12 k12
  have F13 := fun_mk (st := s_spoiling) l13 c13 k13
  have F14 := fun_mk (st := s_mixed) l14 c14 k14
  have F15 := fun_mk (st := s_bag) l15 c15 k15
  have F16 := fun_mk (st := s_pick) l16 c16 k16
  have F17 := fun_mk (st := s_choice) l17 c17 k17
  have F18 := fun_mk (st := s_mingled) l18 c18 k18
  have F19 := fun_mk (st := s_number) l19 c19 k19
  have F20 := fun_mk (st := s_new_name) l20 c20 k20
  have F21 := fun_mk (st := s_form) l21 c21 k21
  have F22 := fun_mk (st := s_value) l22 c22 k22
  have F23 := fun_mk (st := s_some) l23 c23 k23
  have F24 := fun_mk (st := s_sets) l24 c24 k24
  have F25 := fun_mk (st := s_has) l25 c25 k25
  have F26 := fun_mk (st := s_combinations) l26 c26 k26
  have F27 := fun_mk (st := s_labels) l27 c27 k27
  have F28 := fun_mk (st := s_shown_needs) l28 c28 k28
  have F29 := fun_mk (st := s_changing) l29 c29 k29
  have F30 := fun_mk (st := s_settings_told) l30 c30 k30
  have F31 := fun_mk (st := s_triple) l31 c31 k31
  have F32 := fun_mk (st := s_lot) l32 c32 k32
  have F33 := fun_mk (st := s_law) l33 c33 k33
  exact ⟨⟨PySem.W.mg_none_of X G z0,
    PySem.W.mg_none_of X G z1,
    PySem.W.mg_none_of X G z2,
    PySem.W.mg_none_of X G z3,
    PySem.W.mg_none_of X G z4,
    PySem.W.mg_none_of X G z5,
    PySem.W.mg_none_of X G z6,
    PySem.W.mg_none_of X G z7,
    PySem.W.mg_none_of X G z8,
    PySem.W.mg_none_of X G z9,
    PySem.W.mg_none_of X G z10,
    PySem.W.mg_none_of X G z11,
    PySem.W.mg_none_of X G z12,
    PySem.W.mg_none_of X G z13,
    (by obtain ⟨t, e⟩ := x0; exact ⟨t, e ▸ PySem.W.mg_of X G y0⟩),
    (by obtain ⟨t, e⟩ := x1; exact ⟨t, e ▸ PySem.W.mg_of X G y1⟩),
    f0,
    _,
    F0,
    F0.binds (ps := ["thing"]) (fun _ _ _ _ _ _ us hl => match us, hl with | [_], _ => rfl),
    PySem.W.mg_of X G a0,
    f1,
    _,
    F1,
    F1.binds (ps := ["count", "size"]) (fun _ _ _ _ _ _ us hl => match us, hl with | [_, _], _ => rfl),
    PySem.W.mg_of X G a1,
    f2,
    _,
    F2,
    F2.binds (ps := ["count"]) (fun _ _ _ _ _ _ us hl => match us, hl with | [_], _ => rfl),
    PySem.W.mg_of X G a2,
    f3,
    _,
    F3,
    F3.binds (ps := ["form"]) (fun _ _ _ _ _ _ us hl => match us, hl with | [_], _ => rfl),
    PySem.W.mg_of X G a3,
    f4,
    _,
    F4,
    (by exact bindS0 (B := fun us => bindArgs _ ⟨us, []⟩) rfl (fun _ _  => rfl)),
    PySem.W.mg_of X G a4,
    f5,
    _,
    F5,
    F5.binds (ps := ["names"]) (fun _ _ _ _ _ _ us hl => match us, hl with | [_], _ => rfl),
    PySem.W.mg_of X G a5,
    f6,
    _,
    F6,
    F6.binds (ps := ["names", "changed"]) (fun _ _ _ _ _ _ us hl => match us, hl with | [_, _], _ => rfl),
    PySem.W.mg_of X G a6,
    f7,
    _,
    F7,
    F7.binds (ps := ["names"]) (fun _ _ _ _ _ _ us hl => match us, hl with | [_], _ => rfl),
    PySem.W.mg_of X G a7,
    f8,
    _,
    F8,
    F8.binds (ps := ["changed", "needs"]) (fun _ _ _ _ _ _ us hl => match us, hl with | [_, _], _ => rfl),
    PySem.W.mg_of X G a8,
    f9,
    _,
    F9,
    F9.binds (ps := ["self", "names", "sets"]) (fun _ _ _ _ _ _ us hl => match us, hl with | [_, _, _], _ => rfl),
    f10,
    _,
    F10,
    F10.binds (ps := ["self", "other"]) (fun _ _ _ _ _ _ us hl => match us, hl with | [_, _], _ => rfl),
    f11,
    _,
    F11,
    F11.binds (ps := ["self", "needs"]) (fun _ _ _ _ _ _ us hl => match us, hl with | [_, _], _ => rfl),
    f12,
    _,
    F12,
    F12.binds (ps := ["names", "needs"]) (fun _ _ _ _ _ _ us hl => match us, hl with | [_, _], _ => rfl),
    f13,
    _,
    F13,
    F13.binds (ps := ["schedule", "needs"]) (fun _ _ _ _ _ _ us hl => match us, hl with | [_, _], _ => rfl),
    PySem.W.mg_of X G a13,
    f14,
    _,
    F14,
    F14.binds (ps := ["_law_number_here", "_law_turn"]) (fun _ _ _ _ _ _ us hl => match us, hl with | [_, _], _ => rfl),
    PySem.W.mg_of X G a14,
    f15,
    _,
    F15,
    F15.binds (ps := ["_law_script"]) (fun _ _ _ _ _ _ us hl => match us, hl with | [_], _ => rfl),
    PySem.W.mg_of X G a15,
    f16,
    _,
    F16,
    F16.binds (ps := ["_law_bag_here", "_law_many"]) (fun _ _ _ _ _ _ us hl => match us, hl with | [_, _], _ => rfl),
    PySem.W.mg_of X G a16,
    f17,
    _,
    F17,
    F17.binds (ps := ["_law_bag_here", "_law_things"]) (fun _ _ _ _ _ _ us hl => match us, hl with | [_, _], _ => rfl),
    PySem.W.mg_of X G a17,
    f18,
    _,
    F18,
    F18.binds (ps := ["_law_bag_here", "_law_things"]) (fun _ _ _ _ _ _ us hl => match us, hl with | [_, _], _ => rfl),
    PySem.W.mg_of X G a18,
    f19,
    _,
    F19,
    F19.binds (ps := ["_law_thing"]) (fun _ _ _ _ _ _ us hl => match us, hl with | [_], _ => rfl),
    PySem.W.mg_of X G a19,
    f20,
    _,
    F20,
    F20.binds (ps := ["_law_bag_here", "_law_used"]) (fun _ _ _ _ _ _ us hl => match us, hl with | [_, _], _ => rfl),
    PySem.W.mg_of X G a20,
    f21,
    _,
    F21,
    F21.binds (ps := ["_law_bag_here", "_law_readable", "_law_levels"]) (fun _ _ _ _ _ _ us hl => match us, hl with | [_, _, _], _ => rfl),
    PySem.W.mg_of X G a21,
    f22,
    _,
    F22,
    F22.binds (ps := ["_law_form_here", "_law_worths"]) (fun _ _ _ _ _ _ us hl => match us, hl with | [_, _], _ => rfl),
    PySem.W.mg_of X G a22,
    f23,
    _,
    F23,
    F23.binds (ps := ["_law_bag_here", "_law_things"]) (fun _ _ _ _ _ _ us hl => match us, hl with | [_, _], _ => rfl),
    PySem.W.mg_of X G a23,
    f24,
    _,
    F24,
    F24.binds (ps := ["_law_names"]) (fun _ _ _ _ _ _ us hl => match us, hl with | [_], _ => rfl),
    PySem.W.mg_of X G a24,
    f25,
    _,
    F25,
    F25.binds (ps := ["_law_one", "_law_needed"]) (fun _ _ _ _ _ _ us hl => match us, hl with | [_, _], _ => rfl),
    PySem.W.mg_of X G a25,
    f26,
    _,
    F26,
    F26.binds (ps := ["_law_names", "_law_size"]) (fun _ _ _ _ _ _ us hl => match us, hl with | [_, _], _ => rfl),
    PySem.W.mg_of X G a26,
    f27,
    _,
    F27,
    F27.binds (ps := ["_law_shape", "_law_setting"]) (fun _ _ _ _ _ _ us hl => match us, hl with | [_, _], _ => rfl),
    PySem.W.mg_of X G a27,
    f28,
    _,
    F28,
    F28.binds (ps := ["_law_shape", "_law_names"]) (fun _ _ _ _ _ _ us hl => match us, hl with | [_, _], _ => rfl),
    PySem.W.mg_of X G a28,
    f29,
    _,
    F29,
    F29.binds (ps := ["_law_form_here", "_law_names"]) (fun _ _ _ _ _ _ us hl => match us, hl with | [_, _], _ => rfl),
    PySem.W.mg_of X G a29,
    f30,
    _,
    F30,
    F30.binds (ps := ["_law_told", "_law_names", "_law_missed"]) (fun _ _ _ _ _ _ us hl => match us, hl with | [_, _, _], _ => rfl),
    PySem.W.mg_of X G a30,
    f31,
    _,
    F31,
    F31.binds (ps := ["_law_told", "_law_names", "_law_due", "_law_missed"]) (fun _ _ _ _ _ _ us hl => match us, hl with | [_, _, _, _], _ => rfl),
    PySem.W.mg_of X G a31,
    f32,
    _,
    F32,
    F32.binds (ps := ["_law_names", "_law_needed", "_law_strange", "_law_changing_here"]) (fun _ _ _ _ _ _ us hl => match us, hl with | [_, _, _, _], _ => rfl),
    PySem.W.mg_of X G a32,
    f33,
    _,
    F33,
    F33.binds (ps := ["_law_script"]) (fun _ _ _ _ _ _ us hl => match us, hl with | [_], _ => rfl),
    PySem.W.mg_of X G a33,
    C0,
    PySem.W.mg_of X G ca0,
    ⟨cg0, ch0, co0, cs0⟩,
    cf0_0,
    cf0_1,
    ⟨cm0, a9, i9, ck0⟩,
    ⟨a10, i10⟩,
    ⟨a11, i11, k11⟩,
    mc0,
    ⟨cra0, crb0⟩,
    ⟨_, a12, ⟨_, pc12⟩, k12⟩,
    ⟨ct0_a, ct0_b, ct0_c, ct0_d, if_pos (beq_self_eq_true _)⟩⟩, rfl, fun s v => .of_eq rfl⟩
end K39
open PySem PySem.W PyProof.Rows
set_option maxHeartbeats 0 in
theorem PySem.Challenge.cw_drawnanew_k39_whole_schedules_holds : PySem.Challenge.rw_drawnanew_k39_whole_schedules.Holds := by
  w_on; o_law; k_head; (case hw => w_witness2)
  k_fill
  refine XL.walk_ofG (l := PySem.Challenge.rw_drawnanew_k39_whole_schedules) (n := 63) (k := 9) (x := "_law_script") (CX := fun _ => L2.CX0) (sp := fun w => K39.spLaw _) rfl (by decide) rfl ⟨rfl, by decide, by decide⟩ (fun w h Y => PySem.W.kIn_of Y) ?F (fun _ _ a ns hl _ hS => ⟨a, ns, rfl, hS, hl, fun _ => rfl⟩) (fun _ _ _ _ _ h => h)
  case F =>
    intro w mg fa h KX G hmg
    refine' K39.law_end KX G hmg (K39.top_mk (W := w) KX G ?ca0 ?cr0 ?a0 ?l0 ?c0 ?k0 ?a1 ?l1 ?c1 ?k1 ?a2 ?l2 ?c2 ?k2 ?a3 ?l3 ?c3 ?k3 ?a4 ?l4 ?c4 ?k4 ?a5 ?l5 ?c5 ?k5 ?a6 ?l6 ?c6 ?k6 ?a7 ?l7 ?c7 ?k7 ?a8 ?l8 ?c8 ?k8 ?a9 ?i9 ?l9 ?c9 ?k9 ?a10 ?i10 ?l10 ?c10 ?k10 ?a11 ?i11 ?l11 ?c11 ?k11 ?a12 ?pc12 ?l12 ?c12 ?k12 ?a13 ?l13 ?c13 ?k13 ?a14 ?l14 ?c14 ?k14 ?a15 ?l15 ?c15 ?k15 ?a16 ?l16 ?c16 ?k16 ?a17 ?l17 ?c17 ?k17 ?a18 ?l18 ?c18 ?k18 ?a19 ?l19 ?c19 ?k19 ?a20 ?l20 ?c20 ?k20 ?a21 ?l21 ?c21 ?k21 ?a22 ?l22 ?c22 ?k22 ?a23 ?l23 ?c23 ?k23 ?a24 ?l24 ?c24 ?k24 ?a25 ?l25 ?c25 ?k25 ?a26 ?l26 ?c26 ?k26 ?a27 ?l27 ?c27 ?k27 ?a28 ?l28 ?c28 ?k28 ?a29 ?l29 ?c29 ?k29 ?a30 ?l30 ?c30 ?k30 ?a31 ?l31 ?c31 ?k31 ?a32 ?l32 ?c32 ?k32 ?a33 ?l33 ?c33 ?k33 ?z0 ?z1 ?z2 ?z3 ?z4 ?z5 ?z6 ?z7 ?z8 ?z9 ?z10 ?z11 ?z12 ?z13 ?y0 ?x0 ?y1 ?x1 ?cg0 ?ch0 ?co0 ?cs0 ?cf0_0 ?cf0_1 ?cra0 ?crb0 ?cm0 ?ck0 ?ct0_a ?ct0_b ?ct0_c ?ct0_d)
    (case ca0 => k_is)
    (case cr0 => k_is)
    (case a0 => k_is)
    (case l0 => k_is)
    (case c0 => k_is)
    (case k0 => k_is)
    (case a1 => k_is)
    (case l1 => k_is)
    (case c1 => k_is)
    (case k1 => k_is)
    (case a2 => k_is)
    (case l2 => k_is)
    (case c2 => k_is)
    (case k2 => k_is)
    (case a3 => k_is)
    (case l3 => k_is)
    (case c3 => k_is)
    (case k3 => k_is)
    (case a4 => k_is)
    (case l4 => k_is)
    (case c4 => k_is)
    (case k4 => k_is)
    (case a5 => k_is)
    (case l5 => k_is)
    (case c5 => k_is)
    (case k5 => k_is)
    (case a6 => k_is)
    (case l6 => k_is)
    (case c6 => k_is)
    (case k6 => k_is)
    (case a7 => k_is)
    (case l7 => k_is)
    (case c7 => k_is)
    (case k7 => k_is)
    (case a8 => k_is)
    (case l8 => k_is)
    (case c8 => k_is)
    (case k8 => k_is)
    (case a9 => k_is)
    (case i9 => k_is)
    (case l9 => k_is)
    (case c9 => k_is)
    (case k9 => k_is)
    (case a10 => k_is)
    (case i10 => k_is)
    (case l10 => k_is)
    (case c10 => k_is)
    (case k10 => k_is)
    (case a11 => k_is)
    (case i11 => k_is)
    (case l11 => k_is)
    (case c11 => k_is)
    (case k11 => k_is)
    (case a12 => k_is)
    (case pc12 => k_is)
    (case l12 => k_is)
    (case c12 => k_is)
    (case k12 => k_is)
    (case a13 => k_is)
    (case l13 => k_is)
    (case c13 => k_is)
    (case k13 => k_is)
    (case a14 => k_is)
    (case l14 => k_is)
    (case c14 => k_is)
    (case k14 => k_is)
    (case a15 => k_is)
    (case l15 => k_is)
    (case c15 => k_is)
    (case k15 => k_is)
    (case a16 => k_is)
    (case l16 => k_is)
    (case c16 => k_is)
    (case k16 => k_is)
    (case a17 => k_is)
    (case l17 => k_is)
    (case c17 => k_is)
    (case k17 => k_is)
    (case a18 => k_is)
    (case l18 => k_is)
    (case c18 => k_is)
    (case k18 => k_is)
    (case a19 => k_is)
    (case l19 => k_is)
    (case c19 => k_is)
    (case k19 => k_is)
    (case a20 => k_is)
    (case l20 => k_is)
    (case c20 => k_is)
    (case k20 => k_is)
    (case a21 => k_is)
    (case l21 => k_is)
    (case c21 => k_is)
    (case k21 => k_is)
    (case a22 => k_is)
    (case l22 => k_is)
    (case c22 => k_is)
    (case k22 => k_is)
    (case a23 => k_is)
    (case l23 => k_is)
    (case c23 => k_is)
    (case k23 => k_is)
    (case a24 => k_is)
    (case l24 => k_is)
    (case c24 => k_is)
    (case k24 => k_is)
    (case a25 => k_is)
    (case l25 => k_is)
    (case c25 => k_is)
    (case k25 => k_is)
    (case a26 => k_is)
    (case l26 => k_is)
    (case c26 => k_is)
    (case k26 => k_is)
    (case a27 => k_is)
    (case l27 => k_is)
    (case c27 => k_is)
    (case k27 => k_is)
    (case a28 => k_is)
    (case l28 => k_is)
    (case c28 => k_is)
    (case k28 => k_is)
    (case a29 => k_is)
    (case l29 => k_is)
    (case c29 => k_is)
    (case k29 => k_is)
    (case a30 => k_is)
    (case l30 => k_is)
    (case c30 => k_is)
    (case k30 => k_is)
    (case a31 => k_is)
    (case l31 => k_is)
    (case c31 => k_is)
    (case k31 => k_is)
    (case a32 => k_is)
    (case l32 => k_is)
    (case c32 => k_is)
    (case k32 => k_is)
    (case a33 => k_is)
    (case l33 => k_is)
    (case c33 => k_is)
    (case k33 => k_is)
    (case z0 => k_is)
    (case z1 => k_is)
    (case z2 => k_is)
    (case z3 => k_is)
    (case z4 => k_is)
    (case z5 => k_is)
    (case z6 => k_is)
    (case z7 => k_is)
    (case z8 => k_is)
    (case z9 => k_is)
    (case z10 => k_is)
    (case z11 => k_is)
    (case z12 => k_is)
    (case z13 => k_is)
    (case y0 => k_is)
    (case x0 => exact ⟨_, rfl⟩)
    (case y1 => k_is)
    (case x1 => exact ⟨_, rfl⟩)
    (case cg0 => k_is)
    (case ch0 => k_is)
    (case co0 => k_is)
    (case cs0 => k_is)
    (case cf0_0 => k_is)
    (case cf0_1 => k_is)
    (case cra0 => k_is)
    (case crb0 => k_is)
    (case cm0 => k_is)
    (case ck0 => k_is)
    (case ct0_a => k_is)
    (case ct0_b => k_is)
    (case ct0_c => k_is)
    (case ct0_d => k_is)
